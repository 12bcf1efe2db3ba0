import PyProof.Rows.All
import Wide.All
import OpenK.AllK
import Wide.FinOn
import HandS.ForMost
import HandS.ForExc
import HandS.Lambda
import HandS.CallSlots
import HandS.FStr
import HandS.Strs
import HandS.TupLe
import KE.GoesMore
import KE.GoesEnum
import HandS.GenList
import HandS.AnyAll
import PyProof.TupleOfGen
import KE.KDictPairs
import HandS.Rev
import HandS.Keys
import HandS.Style
import HandS.More
import PyProof.DictWalks
import HandS.Head0
import HandS.Head1
import HandS.Head2
import HandS.HeadHook1
import HandS.HeadHook2
import HandS.HeadHook3
import HandS.HeadHook4
import HandS.HeadWalk
import PySem.Challenge.RW_quipustack_k01_knots_and_numbers
set_option Elab.async false
set_option linter.all false
set_option maxRecDepth 100000
set_option maxHeartbeats 4000000
/-! Data without the heap, a store of what changes, and what the hand layer's readings say of them. -/
namespace QD
open PySem PySem.Spec PyProof.Rows L2

/-- data: what is never changed, told whole; ref: whatever stands at an address; scr: the script -/
inductive D where
  | non | bl (b : Bool) | int (i : Int) | str (x : Str)
  | lst (ds : List D) | tup (ds : List D)
  | dct (ks : List Key) (ds : List D) | dcu (ks : List (List Key)) (ds : List D)
  | obj (C : Addr) (ns : List Str) (ds : List D)
  | ref (a : Addr)
  | scr (ns : List Int)
  | tupf (ds : List D)
  | fnc (q : Str) (ps : Arguments) (body : Expr) (scope : Scope) (cl : List (Str × Addr))
/-- what may be changed -/
inductive Cell where
  | lst (ds : List D) | dct (ks : List Key) (ds : List D) | dcu (ks : List (List Key)) (ds : List D)
  | ins (C : Addr) (ns : List Str) (ds : List D)
  | frz (o : Obj) (c : Cell)
abbrev Sto := Addr → Option Cell
def Sto.put (S : Sto) (a : Addr) (c : Cell) : Sto := fun b => if b = a then some c else S b
def Sto.del (S : Sto) (a : Addr) : Sto := fun b => if b = a then none else S b
theorem Sto.put_same {S : Sto} {a : Addr} {c : Cell} : S.put a c a = some c := if_pos rfl
theorem Sto.put_ne {S : Sto} {a b : Addr} {c : Cell} (h : b ≠ a) : S.put a c b = S b := if_neg h
theorem Sto.del_same {S : Sto} {a : Addr} : S.del a a = none := if_pos rfl
theorem Sto.del_ne {S : Sto} {a b : Addr} (h : b ≠ a) : S.del a b = S b := if_neg h
theorem Sto.put_put {S : Sto} {a : Addr} {c d : Cell} : (S.put a c).put a d = S.put a d := by
  funext b
  by_cases h : b = a
  · subst h; rw [put_same, put_same]
  · rw [put_ne h, put_ne h, put_ne h]
theorem Sto.put_self {S : Sto} {a : Addr} {c : Cell} (h : S a = some c) : S.put a c = S := by
  funext b
  by_cases e : b = a
  · subst e; rw [put_same, h]
  · rw [put_ne e]
theorem Sto.put_comm {S : Sto} {a b : Addr} {c d : Cell} (h : a ≠ b) : (S.put a c).put b d = (S.put b d).put a c := by
  funext x
  by_cases h1 : x = a
  · subst h1; rw [put_ne h, put_same, put_same]
  · by_cases h2 : x = b
    · subst h2; rw [put_same, put_ne h1, put_same]
    · rw [put_ne h2, put_ne h1, put_ne h1, put_ne h2]
theorem Sto.del_put {S : Sto} {a : Addr} {c : Cell} (h : S a = none) : (S.put a c).del a = S := by
  funext b
  by_cases e : b = a
  · subst e; rw [del_same, h]
  · rw [del_ne e, put_ne e]

def StL (K : PySem.W.Frag) (a : Addr) (xs : List V) : Prop :=
  ∃ (o : Obj) (its : Array Value) (n : Nat), K.lookup a = some o ∧ o.cls = .type "list" ∧ o.dict = none ∧ o.data = .seq its n ∧ its.size ≤ sizeLine ∧ Vals xs its.toList
def StT (K : PySem.W.Frag) (a : Addr) (xs : List V) : Prop :=
  ∃ (o : Obj) (its : Array Value) (n : Nat), K.lookup a = some o ∧ o.cls = .type "tuple" ∧ o.data = .seq its n ∧ its.size ≤ sizeLine ∧ Vals xs its.toList
/-- it stands at a, and is not in the store -/
def Im (S : Sto) (H : Hp) (a : Addr) (u : HO) : Prop := S a = none ∧ Rd H a u

/-- a lambda's own object at a, its code object at c -/
def FunO (a : Addr) (q : Str) (ps : Arguments) (body : Expr) (scope : Scope) (cl : List (Str × Addr)) (c : Addr) : Heap → Prop := fun h => ∃ pm ctv, h.get? a = some (PySem.W.kla_obj "<lambda>" q ps body scope cl pm c ctv)
mutual
def Rep (K : PySem.W.Frag) (S : Sto) (H : Hp) : D → V → Prop
  | .non, v => v = .non
  | .bl b, v => v = .bl b
  | .int i, v => v = .int i
  | .str x, v => v = .str x
  | .lst ds, v => ∃ a vs, v = .ref a ∧ S a = none ∧ H a = some (.lst vs) ∧ RepL K S H ds vs
  | .tup ds, v => ∃ a vs, v = .ref a ∧ (Im S H a (.tup vs) ∨ StT K a vs) ∧ RepL K S H ds vs
  | .dct ks ds, v => ∃ a vs, v = .ref a ∧ Im S H a (.dK (ks.zip vs)) ∧ ks.length = ds.length ∧ RepL K S H ds vs
  | .dcu ks ds, v => ∃ a vs, v = .ref a ∧ Im S H a (.dT (ks.zip vs)) ∧ ks.length = ds.length ∧ RepL K S H ds vs
  | .obj C ns ds, v => ∃ a dx vs, v = .ref a ∧ S a = none ∧ H a = some (.ins C dx (ns.zip vs)) ∧ ns.length = ds.length ∧ RepL K S H ds vs
  | .ref a, v => v = .ref a
  | .scr ns, v => ∃ a, v = .ref a ∧ (Im S H a (.lst (ns.map V.int)) ∨ StL K a (ns.map V.int))
  | .tupf ds, v => ∃ a vs o, v = .ref a ∧ S a = none ∧ H a = some (.frz o (.tup vs)) ∧ o.dict = none ∧ RepL K S H ds vs
  | .fnc q ps body scope cl, v => ∃ a c, v = .ref a ∧ S a = none ∧ H a = some (.ext (FunO a q ps body scope cl c)) ∧ S c = none ∧ H c = some (LamX.CodeO c q)
def RepL (K : PySem.W.Frag) (S : Sto) (H : Hp) : List D → List V → Prop
  | [], vs => vs = []
  | d :: ds, vs => ∃ v ws, vs = v :: ws ∧ Rep K S H d v ∧ RepL K S H ds ws
end

def isDk : HO → Bool
  | .dK _ => true
  | .dT _ => true
  | _ => false
def isTb : HO → Bool
  | .tbl _ => true
  | _ => false
/-- u stands there yet (a dict may have been locked meanwhile) -/
def Keep (u : HO) (o : Option HO) : Prop := o = some u ∨ (isDk u = true ∧ ∃ f, o = some (.frz f u))
/-- what was not in the store stands, and is not in the store -/
def Ext (S : Sto) (H : Hp) (S' : Sto) (H' : Hp) : Prop := ∀ a u, S a = none → H a = some u → isTb u = false → S' a = none ∧ Keep u (H' a)
section
variable {S S1 S2 : Sto} {H H1 H2 : Hp}
theorem Ext.refl : Ext S H S H := fun a u h1 h2 _ => ⟨h1, .inl h2⟩
theorem Ext.trans (x : Ext S H S1 H1) (y : Ext S1 H1 S2 H2) : Ext S H S2 H2 := fun a u h1 h2 h3 => by
  obtain ⟨e1, k1⟩ := x a u h1 h2 h3
  rcases k1 with k1 | ⟨d1, f, k1⟩
  · exact y a u e1 k1 h3
  · obtain ⟨e2, k2⟩ := y a _ e1 k1 rfl
    refine ⟨e2, ?_⟩
    rcases k2 with k2 | ⟨d2, _⟩
    · exact .inr ⟨d1, f, k2⟩
    · cases d2
theorem Ext.new {p : Addr} {o : HO} (h : H p = none) : Ext S H S (upd H p o) := fun a u h1 h2 _ => ⟨h1, .inl (by rw [upd_ne (ne_of_none h2 h)]; exact h2)⟩
theorem Ext.new2 {p : Addr} {o : HO} {c : Cell} (h : H p = none) : Ext S H (S.put p c) (upd H p o) := fun a u h1 h2 _ => by
  have e := ne_of_none h2 h
  exact ⟨by rw [Sto.put_ne e]; exact h1, .inl (by rw [upd_ne e]; exact h2)⟩
theorem Ext.set {p : Addr} {o : HO} {c c' : Cell} (h : S p = some c) : Ext S H (S.put p c') (upd H p o) := fun a u h1 h2 _ => by
  have e : a ≠ p := fun z => by rw [z, h] at h1; cases h1
  exact ⟨by rw [Sto.put_ne e]; exact h1, .inl (by rw [upd_ne e]; exact h2)⟩
theorem Ext.sto {S' : Sto} (h : ∀ a, S a = none → S' a = none) : Ext S H S' H := fun a u h1 h2 _ => ⟨h a h1, .inl h2⟩
theorem Im.ext {a : Addr} {u : HO} (x : Im S H a u) (e : Ext S H S1 H1) (hu : isTb u = false) : Im S1 H1 a u := by
  obtain ⟨h1, h2 | ⟨o, h2⟩⟩ := x
  · obtain ⟨e1, k⟩ := e a u h1 h2 hu
    rcases k with k | ⟨_, f, k⟩
    · exact ⟨e1, .inl k⟩
    · exact ⟨e1, .inr ⟨f, k⟩⟩
  · obtain ⟨e1, k⟩ := e a _ h1 h2 rfl
    rcases k with k | ⟨z, _⟩
    · exact ⟨e1, .inr ⟨o, k⟩⟩
    · cases z
end
section
variable {K : PySem.W.Frag} {S S1 S2 : Sto} {H H1 H2 : Hp}
mutual
theorem Rep.ext (e : Ext S H S1 H1) : ∀ {d : D} {v : V}, Rep K S H d v → Rep K S1 H1 d v
  | .non, v, h => by simpa only [Rep] using h
  | .bl b, v, h => by simpa only [Rep] using h
  | .int i, v, h => by simpa only [Rep] using h
  | .str x, v, h => by simpa only [Rep] using h
  | .ref a, v, h => by simpa only [Rep] using h
  | .lst ds, v, h => by
    simp only [Rep] at h ⊢
    obtain ⟨a, vs, rfl, h1, h3, h2⟩ := h
    obtain ⟨e1, k⟩ := e a _ h1 h3 rfl
    rcases k with k | ⟨z, _⟩
    · exact ⟨a, vs, rfl, e1, k, RepL.ext e h2⟩
    · cases z
  | .scr ns, v, h => by
    simp only [Rep] at h ⊢
    obtain ⟨a, rfl, h1⟩ := h
    exact ⟨a, rfl, h1.imp (fun z => z.ext e rfl) id⟩
  | .tupf ds, v, h => by
    simp only [Rep] at h ⊢
    obtain ⟨a, vs, o, rfl, h1, h2, h3, h4⟩ := h
    obtain ⟨e1, k1⟩ := e a _ h1 h2 rfl
    rcases k1 with k1 | ⟨z, _⟩
    · exact ⟨a, vs, o, rfl, e1, k1, h3, RepL.ext e h4⟩
    · cases z
  | .fnc q ps body scope cl, v, h => by
    simp only [Rep] at h ⊢
    obtain ⟨a, c, rfl, h1, h2, h3, h4⟩ := h
    obtain ⟨e1, k1⟩ := e a _ h1 h2 rfl
    obtain ⟨e2, k2⟩ := e c _ h3 h4 rfl
    rcases k1 with k1 | ⟨z, _⟩
    · rcases k2 with k2 | ⟨z, _⟩
      · exact ⟨a, c, rfl, e1, k1, e2, k2⟩
      · cases z
    · cases z
  | .tup ds, v, h => by
    simp only [Rep] at h ⊢
    obtain ⟨a, vs, rfl, h1, h2⟩ := h
    exact ⟨a, vs, rfl, h1.imp (fun z => z.ext e rfl) id, RepL.ext e h2⟩
  | .dct ks ds, v, h => by
    simp only [Rep] at h ⊢
    obtain ⟨a, vs, rfl, h1, h0, h2⟩ := h
    exact ⟨a, vs, rfl, h1.ext e rfl, h0, RepL.ext e h2⟩
  | .dcu ks ds, v, h => by
    simp only [Rep] at h ⊢
    obtain ⟨a, vs, rfl, h1, h0, h2⟩ := h
    exact ⟨a, vs, rfl, h1.ext e rfl, h0, RepL.ext e h2⟩
  | .obj C ns ds, v, h => by
    simp only [Rep] at h ⊢
    obtain ⟨a, dx, vs, rfl, h1, h3, h0, h2⟩ := h
    obtain ⟨e1, k⟩ := e a _ h1 h3 rfl
    rcases k with k | ⟨z, _⟩
    · exact ⟨a, dx, vs, rfl, e1, k, h0, RepL.ext e h2⟩
    · cases z
theorem RepL.ext (e : Ext S H S1 H1) : ∀ {ds : List D} {vs : List V}, RepL K S H ds vs → RepL K S1 H1 ds vs
  | [], vs, h => by simpa only [RepL] using h
  | d :: ds, vs, h => by
    simp only [RepL] at h ⊢
    obtain ⟨v, ws, rfl, h1, h2⟩ := h
    exact ⟨v, ws, rfl, Rep.ext e h1, RepL.ext e h2⟩
end
theorem repL_nil : RepL K S H [] [] := by simp only [RepL]
theorem repL_cons {d : D} {ds : List D} {v : V} {vs : List V} (h : Rep K S H d v) (r : RepL K S H ds vs) : RepL K S H (d :: ds) (v :: vs) := by
  simp only [RepL]
  exact ⟨v, vs, rfl, h, r⟩
theorem RepL.length : ∀ {ds : List D} {vs : List V}, RepL K S H ds vs → ds.length = vs.length
  | [], vs, h => by simp only [RepL] at h; rw [h] <;> rfl
  | d :: ds, vs, h => by
    simp only [RepL] at h
    obtain ⟨v, ws, rfl, _, h2⟩ := h
    rw [List.length_cons, List.length_cons, RepL.length h2]
theorem RepL.get : ∀ {ds : List D} {vs : List V} {i : Nat} {d : D}, RepL K S H ds vs → ds[i]? = some d → ∃ v, vs[i]? = some v ∧ Rep K S H d v
  | [], vs, i, d, h, e => by simp at e
  | x :: ds, vs, 0, d, h, e => by
    simp only [RepL] at h
    obtain ⟨v, ws, rfl, h1, h2⟩ := h
    simp at e
    subst e
    exact ⟨v, rfl, h1⟩
  | x :: ds, vs, i + 1, d, h, e => by
    simp only [RepL] at h
    obtain ⟨v, ws, rfl, h1, h2⟩ := h
    obtain ⟨w, e1, e2⟩ := RepL.get (i := i) h2 (by simpa using e)
    exact ⟨w, by simpa using e1, e2⟩
theorem RepL.get' {ds : List D} {vs : List V} {i : Nat} {v : V} (h : RepL K S H ds vs) (e : vs[i]? = some v) : ∃ d, ds[i]? = some d ∧ Rep K S H d v := by
  have hl := h.length
  have hi : i < vs.length := (List.getElem?_eq_some_iff.mp e).1
  have hi' : i < ds.length := by omega
  obtain ⟨w, e1, e2⟩ := h.get (List.getElem?_eq_getElem hi')
  rw [e] at e1
  cases e1
  exact ⟨_, List.getElem?_eq_getElem hi', e2⟩
theorem RepL.append : ∀ {ds es : List D} {vs ws : List V}, RepL K S H ds vs → RepL K S H es ws → RepL K S H (ds ++ es) (vs ++ ws)
  | [], es, vs, ws, h, g => by simp only [RepL] at h; subst h; exact g
  | d :: ds, es, vs, ws, h, g => by
    simp only [RepL] at h
    obtain ⟨v, us, rfl, h1, h2⟩ := h
    exact repL_cons h1 (RepL.append h2 g)
theorem RepL.drop : ∀ {ds : List D} {vs : List V} (n : Nat), RepL K S H ds vs → RepL K S H (ds.drop n) (vs.drop n)
  | ds, vs, 0, h => h
  | [], vs, n + 1, h => by simp only [RepL] at h; subst h; exact repL_nil
  | d :: ds, vs, n + 1, h => by
    simp only [RepL] at h
    obtain ⟨v, us, rfl, h1, h2⟩ := h
    exact RepL.drop n h2
theorem RepL.take : ∀ {ds : List D} {vs : List V} (n : Nat), RepL K S H ds vs → RepL K S H (ds.take n) (vs.take n)
  | ds, vs, 0, h => repL_nil
  | [], vs, n + 1, h => by simp only [RepL] at h; subst h; exact repL_nil
  | d :: ds, vs, n + 1, h => by
    simp only [RepL] at h
    obtain ⟨v, us, rfl, h1, h2⟩ := h
    exact repL_cons h1 (RepL.take n h2)
theorem RepL.set : ∀ {ds : List D} {vs : List V} {d : D} {v : V} (n : Nat), RepL K S H ds vs → Rep K S H d v → RepL K S H (ds.set n d) (vs.set n v)
  | [], vs, d, v, n, h, g => by simp only [RepL] at h; subst h; exact repL_nil
  | x :: ds, vs, d, v, 0, h, g => by
    simp only [RepL] at h
    obtain ⟨y, us, rfl, h1, h2⟩ := h
    exact repL_cons g h2
  | x :: ds, vs, d, v, n + 1, h, g => by
    simp only [RepL] at h
    obtain ⟨y, us, rfl, h1, h2⟩ := h
    exact repL_cons h1 (RepL.set n h2 g)
theorem RepL.flat (k : Nat) {ds : List D} {vs : List V} (h : RepL K S H ds vs) : RepL K S H (List.replicate k ds).flatten (List.replicate k vs).flatten := by
  induction k with
  | zero => exact repL_nil
  | succ k ih =>
    rw [List.replicate_succ, List.replicate_succ, List.flatten_cons, List.flatten_cons]
    exact h.append ih
theorem repL_of {α : Type} {f : α → D} {g : α → V} : ∀ {xs : List α}, (∀ x ∈ xs, Rep K S H (f x) (g x)) → RepL K S H (xs.map f) (xs.map g)
  | [], _ => repL_nil
  | x :: xs, h => repL_cons (h x List.mem_cons_self) (repL_of fun y hy => h y (List.mem_cons_of_mem _ hy))
theorem repL_ints : ∀ {ns : List Int} {vs : List V}, RepL K S H (ns.map D.int) vs → vs = ns.map V.int
  | [], vs, h => by simpa only [RepL, List.map_nil] using h
  | n :: ns, vs, h => by
    simp only [RepL, List.map_cons, Rep] at h
    obtain ⟨v, ws, rfl, rfl, h2⟩ := h
    rw [repL_ints h2]
    rfl
theorem repL_strs : ∀ {ns : List Str} {vs : List V}, RepL K S H (ns.map D.str) vs → vs = ns.map V.str
  | [], vs, h => by simpa only [RepL, List.map_nil] using h
  | n :: ns, vs, h => by
    simp only [RepL, List.map_cons, Rep] at h
    obtain ⟨v, ws, rfl, rfl, h2⟩ := h
    rw [repL_strs h2]
    rfl
theorem repL_bls : ∀ {ns : List Bool} {vs : List V}, RepL K S H (ns.map D.bl) vs → vs = ns.map V.bl
  | [], vs, h => by simpa only [RepL, List.map_nil] using h
  | n :: ns, vs, h => by
    simp only [RepL, List.map_cons, Rep] at h
    obtain ⟨v, ws, rfl, rfl, h2⟩ := h
    rw [repL_bls h2]
    rfl
end

/-! ### the store and the heap -/
def CellU (K : PySem.W.Frag) (S : Sto) (H : Hp) : Cell → HO → Prop
  | .lst ds, u => ∃ vs, u = .lst vs ∧ RepL K S H ds vs
  | .dct ks ds, u => ∃ vs, u = .dK (ks.zip vs) ∧ ks.length = ds.length ∧ RepL K S H ds vs
  | .dcu ks ds, u => ∃ vs, u = .dT (ks.zip vs) ∧ ks.length = ds.length ∧ RepL K S H ds vs
  | .ins C ns ds, u => ∃ dx vs, u = .ins C dx (ns.zip vs) ∧ ns.length = ds.length ∧ RepL K S H ds vs
  | .frz o c, u => ∃ w, u = .frz o w ∧ CellU K S H c w
theorem CellU.ext {K : PySem.W.Frag} {S S1 : Sto} {H H1 : Hp} (e : Ext S H S1 H1) : ∀ {c : Cell} {u : HO}, CellU K S H c u → CellU K S1 H1 c u
  | .lst ds, u, ⟨vs, h1, h2⟩ => ⟨vs, h1, h2.ext e⟩
  | .dct ks ds, u, ⟨vs, h1, h0, h2⟩ => ⟨vs, h1, h0, h2.ext e⟩
  | .dcu ks ds, u, ⟨vs, h1, h0, h2⟩ => ⟨vs, h1, h0, h2.ext e⟩
  | .ins C ns ds, u, ⟨dx, vs, h1, h0, h2⟩ => ⟨dx, vs, h1, h0, h2.ext e⟩
  | .frz o c, u, ⟨w, h1, h2⟩ => ⟨w, h1, CellU.ext e h2⟩
theorem CellU.noTb {K : PySem.W.Frag} {S : Sto} {H : Hp} {c : Cell} {u : HO} (h : CellU K S H c u) : isTb u = false := by
  cases c with
  | lst ds => obtain ⟨_, rfl, _⟩ := h; rfl
  | dct ks ds => obtain ⟨_, rfl, _⟩ := h; rfl
  | dcu ks ds => obtain ⟨_, rfl, _⟩ := h; rfl
  | ins C ns ds => obtain ⟨_, _, rfl, _⟩ := h; rfl
  | frz o c => obtain ⟨_, rfl, _⟩ := h; rfl

/-- what is fixed: the written part, the tables of code objects (those of lambdas with their names) -/
structure Mo where
  K : PySem.W.Frag
  tg : List Addr
  tl : List (Addr × Str)
def TabG (H : Hp) (P : Addr) : Prop := ∃ ps : Array Value, H P = some (.tbl ps) ∧ TriplesOk ps.toList
structure EnvH (M : Mo) (S : Sto) (H : Hp) : Prop where
  cell : ∀ a c, S a = some c → ∃ u, H a = some u ∧ CellU M.K S H c u
  tg : ∀ P ∈ M.tg, TabG H P
  tl : LamX.Tabs M.tl H
section
variable {M : Mo} {S S1 S2 : Sto} {H H1 H2 : Hp}
theorem EnvH.none (E : EnvH M S H) {a : Addr} (h : H a = none) : S a = Option.none := by
  cases e : S a with
  | none => rfl
  | some c =>
    obtain ⟨u, hu, _⟩ := E.cell a c e
    rw [h] at hu
    cases hu
theorem TabG.upd {P p : Addr} {o : HO} (t : TabG H P) (h : ∀ ps, H p ≠ some (.tbl ps)) : TabG (L2.upd H p o) P := by
  obtain ⟨ps, h1, h2⟩ := t
  have e : P ≠ p := fun z => h ps (by rw [← z]; exact h1)
  exact ⟨ps, by rw [upd_ne e]; exact h1, h2⟩
theorem tabs_upd {T : List (Addr × Str)} {p : Addr} {o : HO} (t : LamX.Tabs T H) (h : ∀ ps, H p ≠ some (.tbl ps)) (h2 : ∀ φ, H p ≠ some (.ext φ)) : LamX.Tabs T (L2.upd H p o) := fun q hq => by
  obtain ⟨ps, h1, h3, h4⟩ := t q hq
  have e : q.1 ≠ p := fun z => h ps (by rw [← z]; exact h1)
  refine ⟨ps, by rw [upd_ne e]; exact h1, h3, fun pos cv hc => ?_⟩
  obtain ⟨c, e1, e2⟩ := h4 pos cv hc
  have e' : c ≠ p := fun z => h2 _ (by rw [← z]; exact e2)
  exact ⟨c, e1, by rw [upd_ne e']; exact e2⟩
/-- a new object that the store does not know -/
theorem EnvH.new (E : EnvH M S H) {p : Addr} {o : HO} (h : H p = Option.none) : EnvH M S (L2.upd H p o) where
  cell := fun a c e => by
    obtain ⟨u, h1, h2⟩ := E.cell a c e
    exact ⟨u, by rw [upd_ne (ne_of_none h1 h)]; exact h1, h2.ext (Ext.new h)⟩
  tg := fun P hP => (E.tg P hP).upd (by rw [h]; intro ps z; cases z)
  tl := tabs_upd E.tl (by rw [h]; intro ps z; cases z) (by rw [h]; intro ps z; cases z)
/-- a new object that the store knows -/
theorem EnvH.new2 (E : EnvH M S H) {p : Addr} {o : HO} {c : Cell} (h : H p = Option.none) (hc : CellU M.K (S.put p c) (L2.upd H p o) c o) : EnvH M (S.put p c) (L2.upd H p o) where
  cell := fun a d e => by
    by_cases ea : a = p
    · subst ea
      rw [Sto.put_same] at e
      cases e
      exact ⟨o, upd_same, hc⟩
    · rw [Sto.put_ne ea] at e
      obtain ⟨u, h1, h2⟩ := E.cell a d e
      exact ⟨u, by rw [upd_ne ea]; exact h1, h2.ext (Ext.new2 h)⟩
  tg := fun P hP => (E.tg P hP).upd (by rw [h]; intro ps z; cases z)
  tl := tabs_upd E.tl (by rw [h]; intro ps z; cases z) (by rw [h]; intro ps z; cases z)
theorem EnvH.noTb (E : EnvH M S H) {p : Addr} {c : Cell} (h : S p = some c) : (∀ ps, H p ≠ some (.tbl ps)) ∧ ∀ φ, H p ≠ some (.ext φ) := by
  obtain ⟨u, h1, h2⟩ := E.cell p c h
  refine ⟨fun ps z => ?_, fun φ z => ?_⟩
  · rw [h1] at z
    cases z
    have := h2.noTb
    cases this
  · rw [h1] at z
    cases z
    cases c with
    | lst ds => obtain ⟨_, q, _⟩ := h2; cases q
    | dct ks ds => obtain ⟨_, q, _⟩ := h2; cases q
    | dcu ks ds => obtain ⟨_, q, _⟩ := h2; cases q
    | ins C ns ds => obtain ⟨_, _, q, _⟩ := h2; cases q
    | frz o c => obtain ⟨_, q, _⟩ := h2; cases q
/-- what the store knows is changed -/
theorem EnvH.set (E : EnvH M S H) {p : Addr} {o : HO} {c c' : Cell} (h : S p = some c) (hc : CellU M.K (S.put p c') (L2.upd H p o) c' o) : EnvH M (S.put p c') (L2.upd H p o) where
  cell := fun a d e => by
    by_cases ea : a = p
    · subst ea
      rw [Sto.put_same] at e
      cases e
      exact ⟨o, upd_same, hc⟩
    · rw [Sto.put_ne ea] at e
      obtain ⟨u, h1, h2⟩ := E.cell a d e
      exact ⟨u, by rw [upd_ne ea]; exact h1, h2.ext (Ext.set h)⟩
  tg := fun P hP => (E.tg P hP).upd (E.noTb h).1
  tl := tabs_upd E.tl (E.noTb h).1 (E.noTb h).2
/-- what the store knew is data from now on -/
theorem EnvH.del (E : EnvH M S H) (p : Addr) : EnvH M (S.del p) H where
  cell := fun a d e => by
    by_cases ea : a = p
    · subst ea
      rw [Sto.del_same] at e
      cases e
    · rw [Sto.del_ne ea] at e
      obtain ⟨u, h1, h2⟩ := E.cell a d e
      refine ⟨u, h1, h2.ext (Ext.sto fun b hb => ?_)⟩
      by_cases eb : b = p
      · subst eb; exact Sto.del_same
      · rw [Sto.del_ne eb]; exact hb
  tg := E.tg
  tl := E.tl
theorem Ext.del (p : Addr) : Ext S H (S.del p) H := Ext.sto fun b hb => by
  by_cases eb : b = p
  · subst eb; exact Sto.del_same
  · rw [Sto.del_ne eb]; exact hb
end

/-- the names' data -/
abbrev Ga := List (Option D)
structure Env (M : Mo) (σ : L2.St) (H : Hp) (Γ : Ga) (S : Sto) : Prop where
  hp : EnvH M S H
  len : σ.length = Γ.length
  at_ : ∀ (i : Nat) (d : D), Γ[i]? = some (some d) → ∃ v, σ[i]? = some (some v) ∧ Rep M.K S H d v
theorem Env.ext {M : Mo} {σ : L2.St} {H H1 : Hp} {Γ : Ga} {S S1 : Sto} (E : Env M σ H Γ S) (h : EnvH M S1 H1) (e : Ext S H S1 H1) : Env M σ H1 Γ S1 :=
  ⟨h, E.len, fun i d hd => let ⟨v, h1, h2⟩ := E.at_ i d hd; ⟨v, h1, h2.ext e⟩⟩
theorem Env.set {M : Mo} {σ : L2.St} {H : Hp} {Γ : Ga} {S : Sto} (E : Env M σ H Γ S) (i : Nat) {d : D} {v : V} (r : Rep M.K S H d v) : Env M (σ.set i (some v)) H (Γ.set i (some d)) S := by
  refine ⟨E.hp, by rw [List.length_set, List.length_set]; exact E.len, fun j x hx => ?_⟩
  by_cases hj : i = j
  · subst hj
    have hi : i < Γ.length := by
      have := (List.getElem?_eq_some_iff.mp hx).1
      rwa [List.length_set] at this
    rw [List.getElem?_set_self hi] at hx
    cases hx
    exact ⟨v, List.getElem?_set_self (by rw [E.len]; exact hi), r⟩
  · rw [List.getElem?_set_ne hj] at hx
    obtain ⟨w, h1, h2⟩ := E.at_ j x hx
    exact ⟨w, by rw [List.getElem?_set_ne hj]; exact h1, h2⟩
/-- a name may be forgotten -/
theorem Env.weak {M : Mo} {σ : L2.St} {H : Hp} {Γ Γ' : Ga} {S : Sto} (E : Env M σ H Γ S) (hl : Γ'.length = Γ.length) (h : ∀ (i : Nat) (d : D), Γ'[i]? = some (some d) → Γ[i]? = some (some d)) : Env M σ H Γ' S :=
  ⟨E.hp, E.len.trans hl.symm, fun i d hd => E.at_ i d (h i d hd)⟩
end QD
set_option maxHeartbeats 4000000
/-! The walk over data: expressions. -/
namespace QD
open PySem PySem.Spec PyProof.Rows L2

structure Fix where
  P : Program
  w : World
  M : Mo
  mg : Str → Option Value
  base : Heap
/-- where one stands -/
structure XC (F : Fix) (N : List Str) (sc : Scope) (k : Nat) (X : Cx) (W : WX) : Prop where
  hP : X.prog = F.P
  hw : X.w = F.w
  hK : X.K = F.M.K
  hm : X.mg = F.mg
  hb : X.base = F.base
  hN : X.N = N
  nd : N.Nodup
  hs : X.env.scope = sc
  calm : X.calm = true
  room : Room k X.A
  tk : Takes X W
  own : PassesOwn (model X.prog X.w) X.A X.env X.xe

/-! ### the weakest readings -/
/-- a fence: reading an application stops here and does not run the program -/
structure Bx (p : Prop) : Prop where
  run : p
section
variable (X : Cx)
def wpE (e : Expr) : TE := fun σ H Q => Bx (∀ pins s, Inv X pins σ H s → wpAny (model X.prog X.w) X.A (eval e X.env) (EP X pins σ Q) X.xe s)
def wpT (e : Expr) : TT := fun σ H Q => Bx (∀ pins s, Inv X pins σ H s → wpAny (model X.prog X.w) X.A (isTrue e X.env (eval e X.env)) (TP X pins σ Q) X.xe s)
def wpW (e : Expr) : TT := fun σ H Q => Bx (∀ whole pins s, Inv X pins σ H s → wpAny (model X.prog X.w) X.A (isTrue e X.env whole) (TP X pins σ Q) X.xe s)
def wpA (es : List Expr) : TA := fun σ H Q => Bx (∀ pos pins s, Inv X pins σ H s → wpAny (model X.prog X.w) X.A (spliced (backTo pos (starEach es X.env))) (AP X pins σ Q) X.xe s)
def wpS (st : Stmt) : TS := fun D σ H => Bx (∀ pins s, Inv X pins σ H s → wpAny (model X.prog X.w) X.A (exec st X.env) (SP X pins D) X.xe s)
def wpB (st : List Stmt) : TS := fun D σ H => Bx (∀ pins s, Inv X pins σ H s → wpAny (model X.prog X.w) X.A (execs st X.env) (SP X pins D) X.xe s)
def wpR (f : Value → Value → Sem Value) : R2 := fun x y H Q => Bx (∀ pins s σ v u, Inv X pins σ H s → RelV x v → RelV y u → wpAny (model X.prog X.w) X.A (f v u) (EP X pins σ Q) X.xe s)
def wpU (f : Value → Sem Value) : V → Hp → VK → Prop := fun x H Q => Bx (∀ pins s σ v, Inv X pins σ H s → RelV x v → wpAny (model X.prog X.w) X.A (f v) (EP X pins σ Q) X.xe s)
def wpC (f : Value) : List V → Hp → VK → Prop := fun xs H Q => Bx (∀ pins s σ us, Inv X pins σ H s → Vals xs us → wpAny (model X.prog X.w) X.A (call f us) (EP X pins σ Q) X.xe s)
def wpX : R2 := fun x y H Q => Bx (∀ value slice pins s σ v u, Inv X pins σ H s → RelV x v → RelV y u → subscripted slice false v u = operate [v, u] (getItem v u) →
  wpAny (model X.prog X.w) X.A (subscriptTail value slice v u) (EP X pins σ Q) X.xe s)
def wpM (id : String) : V → List V → Hp → VK → Prop := fun x xs H Q => Bx (∀ pins s σ v us, Inv X pins σ H s → RelV x v → Vals xs us → wpAny (model X.prog X.w) X.A (call (.builtin id) (v :: us)) (EP X pins σ Q) X.xe s)
end
section
variable {X : Cx} {σ : L2.St} {H : Hp}
theorem pe_wp {e : Expr} : PE X e (wpE X e) := ⟨fun pins s σ H Q I h => h.run pins s I⟩
theorem pt_wp {e : Expr} : PT X e (wpT X e) := ⟨fun pins s σ H Q I h => h.run pins s I⟩
theorem pw_wp {e : Expr} : PW X e (wpW X e) := ⟨fun wh pins s σ H Q I h => h.run wh pins s I⟩
theorem pa_wp {es : List Expr} : PA X es (wpA X es) := ⟨fun pos pins s σ H Q I h => h.run pos pins s I⟩
theorem ps_wp {st : Stmt} : PS X st (wpS X st) := ⟨fun pins s σ H D I h => h.run pins s I⟩
theorem pb_wp {st : List Stmt} : PSs X st (wpB X st) := ⟨fun pins s σ H D I h => h.run pins s I⟩
theorem or_wp {f : Value → Value → Sem Value} : OpR X f (wpR X f) := fun pins s σ H x y v u Q I r1 r2 h => h.run pins s σ v u I r1 r2
theorem ur_wp {f : Value → Sem Value} : UnR X f (wpU X f) := fun pins s σ H x v Q I r1 h => h.run pins s σ v I r1
theorem cr_wp {f : Value} : CallR X f (wpC X f) := fun pins s σ H xs us Q I r1 h => h.run pins s σ us I r1
theorem ir_wp : IxR X (wpX X) := fun value slice pins s σ H x y v u Q I r1 r2 h e => h.run value slice pins s σ v u I r1 r2 e
theorem mr_wp {id : String} : MtR X id (wpM X id) := fun pins s σ H x xs v us Q I r1 r2 h => h.run pins s σ v us I r1 r2
theorem _root_.L2.PE.wp {e : Expr} {t : TE} {Q : VK} (h : PE X e t) (ht : t σ H Q) : wpE X e σ H Q := ⟨fun pins s I => h.run pins s σ H Q I ht⟩
theorem _root_.L2.PT.wp {e : Expr} {t : TT} {Q : Bool → Hp → Prop} (h : PT X e t) (ht : t σ H Q) : wpT X e σ H Q := ⟨fun pins s I => h.run pins s σ H Q I ht⟩
theorem _root_.L2.PW.wp {e : Expr} {t : TT} {Q : Bool → Hp → Prop} (h : PW X e t) (ht : t σ H Q) : wpW X e σ H Q := ⟨fun wh pins s I => h.run wh pins s σ H Q I ht⟩
theorem _root_.L2.PA.wp {es : List Expr} {t : TA} {Q : List V → Hp → Prop} (h : PA X es t) (ht : t σ H Q) : wpA X es σ H Q := ⟨fun pos pins s I => h.run pos pins s σ H Q I ht⟩
theorem _root_.L2.PS.wp {st : Stmt} {t : TS} {D : Ends} (h : PS X st t) (ht : t D σ H) : wpS X st D σ H := ⟨fun pins s I => h.run pins s σ H D I ht⟩
theorem _root_.L2.PSs.wp {st : List Stmt} {t : TS} {D : Ends} (h : PSs X st t) (ht : t D σ H) : wpB X st D σ H := ⟨fun pins s I => h.run pins s σ H D I ht⟩
end

/-! ### what is wanted -/
def RQ (M : Mo) (S : Sto) (H : Hp) (R : D → Sto → Prop) (Q : VK) : Prop := ∀ v d H' S', R d S' → EnvH M S' H' → Ext S H S' H' → Rep M.K S' H' d v → Q v H'
def BQ (M : Mo) (S : Sto) (H : Hp) (R : Bool → Sto → Prop) (Q : Bool → Hp → Prop) : Prop := ∀ b H' S', R b S' → EnvH M S' H' → Ext S H S' H' → Q b H'
def LQ (M : Mo) (S : Sto) (H : Hp) (R : List D → Sto → Prop) (Q : List V → Hp → Prop) : Prop := ∀ vs ds H' S', R ds S' → EnvH M S' H' → Ext S H S' H' → RepL M.K S' H' ds vs → Q vs H'
/-- of an exception of a class of one's own -/
def ZQ (M : Mo) (S : Sto) (H : Hp) (Z : Addr → Sto → Prop) (W : WX) : Prop := ∀ C H' S' σ', Z C S' → EnvH M S' H' → Ext S H S' H' → W (.ref C) none σ' H'
abbrev RK := D → Sto → Prop
abbrev ZK := Addr → Sto → Prop
section
variable {M : Mo} {S S1 : Sto} {H H1 : Hp}
theorem RQ.ext {R : RK} {Q : VK} (q : RQ M S H R Q) (e : Ext S H S1 H1) : RQ M S1 H1 R Q := fun v d H' S' r E x p => q v d H' S' r E (e.trans x) p
theorem BQ.ext {R : Bool → Sto → Prop} {Q : Bool → Hp → Prop} (q : BQ M S H R Q) (e : Ext S H S1 H1) : BQ M S1 H1 R Q := fun b H' S' r E x => q b H' S' r E (e.trans x)
theorem LQ.ext {R : List D → Sto → Prop} {Q : List V → Hp → Prop} (q : LQ M S H R Q) (e : Ext S H S1 H1) : LQ M S1 H1 R Q := fun v d H' S' r E x p => q v d H' S' r E (e.trans x) p
theorem ZQ.ext {Z : ZK} {W : WX} (q : ZQ M S H Z W) (e : Ext S H S1 H1) : ZQ M S1 H1 Z W := fun C H' S' σ' z E x => q C H' S' σ' z E (e.trans x)
end
section
variable (M : Mo) (X : Cx) (W : WX)
def AX (e : Expr) (Γ : Ga) (S : Sto) (R : RK) (Z : ZK) : Prop := ∀ σ H Q, Env M σ H Γ S → RQ M S H R Q → ZQ M S H Z W → wpE X e σ H Q
def AT (e : Expr) (Γ : Ga) (S : Sto) (R : Bool → Sto → Prop) (Z : ZK) : Prop := ∀ σ H Q, Env M σ H Γ S → BQ M S H R Q → ZQ M S H Z W → wpT X e σ H Q
def AW (e : Expr) (Γ : Ga) (S : Sto) (R : Bool → Sto → Prop) (Z : ZK) : Prop := ∀ σ H Q, Env M σ H Γ S → BQ M S H R Q → ZQ M S H Z W → wpW X e σ H Q
def AA (es : List Expr) (Γ : Ga) (S : Sto) (R : List D → Sto → Prop) (Z : ZK) : Prop := ∀ σ H Q, Env M σ H Γ S → LQ M S H R Q → ZQ M S H Z W → wpA X es σ H Q
/-- operations by values: they let nothing out -/
def BD (f : Value → Value → Sem Value) (d1 d2 : D) (S : Sto) (R : RK) : Prop := ∀ H v1 v2 Q, EnvH M S H → Rep M.K S H d1 v1 → Rep M.K S H d2 v2 → RQ M S H R Q → wpR X f v1 v2 H Q
def UD (f : Value → Sem Value) (d : D) (S : Sto) (R : RK) : Prop := ∀ H v Q, EnvH M S H → Rep M.K S H d v → RQ M S H R Q → wpU X f v H Q
def CD (f : Value) (ds : List D) (S : Sto) (R : RK) : Prop := ∀ H vs Q, EnvH M S H → RepL M.K S H ds vs → RQ M S H R Q → wpC X f vs H Q
def ID (d1 d2 : D) (S : Sto) (R : RK) : Prop := ∀ H v1 v2 Q, EnvH M S H → Rep M.K S H d1 v1 → Rep M.K S H d2 v2 → RQ M S H R Q → wpX X v1 v2 H Q
end
section
variable {F : Fix} {N : List Str} {sc : Scope} {k : Nat} {X : Cx} {W : WX} {Γ : Ga} {S : Sto} {R R' : RK} {Z : ZK} {a b e : Expr} {pos : Pos}
theorem AX.mono (h : AX F.M X W e Γ S R Z) (hr : ∀ d S', R d S' → R' d S') : AX F.M X W e Γ S R' Z := fun σ H Q E q z => h σ H Q E (fun v d H' S' r => q v d H' S' (hr d S' r)) z
theorem AT.mono {R R' : Bool → Sto → Prop} (h : AT F.M X W e Γ S R Z) (hr : ∀ d S', R d S' → R' d S') : AT F.M X W e Γ S R' Z := fun σ H Q E q z => h σ H Q E (fun b H' S' r => q b H' S' (hr b S' r)) z
/-- a name may be forgotten -/
theorem AX.weak {Γ' : Ga} (h : AX F.M X W e Γ' S R Z) (hl : Γ'.length = Γ.length) (hs : ∀ (i : Nat) (d : D), Γ'[i]? = some (some d) → Γ[i]? = some (some d)) : AX F.M X W e Γ S R Z := fun σ H Q E q z => h σ H Q (E.weak hl hs) q z
/-! ### names, constants -/
def slotB (N : List Str) (sc : Scope) (i : Nat) (x : Str) : Bool :=
  decide (N[i]? = some x) && (decide (sc.names.lookup x = some .local) || decide (sc.names.lookup x = some .cell) || decide (sc.names.lookup x = some .free)) && !(x == ("__debug__" : Str)) && !(x == ("__classdict__" : Str))
theorem slotB_vis {N : List Str} {sc : Scope} {i : Nat} {x : Str} (h : slotB N sc i x = true) : N[i]? = some x ∧ Vis sc x ∧ (x == ("__debug__" : Str)) = false ∧ (x == ("__classdict__" : Str)) = false := by
  unfold slotB at h
  simp only [Bool.and_eq_true, Bool.or_eq_true, decide_eq_true_eq, Bool.not_eq_true'] at h
  obtain ⟨⟨⟨h1, h2⟩, h3⟩, h4⟩ := h
  refine ⟨h1, ?_, h3, h4⟩
  rcases h2 with (h2 | h2) | h2
  · exact .inl h2
  · exact .inr (.inl h2)
  · exact .inr (.inr h2)
theorem ax_var (c : XC F N sc k X W) {x : Str} {d : D} (i : Nat) (hs : slotB N sc i x = true) (hi : Γ[i]? = some (some d)) (h : R d S) : AX F.M X W (.Name x pos) Γ S R Z := fun σ H Q E q _ => by
  obtain ⟨h1, h2, h3, h4⟩ := slotB_vis hs
  obtain ⟨v, e1, r⟩ := E.at_ i d hi
  exact (pe_var (by rw [c.hN]; exact h1) (by rw [c.hs]; exact h2) h3 h4).wp ⟨v, e1, q v d H S h E.hp Ext.refl r⟩
theorem ax_int {i : Int} {j : Nat} (h : R (.int i) S) : AX F.M X W (.Constant (.int i) j pos) Γ S R Z := fun σ H Q E q _ => pe_int.wp (q _ _ H S h E.hp Ext.refl (by simp only [Rep]))
theorem ax_str {x : Str} {j : Nat} (h : R (.str x) S) : AX F.M X W (.Constant (.str x) j pos) Γ S R Z := fun σ H Q E q _ => pe_str.wp (q _ _ H S h E.hp Ext.refl (by simp only [Rep]))
theorem ax_bl {b : Bool} {j : Nat} (h : R (.bl b) S) : AX F.M X W (.Constant (.bool b) j pos) Γ S R Z := fun σ H Q E q _ => pe_bl.wp (q _ _ H S h E.hp Ext.refl (by simp only [Rep]))
theorem ax_non {j : Nat} (h : R .non S) : AX F.M X W (.Constant .none j pos) Γ S R Z := fun σ H Q E q _ => pe_non.wp (q _ _ H S h E.hp Ext.refl (by simp only [Rep]))
def glB (sc : Scope) (x : Str) : Bool := decide (sc.names.lookup x = some .globalImplicit) && !(x == ("__debug__" : Str)) && !(x == ("__name__" : Str))
theorem glB_gl {x : Str} (h : glB sc x = true) : sc.names.lookup x = some .globalImplicit ∧ (x == ("__debug__" : Str)) = false ∧ x ≠ "__name__" := by
  unfold glB at h
  simp only [Bool.and_eq_true, decide_eq_true_eq, Bool.not_eq_true'] at h
  exact ⟨h.1.1, h.1.2, fun z => by rw [z] at h; simp at h⟩
theorem XC.gl (c : XC F N sc k X W) {x : Str} (h : sc.names.lookup x = some .globalImplicit) : Gl X x := by
  show X.env.scope.names.lookup x = _
  rw [c.hs]
  exact h
theorem ax_glob (c : XC F N sc k X W) {x : Str} {u : Value} {v : V} {d : D} (hs : glB sc x = true) (hm : F.mg x = some u) (r : RelV v u) (hd : ∀ S H, Rep F.M.K S H d v) (h : R d S) : AX F.M X W (.Name x pos) Γ S R Z := fun σ H Q E q _ => by
  obtain ⟨h1, h2, h3⟩ := glB_gl hs
  exact (pe_glob (c.gl h1) (by rw [c.hm]; exact hm) r h2).wp (q v d H S h E.hp Ext.refl (hd S H))

/-! ### operators -/
theorem ax_bin {op : Operator} (h : AX F.M X W a Γ S (fun d1 S1 => AX F.M X W b Γ S1 (fun d2 S2 => BD F.M X (binaryOp op) d1 d2 S2 R) Z) Z) : AX F.M X W (.BinOp a op b pos) Γ S R Z := fun σ H Q E q z =>
  (pe_op or_wp pe_wp pe_wp).wp (h σ H _ E (fun v1 d1 H1 S1 h1 E1 x1 r1 => h1 σ H1 _ (E.ext E1 x1) (fun v2 d2 H2 S2 h2 E2 x2 r2 => h2 H2 v1 v2 Q E2 (r1.ext x2) r2 ((q.ext x1).ext x2)) (z.ext x1)) z)
theorem ax_un {op : UnaryOp} (h : AX F.M X W a Γ S (fun d1 S1 => UD F.M X (unaryOp op) d1 S1 R) Z) : AX F.M X W (.UnaryOp op a pos) Γ S R Z := fun σ H Q E q z =>
  (pe_un ur_wp pe_wp).wp (h σ H _ E (fun v1 d1 H1 S1 h1 E1 x1 r1 => h1 H1 v1 Q E1 r1 (q.ext x1)) z)
theorem ax_cmp {op : CmpOp} (hm : behindInMarks op b = false) (h : AX F.M X W a Γ S (fun d1 S1 => AX F.M X W b Γ S1 (fun d2 S2 => BD F.M X (compareOp op) d1 d2 S2 R) Z) Z) : AX F.M X W (.Compare a [op] [b] pos) Γ S R Z := fun σ H Q E q z =>
  (pe_cmpR or_wp pe_wp pe_wp hm).wp (h σ H _ E (fun v1 d1 H1 S1 h1 E1 x1 r1 => h1 σ H1 _ (E.ext E1 x1) (fun v2 d2 H2 S2 h2 E2 x2 r2 => h2 H2 v1 v2 Q E2 (r1.ext x2) r2 ((q.ext x1).ext x2)) (z.ext x1)) z)
theorem at_cmp {op : CmpOp} {R : Bool → Sto → Prop} (hm : behindInMarks op b = false) (h : AX F.M X W a Γ S (fun d1 S1 => AX F.M X W b Γ S1 (fun d2 S2 => BD F.M X (compareOp op) d1 d2 S2 fun d S3 => ∃ b, d = .bl b ∧ R b S3) Z) Z) :
    AT F.M X W (.Compare a [op] [b] pos) Γ S R Z := fun σ H Q E q z =>
  (pt_cmpR or_wp pe_wp pe_wp hm).wp (h σ H _ E (fun v1 d1 H1 S1 h1 E1 x1 r1 => h1 σ H1 _ (E.ext E1 x1) (fun v2 d2 H2 S2 h2 E2 x2 r2 => h2 H2 v1 v2 _ E2 (r1.ext x2) r2
    (fun v d H3 S3 ⟨b, e, h3⟩ E3 x3 r3 => ⟨b, by subst e; simpa only [Rep] using r3, q b H3 S3 h3 E3 ((x1.trans x2).trans x3)⟩)) (z.ext x1)) z)
theorem chain_aux {op op' : CmpOp} {c : Expr} {Q : VK} {σ : L2.St} {H : Hp} (h : AX F.M X W a Γ S (fun d1 S1 => AX F.M X W b Γ S1 (fun d2 S2 => BD F.M X (compareOp op) d1 d2 S2 fun d S3 => ∃ k, d = .bl k ∧
      if k = true then AX F.M X W c Γ S3 (fun d3 S4 => BD F.M X (compareOp op') d2 d3 S4 R) Z else R (.bl false) S3) Z) Z) (E : Env F.M σ H Γ S) (q : RQ F.M S H R Q) (z : ZQ F.M S H Z W) :
    tChain (wpR X (compareOp op)) (wpR X (compareOp op')) (wpE X a) (wpE X b) (wpE X c) σ H Q :=
  h σ H _ E (fun v1 d1 H1 S1 h1 E1 x1 r1 => h1 σ H1 _ (E.ext E1 x1) (fun v2 d2 H2 S2 h2 E2 x2 r2 => h2 H2 v1 v2 _ E2 (r1.ext x2) r2 (fun v d H3 S3 ⟨k, ek, h3⟩ E3 x3 r3 => by
    subst ek
    refine ⟨k, by simpa only [Rep] using r3, ?_⟩
    cases k with
    | false => exact q _ _ H3 S3 h3 E3 ((x1.trans x2).trans x3) (by simp only [Rep])
    | true => exact h3 σ H3 _ (((E.ext E1 x1).ext E2 x2).ext E3 x3) (fun v4 d4 H4 S4 h4 E4 x4 r4 => h4 H4 v2 v4 Q E4 ((r2.ext x3).ext x4) r4 (((q.ext x1).ext x2).ext x3 |>.ext x4)) (((z.ext x1).ext x2).ext x3))) (z.ext x1)) z
theorem ax_chain {op op' : CmpOp} {c : Expr} (h : AX F.M X W a Γ S (fun d1 S1 => AX F.M X W b Γ S1 (fun d2 S2 => BD F.M X (compareOp op) d1 d2 S2 fun d S3 => ∃ k, d = .bl k ∧
      if k = true then AX F.M X W c Γ S3 (fun d3 S4 => BD F.M X (compareOp op') d2 d3 S4 R) Z else R (.bl false) S3) Z) Z) (hm : lastMarks [op, op'] [b, c] = false := by with_unfolding_all rfl) :
    AX F.M X W (.Compare a [op, op'] [b, c] pos) Γ S R Z := fun σ H Q E q z => (pe_chain or_wp or_wp pe_wp pe_wp pe_wp hm).wp (chain_aux h E q z)
theorem at_chain {op op' : CmpOp} {c : Expr} {R : Bool → Sto → Prop} (h : AX F.M X W a Γ S (fun d1 S1 => AX F.M X W b Γ S1 (fun d2 S2 => BD F.M X (compareOp op) d1 d2 S2 fun d S3 => ∃ k, d = .bl k ∧
      if k = true then AX F.M X W c Γ S3 (fun d3 S4 => BD F.M X (compareOp op') d2 d3 S4 fun d S5 => ∃ b, d = .bl b ∧ R b S5) Z else R false S3) Z) Z) (hm : lastMarks [op, op'] [b, c] = false := by with_unfolding_all rfl) :
    AT F.M X W (.Compare a [op, op'] [b, c] pos) Γ S R Z := fun σ H Q E q z => (pt_chain or_wp or_wp pe_wp pe_wp pe_wp hm).wp
  (chain_aux (R := fun d S5 => ∃ b, d = .bl b ∧ R b S5) (h.mono fun d1 S1 h1 => h1.mono fun d2 S2 h2 => fun H v1 v2 Q E r1 r2 q => h2 H v1 v2 Q E r1 r2 fun v d H' S' ⟨k, ek, h3⟩ E' x' r' => q v d H' S' ⟨k, ek, by
    cases k with
    | false => exact ⟨false, rfl, h3⟩
    | true => exact h3⟩ E' x' r') E (fun v d H' S' ⟨b, eb, r⟩ E' x' r' => ⟨b, by subst eb; simpa only [Rep] using r', q b H' S' r E' x'⟩) z)
/-! ### tests -/
theorem at_val {R : Bool → Sto → Prop} (h : AX F.M X W e Γ S (fun d S' => ∃ b, d = .bl b ∧ R b S') Z) (he : ∀ whole, isTrue e X.env whole = (do let v ← whole; standAt e.pos; holding [v] (truthy v)) := by intro _; rfl) :
    AT F.M X W e Γ S R Z := fun σ H Q E q z => (pt_val pe_wp he).wp (h σ H _ E (fun v d H' S' ⟨b, eb, r⟩ E' x' r' => ⟨b, by subst eb; simpa only [Rep] using r', q b H' S' r E' x'⟩) z)
theorem at_not {R : Bool → Sto → Prop} (h : AT F.M X W a Γ S (fun b S' => R (!b) S') Z) : AT F.M X W (.UnaryOp .Not a pos) Γ S R Z := fun σ H Q E q z =>
  (pt_not pt_wp).wp (h σ H _ E (fun b H' S' r E' x' => q (!b) H' S' r E' x') z)
theorem aw_and1 {R : Bool → Sto → Prop} (h : AT F.M X W a Γ S R Z) : AW F.M X W (.BoolOp .And [a] pos) Γ S R Z := fun σ H Q E q z => (pw_and1 pt_wp).wp (h σ H _ E q z)
theorem aw_or1 {R : Bool → Sto → Prop} (h : AT F.M X W a Γ S R Z) : AW F.M X W (.BoolOp .Or [a] pos) Γ S R Z := fun σ H Q E q z => (pw_or1 pt_wp).wp (h σ H _ E q z)
theorem aw_and {R : Bool → Sto → Prop} {rest : List Expr} (h : AT F.M X W a Γ S (fun k S' => if k = true then AW F.M X W (.BoolOp .And (b :: rest) pos) Γ S' R Z else R false S') Z) : AW F.M X W (.BoolOp .And (a :: b :: rest) pos) Γ S R Z := fun σ H Q E q z =>
  (pw_and pt_wp pw_wp).wp (h σ H _ E (fun k H' S' r E' x' => by
    cases k with
    | true => exact r σ H' _ (E.ext E' x') (q.ext x') (z.ext x')
    | false => exact q false H' S' r E' x') z)
theorem aw_or {R : Bool → Sto → Prop} {rest : List Expr} (h : AT F.M X W a Γ S (fun k S' => if k = true then R true S' else AW F.M X W (.BoolOp .Or (b :: rest) pos) Γ S' R Z) Z) : AW F.M X W (.BoolOp .Or (a :: b :: rest) pos) Γ S R Z := fun σ H Q E q z =>
  (pw_or pt_wp pw_wp).wp (h σ H _ E (fun k H' S' r E' x' => by
    cases k with
    | true => exact q true H' S' r E' x'
    | false => exact r σ H' _ (E.ext E' x') (q.ext x') (z.ext x')) z)
theorem at_aw {R : Bool → Sto → Prop} (h : AW F.M X W e Γ S R Z) : AT F.M X W e Γ S R Z := fun σ H Q E q z => pw_wp.pt.wp (h σ H Q E q z)
/-! ### and, or, not of truth values -/
theorem ax_one {op : BoolOp} (h : AX F.M X W a Γ S R Z) : AX F.M X W (.BoolOp op [a] pos) Γ S R Z := fun σ H Q E q z => (pe_one pe_wp).wp (h σ H Q E q z)
theorem ax_and {rest : List Expr} (h : AX F.M X W a Γ S (fun d S' => ∃ k, d = .bl k ∧ if k = true then AX F.M X W (.BoolOp .And (b :: rest) pos) Γ S' R Z else R (.bl false) S') Z) : AX F.M X W (.BoolOp .And (a :: b :: rest) pos) Γ S R Z := fun σ H Q E q z =>
  (pe_and pe_wp pe_wp).wp (h σ H _ E (fun v d H' S' ⟨k, ek, r⟩ E' x' r' => ⟨k, by subst ek; simpa only [Rep] using r', by
    cases k with
    | true => exact r σ H' _ (E.ext E' x') (q.ext x') (z.ext x')
    | false => exact q _ _ H' S' r E' x' (by simp only [Rep])⟩) z)
theorem ax_or {rest : List Expr} (h : AX F.M X W a Γ S (fun d S' => ∃ k, d = .bl k ∧ if k = true then R (.bl true) S' else AX F.M X W (.BoolOp .Or (b :: rest) pos) Γ S' R Z) Z) : AX F.M X W (.BoolOp .Or (a :: b :: rest) pos) Γ S R Z := fun σ H Q E q z =>
  (pe_or pe_wp pe_wp).wp (h σ H _ E (fun v d H' S' ⟨k, ek, r⟩ E' x' r' => ⟨k, by subst ek; simpa only [Rep] using r', by
    cases k with
    | true => exact q _ _ H' S' r E' x' (by simp only [Rep])
    | false => exact r σ H' _ (E.ext E' x') (q.ext x') (z.ext x')⟩) z)
theorem ax_not (h : AX F.M X W a Γ S (fun d S' => ∃ k, d = .bl k ∧ R (.bl (!k)) S') Z) : AX F.M X W (.UnaryOp .Not a pos) Γ S R Z := fun σ H Q E q z =>
  (pe_not pe_wp).wp (h σ H _ E (fun v d H' S' ⟨k, ek, r⟩ E' x' r' => ⟨k, by subst ek; simpa only [Rep] using r', q _ _ H' S' r E' x' (by simp only [Rep])⟩) z)
theorem ax_if {t : Expr} (h : AT F.M X W t Γ S (fun k S' => if k = true then AX F.M X W a Γ S' R Z else AX F.M X W b Γ S' R Z) Z) : AX F.M X W (.IfExp t a b pos) Γ S R Z := fun σ H Q E q z =>
  (pe_ifExp pt_wp pe_wp pe_wp).wp (h σ H _ E (fun k H' S' r E' x' => by
    cases k with
    | true => exact r σ H' _ (E.ext E' x') (q.ext x') (z.ext x')
    | false => exact r σ H' _ (E.ext E' x') (q.ext x') (z.ext x')) z)
/-! ### arguments, tuples, lists -/
theorem aa_nil {R : List D → Sto → Prop} (h : R [] S) : AA F.M X W [] Γ S R Z := fun σ H Q E q z => pa_nil.wp (q _ _ H S h E.hp Ext.refl repL_nil)
theorem aa_cons {R : List D → Sto → Prop} {es : List Expr} (h : AX F.M X W e Γ S (fun d S1 => AA F.M X W es Γ S1 (fun ds S2 => R (d :: ds) S2) Z) Z) (hs : starEach (e :: es) X.env = (false, eval e X.env) :: starEach es X.env := by rfl) :
    AA F.M X W (e :: es) Γ S R Z := fun σ H Q E q z =>
  (pa_cons pe_wp pa_wp hs).wp (h σ H _ E (fun v1 d1 H1 S1 h1 E1 x1 r1 => h1 σ H1 _ (E.ext E1 x1) (fun vs ds H2 S2 h2 E2 x2 r2 => q _ _ H2 S2 h2 E2 (x1.trans x2) (repL_cons (r1.ext x2) r2)) (z.ext x1)) z)
theorem Im.new {p : Addr} {o : HO} {H : Hp} (h : S p = none) : Im S (upd H p o) p o := ⟨h, .inl upd_same⟩
theorem ax_tup {es : List Expr} {j : Nat} (h : AA F.M X W es Γ S (fun ds S' => ds.length ≤ sizeLine ∧ R (.tup ds) S') Z) : AX F.M X W (.Tuple es j pos) Γ S R Z := fun σ H Q E q z =>
  (pe_tup pa_wp).wp (h σ H _ E (fun vs ds H' S' ⟨hl, r⟩ E' x' r' => ⟨by rw [← r'.length]; exact hl, fun p hp => q _ _ _ S' r (E'.new hp) (x'.trans (Ext.new hp)) (by
    simp only [Rep]
    exact ⟨p, vs, rfl, .inl (Im.new (E'.none hp)), r'.ext (Ext.new hp)⟩)⟩) z)
theorem ax_lst {es : List Expr} (h : AA F.M X W es Γ S (fun ds S' => ds.length ≤ sizeLine ∧ R (.lst ds) S') Z) : AX F.M X W (.List es pos) Γ S R Z := fun σ H Q E q z =>
  (pe_lst pa_wp).wp (h σ H _ E (fun vs ds H' S' ⟨hl, r⟩ E' x' r' => ⟨by rw [← r'.length]; exact hl, fun p hp => q _ _ _ S' r (E'.new hp) (x'.trans (Ext.new hp)) (by
    simp only [Rep]
    exact ⟨p, vs, rfl, E'.none hp, upd_same, r'.ext (Ext.new hp)⟩)⟩) z)
/-- a list that will be changed -/
theorem ax_lstM {es : List Expr} (h : AA F.M X W es Γ S (fun ds S' => ds.length ≤ sizeLine ∧ ∀ p, S' p = none → R (.ref p) (S'.put p (.lst ds))) Z) : AX F.M X W (.List es pos) Γ S R Z := fun σ H Q E q z =>
  (pe_lst pa_wp).wp (h σ H _ E (fun vs ds H' S' ⟨hl, r⟩ E' x' r' => ⟨by rw [← r'.length]; exact hl, fun p hp => q _ _ _ _ (r p (E'.none hp)) (E'.new2 hp ⟨vs, rfl, r'.ext (Ext.new2 hp)⟩) (x'.trans (Ext.new2 hp)) (by simp only [Rep])⟩) z)
theorem ax_dnew (h : R (.dct [] []) S) : AX F.M X W (.Dict [] [] pos) Γ S R Z := fun σ H Q E q z =>
  pe_dnewK.wp fun p hp => q _ _ _ S h (E.hp.new hp) (Ext.new hp) (by
    simp only [Rep]
    exact ⟨p, [], rfl, Im.new (E.hp.none hp), rfl, repL_nil⟩)
theorem ax_dnewM (h : ∀ p, S p = none → R (.ref p) (S.put p (.dct [] []))) : AX F.M X W (.Dict [] [] pos) Γ S R Z := fun σ H Q E q z =>
  pe_dnewK.wp fun p hp => q _ _ _ _ (h p (E.hp.none hp)) (E.hp.new2 hp ⟨[], rfl, rfl, repL_nil⟩) (Ext.new2 hp) (by simp only [Rep])
theorem ax_dnewMu (h : ∀ p, S p = none → R (.ref p) (S.put p (.dcu [] []))) : AX F.M X W (.Dict [] [] pos) Γ S R Z := fun σ H Q E q z =>
  pe_dnewT.wp fun p hp => q _ _ _ _ (h p (E.hp.none hp)) (E.hp.new2 hp ⟨[], rfl, rfl, repL_nil⟩) (Ext.new2 hp) (by simp only [Rep])
theorem ax_dnewU (h : R (.dcu [] []) S) : AX F.M X W (.Dict [] [] pos) Γ S R Z := fun σ H Q E q z =>
  pe_dnewT.wp fun p hp => q _ _ _ S h (E.hp.new hp) (Ext.new hp) (by
    simp only [Rep]
    exact ⟨p, [], rfl, Im.new (E.hp.none hp), rfl, repL_nil⟩)
end
end QD
set_option maxHeartbeats 4000000
/-! The walk over data: operations by values. -/
namespace QD
open PySem PySem.Spec PyProof.Rows L2

theorem _root_.L2.OpR.wp {X : Cx} {f : Value → Value → Sem Value} {r : R2} {x y : V} {H : Hp} {Q : VK} (h : OpR X f r) (hr : r x y H Q) : wpR X f x y H Q := ⟨fun pins s σ v u I r1 r2 => h pins s σ H x y v u Q I r1 r2 hr⟩
theorem _root_.L2.UnR.wp {X : Cx} {f : Value → Sem Value} {r : V → Hp → VK → Prop} {x : V} {H : Hp} {Q : VK} (h : UnR X f r) (hr : r x H Q) : wpU X f x H Q := ⟨fun pins s σ v I r1 => h pins s σ H x v Q I r1 hr⟩
theorem _root_.L2.CallR.wp {X : Cx} {f : Value} {r : List V → Hp → VK → Prop} {xs : List V} {H : Hp} {Q : VK} (h : CallR X f r) (hr : r xs H Q) : wpC X f xs H Q := ⟨fun pins s σ us I r1 => h pins s σ H xs us Q I r1 hr⟩
theorem _root_.L2.IxR.wp {X : Cx} {r : R2} {x y : V} {H : Hp} {Q : VK} (h : IxR X r) (hr : r x y H Q) : wpX X x y H Q := ⟨fun value slice pins s σ v u I r1 r2 e => h value slice pins s σ H x y v u Q I r1 r2 hr e⟩
theorem _root_.L2.MtR.wp {X : Cx} {id : String} {r : V → List V → Hp → VK → Prop} {x : V} {xs : List V} {H : Hp} {Q : VK} (h : MtR X id r) (hr : r x xs H Q) : wpM X id x xs H Q := ⟨fun pins s σ v us I r1 r2 => h pins s σ H x xs v us Q I r1 r2 hr⟩

/-! ### data that stands in the store, read -/
def cellD : Cell → D → D
  | .lst ds, _ => .lst ds
  | .dct ks ds, _ => .dct ks ds
  | .dcu ks ds, _ => .dcu ks ds
  | .ins C ns ds, _ => .obj C ns ds
  | .frz _ (.dct ks ds), _ => .dct ks ds
  | .frz _ (.dcu ks ds), _ => .dcu ks ds
  | .frz _ _, d => d
def Sto.view (S : Sto) : D → D
  | .ref a => match S a with
    | some c => cellD c (.ref a)
    | none => .ref a
  | .tupf ds => .tup ds
  | d => d
theorem view_ref {S : Sto} {a : Addr} {c : Cell} (h : S a = some c) : S.view (.ref a) = cellD c (.ref a) := by
  show (match S a with | some c => cellD c (.ref a) | none => .ref a) = _
  rw [h]
section
variable {M : Mo} {S : Sto} {H : Hp} {d : D} {v : V}
theorem view_cases {d e : D} (h : S.view d = e) : (d = e ∨ ∃ ds, d = .tupf ds ∧ e = .tup ds) ∨ ∃ a c, d = .ref a ∧ S a = some c ∧ cellD c (.ref a) = e := by
  cases d with
  | ref a =>
    cases hs : S a with
    | none => left; left; rw [← h]; show _ = (match S a with | some c => cellD c (.ref a) | none => .ref a); rw [hs]
    | some c => rw [view_ref hs] at h; exact .inr ⟨a, c, rfl, hs, h⟩
  | tupf ds => exact .inl (.inr ⟨ds, rfl, h.symm⟩)
  | _ => left; left; exact h
theorem rep_lst {ds : List D} (E : EnvH M S H) (r : Rep M.K S H d v) (h : S.view d = .lst ds) : ∃ a vs, v = .ref a ∧ H a = some (.lst vs) ∧ RepL M.K S H ds vs := by
  rcases view_cases h with (rfl | ⟨_, _, z⟩) | ⟨a, c, rfl, hs, hc⟩
  · simp only [Rep] at r
    obtain ⟨a, vs, e, _, h2, h3⟩ := r
    exact ⟨a, vs, e, h2, h3⟩
  · cases z
  · simp only [Rep] at r
    obtain ⟨u, h1, h2⟩ := E.cell a c hs
    cases c with
    | lst es => cases hc; obtain ⟨vs, rfl, h3⟩ := h2; exact ⟨a, vs, r, h1, h3⟩
    | dct ks es => cases hc
    | dcu ks es => cases hc
    | ins C ns es => cases hc
    | frz o c => cases c <;> cases hc
theorem rep_tup {ds : List D} (E : EnvH M S H) (r : Rep M.K S H d v) (h : S.view d = .tup ds) : ∃ a vs, v = .ref a ∧ SqT M.K H a vs ∧ RepL M.K S H ds vs := by
  rcases view_cases h with (rfl | ⟨_, rfl, z⟩) | ⟨a, c, rfl, hs, hc⟩
  · simp only [Rep] at r
    obtain ⟨a, vs, e, h2, h3⟩ := r
    exact ⟨a, vs, e, h2.imp (fun z => z.2) id, h3⟩
  · cases z
    simp only [Rep] at r
    obtain ⟨a, vs, o, e, _, h2, _, h3⟩ := r
    exact ⟨a, vs, e, .inl (.inr ⟨o, h2⟩), h3⟩
  · cases c with
    | frz o c => cases c <;> cases hc
    | _ => cases hc
/-- a tuple known to the object is a tuple -/
theorem rep_tupf {K : PySem.W.Frag} {ds : List D} (r : Rep K S H (.tupf ds) v) : Rep K S H (.tup ds) v := by
  simp only [Rep] at r ⊢
  obtain ⟨a, vs, o, e, h1, h2, _, h3⟩ := r
  exact ⟨a, vs, e, .inl ⟨h1, .inr ⟨o, h2⟩⟩, h3⟩
theorem rep_dct {ks : List Key} {ds : List D} (E : EnvH M S H) (r : Rep M.K S H d v) (h : S.view d = .dct ks ds) : ∃ a vs, v = .ref a ∧ Rd H a (.dK (ks.zip vs)) ∧ ks.length = ds.length ∧ RepL M.K S H ds vs := by
  rcases view_cases h with (rfl | ⟨_, _, z⟩) | ⟨a, c, rfl, hs, hc⟩
  · simp only [Rep] at r
    obtain ⟨a, vs, e, h2, h0, h3⟩ := r
    exact ⟨a, vs, e, h2.2, h0, h3⟩
  · cases z
  · simp only [Rep] at r
    obtain ⟨u, h1, h2⟩ := E.cell a c hs
    cases c with
    | lst es => cases hc
    | dct ks' es => cases hc; obtain ⟨vs, rfl, h0, h3⟩ := h2; exact ⟨a, vs, r, .inl h1, h0, h3⟩
    | dcu ks' es => cases hc
    | ins C ns es => cases hc
    | frz o c =>
      cases c with
      | dct ks' es =>
        cases hc
        obtain ⟨w, rfl, vs, rfl, h0, h3⟩ := h2
        exact ⟨a, vs, r, .inr ⟨o, h1⟩, h0, h3⟩
      | _ => cases hc
theorem rep_dcu {ks : List (List Key)} {ds : List D} (E : EnvH M S H) (r : Rep M.K S H d v) (h : S.view d = .dcu ks ds) : ∃ a vs, v = .ref a ∧ Rd H a (.dT (ks.zip vs)) ∧ ks.length = ds.length ∧ RepL M.K S H ds vs := by
  rcases view_cases h with (rfl | ⟨_, _, z⟩) | ⟨a, c, rfl, hs, hc⟩
  · simp only [Rep] at r
    obtain ⟨a, vs, e, h2, h0, h3⟩ := r
    exact ⟨a, vs, e, h2.2, h0, h3⟩
  · cases z
  · simp only [Rep] at r
    obtain ⟨u, h1, h2⟩ := E.cell a c hs
    cases c with
    | lst es => cases hc
    | dcu ks' es => cases hc; obtain ⟨vs, rfl, h0, h3⟩ := h2; exact ⟨a, vs, r, .inl h1, h0, h3⟩
    | dct ks' es => cases hc
    | ins C ns es => cases hc
    | frz o c =>
      cases c with
      | dcu ks' es =>
        cases hc
        obtain ⟨w, rfl, vs, rfl, h0, h3⟩ := h2
        exact ⟨a, vs, r, .inr ⟨o, h1⟩, h0, h3⟩
      | _ => cases hc
theorem rep_obj {C : Addr} {ns : List Str} {ds : List D} (E : EnvH M S H) (r : Rep M.K S H d v) (h : S.view d = .obj C ns ds) : ∃ a dx vs, v = .ref a ∧ H a = some (.ins C dx (ns.zip vs)) ∧ ns.length = ds.length ∧ RepL M.K S H ds vs := by
  rcases view_cases h with (rfl | ⟨_, _, z⟩) | ⟨a, c, rfl, hs, hc⟩
  · simp only [Rep] at r
    obtain ⟨a, dx, vs, e, _, h2, h0, h3⟩ := r
    exact ⟨a, dx, vs, e, h2, h0, h3⟩
  · cases z
  · simp only [Rep] at r
    obtain ⟨u, h1, h2⟩ := E.cell a c hs
    cases c with
    | lst es => cases hc
    | dct ks es => cases hc
    | dcu ks es => cases hc
    | ins C ns es => cases hc; obtain ⟨dx, vs, rfl, h0, h3⟩ := h2; exact ⟨a, dx, vs, r, h1, h0, h3⟩
    | frz o c => cases c <;> cases hc
end

section
variable {M : Mo} {X : Cx} {S : Sto} {R : RK}
theorem RQ.now {M : Mo} {S : Sto} {H : Hp} {R : RK} {Q : VK} (q : RQ M S H R Q) (E : EnvH M S H) {d : D} {v : V} (h : R d S) (r : Rep M.K S H d v) : Q v H := q v d H S h E Ext.refl r
theorem RQ.newL {M : Mo} {S : Sto} {H : Hp} {R : RK} {Q : VK} (q : RQ M S H R Q) (E : EnvH M S H) {ds : List D} {vs : List V} (h : R (.lst ds) S) (r : RepL M.K S H ds vs) : ∀ p, H p = none → Q (.ref p) (upd H p (.lst vs)) := fun p hp =>
  q _ _ _ S h (E.new hp) (Ext.new hp) (by
    simp only [Rep]
    exact ⟨p, vs, rfl, E.none hp, upd_same, r.ext (Ext.new hp)⟩)
theorem RQ.newT {M : Mo} {S : Sto} {H : Hp} {R : RK} {Q : VK} (q : RQ M S H R Q) (E : EnvH M S H) {ds : List D} {vs : List V} (h : R (.tup ds) S) (r : RepL M.K S H ds vs) : ∀ p, H p = none → Q (.ref p) (upd H p (.tup vs)) := fun p hp =>
  q _ _ _ S h (E.new hp) (Ext.new hp) (by
    simp only [Rep]
    exact ⟨p, vs, rfl, .inl ⟨E.none hp, .inl upd_same⟩, r.ext (Ext.new hp)⟩)
theorem RQ.newLM {M : Mo} {S : Sto} {H : Hp} {R : RK} {Q : VK} (q : RQ M S H R Q) (E : EnvH M S H) {ds : List D} {vs : List V} (h : ∀ p, S p = none → R (.ref p) (S.put p (.lst ds))) (r : RepL M.K S H ds vs) : ∀ p, H p = none → Q (.ref p) (upd H p (.lst vs)) := fun p hp =>
  q _ _ _ _ (h p (E.none hp)) (E.new2 hp ⟨vs, rfl, r.ext (Ext.new2 hp)⟩) (Ext.new2 hp) (by simp only [Rep])
/-! ### whole numbers, texts -/
theorem bd_add {i j : Int} (h : R (.int (i + j)) S) : BD M X (binaryOp .Add) (.int i) (.int j) S R := fun H v1 v2 Q E r1 r2 q => by
  simp only [Rep] at r1 r2
  exact op_add.wp ⟨i, j, r1, r2, q.now E h (by simp only [Rep])⟩
theorem bd_sub {i j : Int} (h : R (.int (i - j)) S) : BD M X (binaryOp .Sub) (.int i) (.int j) S R := fun H v1 v2 Q E r1 r2 q => by
  simp only [Rep] at r1 r2
  exact op_sub.wp ⟨i, j, r1, r2, q.now E h (by simp only [Rep])⟩
theorem bd_mul {i j : Int} (hc : CMul i j) (h : R (.int (i * j)) S) : BD M X (binaryOp .Mult) (.int i) (.int j) S R := fun H v1 v2 Q E r1 r2 q => by
  simp only [Rep] at r1 r2
  exact op_mul.wp ⟨i, j, r1, r2, hc, q.now E h (by simp only [Rep])⟩
theorem bd_div {i j : Int} (hc : CDiv i j) (h : R (.int (i / j)) S) : BD M X (binaryOp .FloorDiv) (.int i) (.int j) S R := fun H v1 v2 Q E r1 r2 q => by
  simp only [Rep] at r1 r2
  exact op_fdiv.wp ⟨i, j, r1, r2, hc, q.now E h (by simp only [Rep])⟩
theorem bd_mod {i j : Int} (hc : 0 < j) (h : R (.int (i % j)) S) : BD M X (binaryOp .Mod) (.int i) (.int j) S R := fun H v1 v2 Q E r1 r2 q => by
  simp only [Rep] at r1 r2
  exact op_mod.wp ⟨i, j, r1, r2, hc, q.now E h (by simp only [Rep])⟩
theorem bd_pow {i j : Int} (hc : CPow i j) (h : R (.int (i ^ j.toNat)) S) : BD M X (binaryOp .Pow) (.int i) (.int j) S R := fun H v1 v2 Q E r1 r2 q => by
  simp only [Rep] at r1 r2
  exact op_pow.wp ⟨i, j, r1, r2, hc, q.now E h (by simp only [Rep])⟩
theorem ud_neg {i : Int} (h : R (.int (-i)) S) : UD M X (unaryOp .USub) (.int i) S R := fun H v Q E r q => by
  simp only [Rep] at r
  exact un_neg.wp ⟨i, r, q.now E h (by simp only [Rep])⟩
theorem bd_adds {x y : Str} (hl : x.length + y.length ≤ sizeLine) (h : R (.str (x ++ y)) S) : BD M X (binaryOp .Add) (.str x) (.str y) S R := fun H v1 v2 Q E r1 r2 q => by
  simp only [Rep] at r1 r2
  exact op_add_str.wp ⟨x, y, r1, r2, hl, q.now E h (by simp only [Rep])⟩
theorem bd_cat {d e : D} {xs ys : List D} (hd : S.view d = .lst xs) (he : S.view e = .lst ys) (hl : xs.length + ys.length ≤ sizeLine) (h : R (.lst (xs ++ ys)) S) : BD M X (binaryOp .Add) d e S R := fun H v1 v2 Q E r1 r2 q => by
  obtain ⟨a, vs, e1, h1, l1⟩ := rep_lst E r1 hd
  obtain ⟨b, ws, e2, h2, l2⟩ := rep_lst E r2 he
  exact op_cat.wp ⟨a, b, vs, ws, e1, e2, h1, h2, by rw [← l1.length, ← l2.length]; exact hl, q.newL E h (l1.append l2)⟩
theorem bd_rep {d : D} {xs : List D} {k : Int} (hd : S.view d = .lst xs) (h1 : -(2 ^ 63) ≤ k) (h2 : k < 2 ^ 63) (hl : xs.length * k.toNat ≤ sizeLine) (h : R (.lst (List.replicate k.toNat xs).flatten) S) : BD M X (binaryOp .Mult) d (.int k) S R := fun H v1 v2 Q E r1 r2 q => by
  obtain ⟨a, vs, e1, g1, l1⟩ := rep_lst E r1 hd
  simp only [Rep] at r2
  exact op_rep.wp ⟨a, k, vs, e1, r2, g1, h1, h2, by rw [← l1.length]; exact hl, q.newL E h (l1.flat k.toNat)⟩
/-! ### comparisons -/
def sV : D → Option V
  | .non => some .non
  | .bl b => some (.bl b)
  | .int i => some (.int i)
  | .str x => some (.str x)
  | _ => none
theorem sV_rep {K : PySem.W.Frag} {H : Hp} {d : D} {v w : V} (h : sV d = some w) (r : Rep K S H d v) : v = w := by
  cases d <;> simp only [sV, Option.some.injEq, reduceCtorEq] at h <;> simp only [Rep] at r <;> rw [r, h]
theorem bd_eq {d e : D} {x y : V} (hd : sV d = some x) (he : sV e = some y) (hs : scal x y = true) (h : R (.bl (decide (x = y))) S) : BD M X (compareOp .Eq) d e S R := fun H v1 v2 Q E r1 r2 q => by
  rw [sV_rep hd r1, sV_rep he r2]
  exact op_eq.wp ⟨hs, q.now E h (by simp only [Rep])⟩
theorem bd_ne {d e : D} {x y : V} (hd : sV d = some x) (he : sV e = some y) (hs : scal x y = true) (h : R (.bl (!decide (x = y))) S) : BD M X (compareOp .NotEq) d e S R := fun H v1 v2 Q E r1 r2 q => by
  rw [sV_rep hd r1, sV_rep he r2]
  exact op_ne.wp ⟨hs, q.now E h (by simp only [Rep])⟩
theorem bd_eqi {i j : Int} (h : R (.bl (decide (i = j))) S) : BD M X (compareOp .Eq) (.int i) (.int j) S R := bd_eq rfl rfl rfl (by rw [dec_int, Bool.beq_eq_decide_eq]; exact h)
theorem bd_nei {i j : Int} (h : R (.bl (!decide (i = j))) S) : BD M X (compareOp .NotEq) (.int i) (.int j) S R := bd_ne rfl rfl rfl (by rw [dec_int, Bool.beq_eq_decide_eq]; exact h)
theorem bd_eqs {i j : Str} (h : R (.bl (decide (i = j))) S) : BD M X (compareOp .Eq) (.str i) (.str j) S R := bd_eq rfl rfl rfl (by rw [dec_str, Bool.beq_eq_decide_eq]; exact h)
theorem bd_nes {i j : Str} (h : R (.bl (!decide (i = j))) S) : BD M X (compareOp .NotEq) (.str i) (.str j) S R := bd_ne rfl rfl rfl (by rw [dec_str, Bool.beq_eq_decide_eq]; exact h)
theorem bd_eqb {i j : Bool} (h : R (.bl (decide (i = j))) S) : BD M X (compareOp .Eq) (.bl i) (.bl j) S R := bd_eq rfl rfl rfl (by rw [dec_bl, Bool.beq_eq_decide_eq]; exact h)
theorem bd_lt {i j : Int} (h : R (.bl (decide (i < j))) S) : BD M X (compareOp .Lt) (.int i) (.int j) S R := fun H v1 v2 Q E r1 r2 q => by
  simp only [Rep] at r1 r2
  exact op_lt.wp ⟨i, j, r1, r2, q.now E h (by simp only [Rep])⟩
theorem bd_le {i j : Int} (h : R (.bl (decide (i ≤ j))) S) : BD M X (compareOp .LtE) (.int i) (.int j) S R := fun H v1 v2 Q E r1 r2 q => by
  simp only [Rep] at r1 r2
  exact op_le.wp ⟨i, j, r1, r2, q.now E h (by simp only [Rep])⟩
theorem bd_gt {i j : Int} (h : R (.bl (decide (j < i))) S) : BD M X (compareOp .Gt) (.int i) (.int j) S R := fun H v1 v2 Q E r1 r2 q => by
  simp only [Rep] at r1 r2
  exact op_gt.wp ⟨i, j, r1, r2, q.now E h (by simp only [Rep])⟩
theorem bd_ge {i j : Int} (h : R (.bl (decide (j ≤ i))) S) : BD M X (compareOp .GtE) (.int i) (.int j) S R := fun H v1 v2 Q E r1 r2 q => by
  simp only [Rep] at r1 r2
  exact op_ge.wp ⟨i, j, r1, r2, q.now E h (by simp only [Rep])⟩
def isNon : D → Bool
  | .non => true
  | _ => false
theorem isNon_rep {K : PySem.W.Frag} {H : Hp} {d : D} {v : V} (r : Rep K S H d v) : decide (v = .non) = isNon d := by
  cases d <;> simp only [Rep] at r
  case non => rw [r]; rfl
  case bl => rw [r]; rfl
  case int => rw [r]; rfl
  case str => rw [r]; rfl
  case ref => rw [r]; rfl
  case lst => obtain ⟨a, vs, e, _⟩ := r; rw [e]; rfl
  case tup => obtain ⟨a, vs, e, _⟩ := r; rw [e]; rfl
  case dct => obtain ⟨a, vs, e, _⟩ := r; rw [e]; rfl
  case dcu => obtain ⟨a, vs, e, _⟩ := r; rw [e]; rfl
  case obj => obtain ⟨a, dx, vs, e, _⟩ := r; rw [e]; rfl
  case scr => obtain ⟨a, e, _⟩ := r; rw [e]; rfl
  case fnc => obtain ⟨a, c, e, _⟩ := r; rw [e]; rfl
  case tupf => obtain ⟨a, vs, o, e, _⟩ := r; rw [e]; rfl
theorem bd_isN {d : D} (h : R (.bl (isNon d)) S) : BD M X (compareOp .Is) d .non S R := fun H v1 v2 Q E r1 r2 q => by
  have e := isNon_rep r1
  simp only [Rep] at r2
  exact op_isN.wp ⟨r2, by rw [e]; exact q.now E h (by simp only [Rep])⟩
theorem bd_notN {d : D} (h : R (.bl (!isNon d)) S) : BD M X (compareOp .IsNot) d .non S R := fun H v1 v2 Q E r1 r2 q => by
  have e := isNon_rep r1
  simp only [Rep] at r2
  exact op_notN.wp ⟨r2, by rw [e]; exact q.now E h (by simp only [Rep])⟩
/-- one text in another -/
def inS (x y : Str) : Bool := !(Builtin.Str.occurrences y x 0 y.length 1).isEmpty
theorem bd_inS {x y : Str} (h : R (.bl (inS x y)) S) : BD M X (compareOp .In) (.str x) (.str y) S R := fun H v1 v2 Q E r1 r2 q => by
  simp only [Rep] at r1 r2
  exact op_in_str.wp ⟨x, y, r1, r2, q.now E h (by simp only [Rep]; rfl)⟩
theorem bd_ninS {x y : Str} (h : R (.bl (!inS x y)) S) : BD M X (compareOp .NotIn) (.str x) (.str y) S R := fun H v1 v2 Q E r1 r2 q => by
  simp only [Rep] at r1 r2
  exact op_notIn_str.wp ⟨x, y, r1, r2, q.now E h (by simp only [Rep]; rfl)⟩
theorem bd_inC {c : Nat} {y : Str} (h : R (.bl (decide (c ∈ y.cps.toList))) S) : BD M X (compareOp .In) (.str ⟨#[c]⟩) (.str y) S R := fun H v1 v2 Q E r1 r2 q => by
  simp only [Rep] at r1 r2
  exact op_in_sign.wp ⟨c, y, r1, r2, q.now E h (by simp only [Rep])⟩
theorem bd_ninC {c : Nat} {y : Str} (h : R (.bl (!decide (c ∈ y.cps.toList))) S) : BD M X (compareOp .NotIn) (.str ⟨#[c]⟩) (.str y) S R := fun H v1 v2 Q E r1 r2 q => by
  simp only [Rep] at r1 r2
  exact op_notIn_sign.wp ⟨c, y, r1, r2, q.now E h (by simp only [Rep])⟩
/-- in a list or a tuple of flat things -/
theorem repL_flat {K : PySem.W.Frag} {H : Hp} : ∀ {ds : List D} {xs vs : List V}, ds.map sV = xs.map some → RepL K S H ds vs → vs = xs
  | [], xs, vs, h, r => by
    cases xs with
    | nil => simpa only [RepL] using r
    | cons => cases h
  | d :: ds, xs, vs, h, r => by
    cases xs with
    | nil => cases h
    | cons x xs =>
      simp only [List.map_cons, List.cons.injEq] at h
      simp only [RepL] at r
      obtain ⟨v, ws, rfl, r1, r2⟩ := r
      rw [sV_rep h.1 r1, repL_flat h.2 r2]
theorem flat_sV {d : D} {x : V} (h : sV d = some x) : flatV x = true := by
  cases d <;> simp only [sV, Option.some.injEq, reduceCtorEq] at h <;> rw [← h] <;> rfl
theorem flat_sVs : ∀ {ds : List D} {xs : List V}, ds.map sV = xs.map some → xs.all flatV = true
  | [], xs, h => by
    cases xs with
    | nil => rfl
    | cons => cases h
  | d :: ds, xs, h => by
    cases xs with
    | nil => rfl
    | cons x xs =>
      simp only [List.map_cons, List.cons.injEq] at h
      rw [List.all_cons, flat_sV h.1, flat_sVs h.2]
      rfl
theorem bd_inQ (hk : X.K = M.K) {d e : D} {x : V} {ds : List D} {xs : List V} (hd : sV d = some x) (he : S.view e = .lst ds ∨ S.view e = .tup ds) (hx : ds.map sV = xs.map some) (h : R (.bl (inV x xs)) S) : BD M X (compareOp .In) d e S R := fun H v1 v2 Q E r1 r2 q => by
  rw [sV_rep hd r1]
  rcases he with he | he
  · obtain ⟨a, vs, e2, h2, l2⟩ := rep_lst E r2 he
    rw [repL_flat hx l2] at h2
    exact op_in_seq.wp ⟨a, xs, e2, .inl (SqL.of h2), flat_sV hd, flat_sVs hx, q.now E h (by simp only [Rep]; rfl)⟩
  · obtain ⟨a, vs, e2, h2, l2⟩ := rep_tup E r2 he
    rw [repL_flat hx l2] at h2
    exact op_in_seq.wp ⟨a, xs, e2, .inr (by rw [hk]; exact h2), flat_sV hd, flat_sVs hx, q.now E h (by simp only [Rep]; rfl)⟩
theorem bd_ninQ (hk : X.K = M.K) {d e : D} {x : V} {ds : List D} {xs : List V} (hd : sV d = some x) (he : S.view e = .lst ds ∨ S.view e = .tup ds) (hx : ds.map sV = xs.map some) (h : R (.bl (!inV x xs)) S) : BD M X (compareOp .NotIn) d e S R := fun H v1 v2 Q E r1 r2 q => by
  rw [sV_rep hd r1]
  rcases he with he | he
  · obtain ⟨a, vs, e2, h2, l2⟩ := rep_lst E r2 he
    rw [repL_flat hx l2] at h2
    exact op_notIn_seq.wp ⟨a, xs, e2, .inl (SqL.of h2), flat_sV hd, flat_sVs hx, q.now E h (by simp only [Rep]; rfl)⟩
  · obtain ⟨a, vs, e2, h2, l2⟩ := rep_tup E r2 he
    rw [repL_flat hx l2] at h2
    exact op_notIn_seq.wp ⟨a, xs, e2, .inr (by rw [hk]; exact h2), flat_sV hd, flat_sVs hx, q.now E h (by simp only [Rep]; rfl)⟩
/-! ### dicts -/
theorem valV_zip [DecidableEq κ] : ∀ (ks : List κ) (vs : List V) (k : κ), valV (ks.zip vs) k = ((ks.zip vs).find? fun p => decide (p.1 = k)).map (·.2) := fun _ _ _ => rfl
/-- the value at a key -/
def getK [DecidableEq κ] : List κ → List D → κ → Option D
  | k :: ks, d :: ds, j => if k = j then some d else getK ks ds j
  | _, _, _ => none
theorem getK_val [DecidableEq κ] {K : PySem.W.Frag} {H : Hp} : ∀ {ks : List κ} {ds : List D} {vs : List V} (j : κ), RepL K S H ds vs → (getK ks ds j = none ∧ valV (ks.zip vs) j = none) ∨ ∃ d v, getK ks ds j = some d ∧ valV (ks.zip vs) j = some v ∧ Rep K S H d v
  | [], ds, vs, j, r => .inl ⟨rfl, rfl⟩
  | k :: ks, [], vs, j, r => by
    simp only [RepL] at r
    subst r
    exact .inl ⟨rfl, rfl⟩
  | k :: ks, d :: ds, vs, j, r => by
    simp only [RepL] at r
    obtain ⟨v, ws, rfl, r1, r2⟩ := r
    by_cases e : k = j
    · refine .inr ⟨d, v, if_pos e, valV_pos (p := (k, v)) e, r1⟩
    · have h1 : getK (k :: ks) (d :: ds) j = getK ks ds j := if_neg e
      have h2 : valV ((k :: ks).zip (v :: ws)) j = valV (ks.zip ws) j := valV_neg (p := (k, v)) e
      rw [h1, h2]
      exact getK_val j r2
def kD : Key → D
  | .inl i => .int i
  | .inr x => .str x
theorem rep_kD {K : PySem.W.Frag} {H : Hp} {k : Key} {v : V} (r : Rep K S H (kD k) v) : v = kV k := by
  cases k <;> simp only [kD, Rep] at r <;> rw [r] <;> rfl
theorem repL_kD {K : PySem.W.Frag} {H : Hp} : ∀ {ks : List Key} {vs : List V}, RepL K S H (ks.map kD) vs → vs = ks.map kV
  | [], vs, r => by simpa only [RepL, List.map_nil] using r
  | k :: ks, vs, r => by
    simp only [RepL, List.map_cons] at r
    obtain ⟨v, ws, rfl, r1, r2⟩ := r
    rw [rep_kD r1, repL_kD r2]
    rfl
theorem DGet.rd {H : Hp} {a : Addr} {kvs : List (Key × V)} {k : Key} (e : Rd H a (.dK kvs)) : DGet H a (kV k) (valV kvs k) := .inl ⟨kvs, k, e, rfl, rfl⟩
theorem DGet.rdt {H : Hp} {a b : Addr} {kvs : List (List Key × V)} {k : List Key} (e : Rd H a (.dT kvs)) (eb : H b = some (.tup (k.map kV))) : DGet H a (.ref b) (valV kvs k) := .inr ⟨kvs, k, b, e, rfl, eb, rfl⟩
theorem op_in_dict (hu : X.A.units + 1 < cLine) : OpR X (compareOp .In) (fun y x H Q => ∃ a o, x = .ref a ∧ DGet H a y o ∧ Q (.bl o.isSome) H) := by
  intro pins s σ H x y v u Q I rx ry ⟨a, o, e, g, q⟩
  subst e
  obtain rfl : u = Value.ref a := ry
  exact d_in hu I g rx fun s3 I3 => ⟨.bl o.isSome, H, I3, rfl, q⟩
theorem op_notIn_dict (hu : X.A.units + 1 < cLine) : OpR X (compareOp .NotIn) (fun y x H Q => ∃ a o, x = .ref a ∧ DGet H a y o ∧ Q (.bl (!o.isSome)) H) := by
  intro pins s σ H x y v u Q I rx ry ⟨a, o, e, g, q⟩
  subst e
  obtain rfl : u = Value.ref a := ry
  exact d_notIn hu I g rx fun s3 I3 => ⟨.bl (!o.isSome), H, I3, rfl, q⟩
theorem ix_dict (hu : X.A.units + 1 < cLine) : IxR X (fun x y H Q => ∃ a v, x = .ref a ∧ DGet H a y (some v) ∧ Q v H) := by
  intro value slice pins s σ H x y v u Q I rx ry ⟨a, z, e, g, q⟩ hs
  subst e
  obtain rfl : v = Value.ref a := rx
  have hT := dict_typeIs I g
  unfold subscriptTail
  refine wpAny_bind ?_
  rw [getitemInPython_of_ne hT.not_modules]
  refine wpAny_bind (wpAny_specialOf hT PySem.F.slot_dict_getitem.lookup ?_)
  have fin : wpAny (model X.prog X.w) X.A (subscripted slice false (.ref a) u) (fun r s₃ => wpAny (model X.prog X.w) X.A (letTemporaryGo value (.ref a) r >>= fun _ => pure r) (EP X pins σ Q) X.xe s₃) X.xe s := by
    rw [hs]
    exact wpAny_operating (d_getItem hu I g ry fun w' s3 I3 rw' => wpAny_bind (wpAny_letTemporaryGo (wpAny_pure ⟨z, H, I3, rw', q⟩)))
  first
    | exact wpAny_pure (wpAny_bind fin)
    | exact wpAny_bind (wpAny_pure (wpAny_bind fin))
    | exact wpAny_bind fin
theorem bd_inK (hu : X.A.units + 1 < cLine) {k : Key} {e : D} {ks : List Key} {ds : List D} (he : S.view e = .dct ks ds) (h : R (.bl (getK ks ds k).isSome) S) : BD M X (compareOp .In) (kD k) e S R := fun H v1 v2 Q E r1 r2 q => by
  obtain ⟨a, vs, e2, h2, h0, l2⟩ := rep_dct E r2 he
  rw [rep_kD r1]
  refine (op_in_dict hu).wp ⟨a, _, e2, DGet.rd h2, ?_⟩
  rcases getK_val (ks := ks) k l2 with ⟨g1, g2⟩ | ⟨d, v, g1, g2, _⟩
  · rw [g2]; rw [g1] at h; exact q.now E h (by simp only [Rep]; rfl)
  · rw [g2]; rw [g1] at h; exact q.now E h (by simp only [Rep]; rfl)
theorem bd_ninK (hu : X.A.units + 1 < cLine) {k : Key} {e : D} {ks : List Key} {ds : List D} (he : S.view e = .dct ks ds) (h : R (.bl (!(getK ks ds k).isSome)) S) : BD M X (compareOp .NotIn) (kD k) e S R := fun H v1 v2 Q E r1 r2 q => by
  obtain ⟨a, vs, e2, h2, h0, l2⟩ := rep_dct E r2 he
  rw [rep_kD r1]
  refine (op_notIn_dict hu).wp ⟨a, _, e2, DGet.rd h2, ?_⟩
  rcases getK_val (ks := ks) k l2 with ⟨g1, g2⟩ | ⟨d, v, g1, g2, _⟩
  · rw [g2]; rw [g1] at h; exact q.now E h (by simp only [Rep]; rfl)
  · rw [g2]; rw [g1] at h; exact q.now E h (by simp only [Rep]; rfl)
/-! ### places -/
theorem id_lst (hk : X.K = M.K) {d x : D} {ds : List D} {i : Int} (hd : S.view d = .lst ds) (ha : atI ds i = some x) (h : R x S) : ID M X d (.int i) S R := fun H v1 v2 Q E r1 r2 q => by
  obtain ⟨a, vs, e1, h1, l1⟩ := rep_lst E r1 hd
  simp only [Rep] at r2
  unfold atI at ha
  rw [Option.bind_eq_some_iff] at ha
  obtain ⟨j, hj, hx⟩ := ha
  obtain ⟨v, hv, rv⟩ := l1.get hx
  exact ix_list.wp ⟨a, vs, i, v, e1, r2, by rw [hk]; exact SqL.of h1, by unfold atI; rw [← l1.length, hj]; exact hv, q.now E h rv⟩
theorem id_tup (hk : X.K = M.K) {d x : D} {ds : List D} {i : Int} (hd : S.view d = .tup ds) (ha : atI ds i = some x) (h : R x S) : ID M X d (.int i) S R := fun H v1 v2 Q E r1 r2 q => by
  obtain ⟨a, vs, e1, h1, l1⟩ := rep_tup E r1 hd
  simp only [Rep] at r2
  unfold atI at ha
  rw [Option.bind_eq_some_iff] at ha
  obtain ⟨j, hj, hx⟩ := ha
  obtain ⟨v, hv, rv⟩ := l1.get hx
  exact ix_tup.wp ⟨a, vs, i, v, e1, r2, by rw [hk]; exact h1, by unfold atI; rw [← l1.length, hj]; exact hv, q.now E h rv⟩
theorem id_str {x : Str} {i : Int} {c : Nat} (hl : x.length ≤ sizeLine) (ha : atI x.cps.toList i = some c) (h : R (.str ⟨#[c]⟩) S) : ID M X (.str x) (.int i) S R := fun H v1 v2 Q E r1 r2 q => by
  simp only [Rep] at r1 r2
  exact ix_str.wp ⟨x, i, c, r1, r2, hl, ha, q.now E h (by simp only [Rep])⟩
theorem id_dct (hu : X.A.units + 1 < cLine) {k : Key} {d x : D} {ks : List Key} {ds : List D} (hd : S.view d = .dct ks ds) (hg : getK ks ds k = some x) (h : R x S) : ID M X d (kD k) S R := fun H v1 v2 Q E r1 r2 q => by
  obtain ⟨a, vs, e2, h2, h0, l2⟩ := rep_dct E r1 hd
  rw [rep_kD r2]
  rcases getK_val (ks := ks) k l2 with ⟨g1, g2⟩ | ⟨d', v, g1, g2, rv⟩
  · rw [g1] at hg; cases hg
  · rw [g1] at hg
    cases hg
    exact (ix_dict hu).wp ⟨a, v, e2, by rw [← g2]; exact DGet.rd h2, q.now E h rv⟩
/-! ### lengths, numbers, texts of numbers -/
theorem cd_len (hk : X.K = M.K) {d : D} {ds : List D} (hd : S.view d = .lst ds ∨ S.view d = .tup ds) (h : R (.int ds.length) S) : CD M X (.builtin "len") [d] S R := fun H vs Q E r q => by
  simp only [RepL] at r
  obtain ⟨v, ws, rfl, r1, rfl⟩ := r
  rcases hd with hd | hd
  · obtain ⟨a, vs, e1, h1, l1⟩ := rep_lst E r1 hd
    exact call_len_seq.wp ⟨a, vs, by rw [e1], .inl (by rw [hk]; exact SqL.of h1), q.now E h (by simp only [Rep]; rw [l1.length])⟩
  · obtain ⟨a, vs, e1, h1, l1⟩ := rep_tup E r1 hd
    exact call_len_seq.wp ⟨a, vs, by rw [e1], .inr (by rw [hk]; exact h1), q.now E h (by simp only [Rep]; rw [l1.length])⟩
theorem cd_lens {x : Str} (hl : x.length ≤ sizeLine) (h : R (.int x.length) S) : CD M X (.builtin "len") [.str x] S R := fun H vs Q E r q => by
  simp only [RepL, Rep] at r
  obtain ⟨v, ws, rfl, rfl, rfl⟩ := r
  exact call_len_str.wp ⟨x, rfl, hl, q.now E h (by simp only [Rep])⟩
theorem d_lenR (I : Inv X pins σ H s) {a : Addr} {kvs : List (Key × V)} (e : Rd H a (.dK kvs)) {Q : VK} (q : Q (.int kvs.length) H) : wpAny (model X.prog X.w) X.A (call (.builtin "len") [.ref a]) (EP X pins σ Q) X.xe s :=
  d_len I e fun t s' I' => ⟨.int kvs.length, H, I', ⟨t, rfl⟩, q⟩
theorem cd_lend {d : D} {ks : List Key} {ds : List D} (hd : S.view d = .dct ks ds) (h : R (.int ks.length) S) : CD M X (.builtin "len") [d] S R := fun H vs Q E r q => by
  simp only [RepL] at r
  obtain ⟨v, ws, rfl, r1, rfl⟩ := r
  obtain ⟨a, vs, e1, h1, h0, l1⟩ := rep_dct E r1 hd
  subst e1
  refine ⟨fun pins s σ us I ru => ?_⟩
  obtain ⟨u, rfl, ru'⟩ := vals1 ru
  obtain rfl : u = Value.ref a := ru'
  refine d_lenR I h1 ?_
  have e : (ks.zip vs).length = ks.length := by rw [List.length_zip, ← l1.length, h0, Nat.min_self]
  rw [e]
  exact q.now E h (by simp only [Rep])
theorem cd_abs {i : Int} (h : R (.int (if i < 0 then -i else i)) S) : CD M X (.builtin "abs") [.int i] S R := fun H vs Q E r q => by
  simp only [RepL, Rep] at r
  obtain ⟨v, ws, rfl, rfl, rfl⟩ := r
  exact call_abs.wp ⟨i, rfl, q.now E h (by simp only [Rep])⟩
theorem cd_int {i : Int} (h : R (.int i) S) : CD M X (.type "int") [.int i] S R := fun H vs Q E r q => by
  simp only [RepL, Rep] at r
  obtain ⟨v, ws, rfl, rfl, rfl⟩ := r
  exact call_int1.wp (.inl ⟨i, rfl, q.now E h (by simp only [Rep])⟩)
theorem cd_intb {b : Bool} (h : R (.int (if b then 1 else 0)) S) : CD M X (.type "int") [.bl b] S R := fun H vs Q E r q => by
  simp only [RepL, Rep] at r
  obtain ⟨v, ws, rfl, rfl, rfl⟩ := r
  exact call_int1.wp (.inr ⟨b, rfl, q.now E h (by simp only [Rep])⟩)
theorem cd_ints {x : Str} {n : Int} (hx : PySem.intText? x = some n) (hl : x.length ≤ 640) (h : R (.int n) S) : CD M X (.type "int") [.str x] S R := fun H vs Q E r q => by
  simp only [RepL, Rep] at r
  obtain ⟨v, ws, rfl, rfl, rfl⟩ := r
  exact call_int_str.wp ⟨x, n, rfl, hx, hl, q.now E h (by simp only [Rep])⟩
theorem cd_str {i : Int} (hl : i.natAbs.log2 < 1920) (h : R (.str (toString i)) S) : CD M X (.type "str") [.int i] S R := fun H vs Q E r q => by
  simp only [RepL, Rep] at r
  obtain ⟨v, ws, rfl, rfl, rfl⟩ := r
  exact call_str_int.wp ⟨i, rfl, hl, q.now E h (by simp only [Rep])⟩
/-- list(x), tuple(x) of a list or a tuple -/
theorem cd_list (hk : X.K = M.K) {d : D} {ds : List D} (hd : S.view d = .lst ds ∨ S.view d = .tup ds) (h : R (.lst ds) S) : CD M X (.type "list") [d] S R := fun H vs Q E r q => by
  simp only [RepL] at r
  obtain ⟨v, ws, rfl, r1, rfl⟩ := r
  rcases hd with hd | hd
  · obtain ⟨a, vs, e1, h1, l1⟩ := rep_lst E r1 hd
    exact call_list_of.wp ⟨a, vs, by rw [e1], .inl (by rw [hk]; exact SqL.of h1), q.newL E h l1⟩
  · obtain ⟨a, vs, e1, h1, l1⟩ := rep_tup E r1 hd
    exact call_list_of.wp ⟨a, vs, by rw [e1], .inr (by rw [hk]; exact h1), q.newL E h l1⟩
theorem cd_listM (hk : X.K = M.K) {d : D} {ds : List D} (hd : S.view d = .lst ds ∨ S.view d = .tup ds) (h : ∀ p, S p = none → R (.ref p) (S.put p (.lst ds))) : CD M X (.type "list") [d] S R := fun H vs Q E r q => by
  simp only [RepL] at r
  obtain ⟨v, ws, rfl, r1, rfl⟩ := r
  rcases hd with hd | hd
  · obtain ⟨a, vs, e1, h1, l1⟩ := rep_lst E r1 hd
    exact call_list_of.wp ⟨a, vs, by rw [e1], .inl (by rw [hk]; exact SqL.of h1), q.newLM E h l1⟩
  · obtain ⟨a, vs, e1, h1, l1⟩ := rep_tup E r1 hd
    exact call_list_of.wp ⟨a, vs, by rw [e1], .inr (by rw [hk]; exact h1), q.newLM E h l1⟩
theorem cd_tuple (hk : X.K = M.K) {d : D} {ds : List D} (hd : S.view d = .lst ds) (h : R (.tup ds) S) : CD M X (.type "tuple") [d] S R := fun H vs Q E r q => by
  simp only [RepL] at r
  obtain ⟨v, ws, rfl, r1, rfl⟩ := r
  obtain ⟨a, vs, e1, h1, l1⟩ := rep_lst E r1 hd
  exact call_tuple_of.wp ⟨a, vs, by rw [e1], .inl ⟨by rw [hk]; exact SqL.of h1, q.newT E h l1⟩⟩
theorem cd_sum (hk : X.K = M.K) (hc : X.calm = true) {d : D} {ns : List Int} (hd : S.view d = .lst (ns.map D.int)) (h : R (.int ns.sum) S) : CD M X (.builtin "sum") [d] S R := fun H vs Q E r q => by
  simp only [RepL] at r
  obtain ⟨v, ws, rfl, r1, rfl⟩ := r
  obtain ⟨a, vs, e1, h1, l1⟩ := rep_lst E r1 hd
  rw [repL_ints l1] at h1
  exact (cr_sum hc).wp ⟨a, ns, by rw [e1], by rw [hk]; exact SqL.of h1, q.now E h (by simp only [Rep])⟩
end
end QD
set_option maxHeartbeats 4000000
/-! The walk over data: promises, calls, attributes, statements. -/
namespace QD
open PySem PySem.Spec PyProof.Rows L2

/-! ### promises -/
abbrev ASp := List D → Sto → RK → ZK → Prop
def spOf (M : Mo) (A : ASp) : Sp := fun vs H Q E => ∃ ds S R Z, EnvH M S H ∧ RepL M.K S H ds vs ∧ A ds S R Z ∧ RQ M S H R Q ∧ ∀ C H' S', Z C S' → EnvH M S' H' → Ext S H S' H' → E (.ref C) none H'
/-- a def of the module's -/
structure FOk (F : Fix) (k : Nat) (x : Str) (A : ASp) : Prop where
  ex : ∃ f fd ps, F.mg x = some (.ref f) ∧ PySem.W.keepIn F.M.K (.ref f) = true ∧ FnOk F.P F.w F.M.K F.mg F.base (L2.CX F.P F.w) k f fd ps (spOf F.M A) ∧ Binds F.M.K fd ps []
/-- a method of the class at C -/
structure MOk (F : Fix) (k : Nat) (C : Addr) (m : Str) (A : ASp) : Prop where
  ex : ∃ f fd ps, Cls F.M.K C ∧ Meth F.M.K C m f ∧ FnOk F.P F.w F.M.K F.mg F.base (L2.CX F.P F.w) k f fd ps (spOf F.M A) ∧ Binds F.M.K fd ps []
/-- a class, made by its __init__ -/
structure COk (F : Fix) (k : Nat) (x : Str) (C : Addr) (A : ASp) : Prop where
  ex : ∃ f fd ps, F.mg x = some (.ref C) ∧ Mk F.M.K C f ∧ FnOk F.P F.w F.M.K F.mg F.base (L2.CX F.P F.w) k f fd ps (spOf F.M A) ∧ Binds F.M.K fd ps []
/-- an error of one's own, without an __init__ -/
structure EOk (F : Fix) (x : Str) (C : Addr) : Prop where
  g : F.mg x = some (.ref C)
  ex : PySem.W.excIn F.M.K C [.type "ValueError", .type "Exception", .type "BaseException", .type "object"] "ValueError.__new__" = true
  kp : PySem.W.keepIn F.M.K (.ref C) = true
  sb : PySem.W.subIn F.M.K (.ref C) (.type "BaseException") = some true
  ty : PySem.W.typeIn F.M.K (.ref C) = some (.type "type")

/-- the value of an attribute -/
def getF : List Str → List D → Str → Option D
  | n :: ns, d :: ds, f => if n = f then some d else getF ns ds f
  | _, _, _ => none
def putN (f : Str) : List Str → List Str
  | [] => [f]
  | n :: ns => if n = f then n :: ns else n :: putN f ns
def putD (f : Str) (d : D) : List Str → List D → List D
  | n :: ns, x :: ds => if n = f then d :: ds else x :: putD f d ns ds
  | _, _ => [d]
section
variable {K : PySem.W.Frag} {S : Sto} {H : Hp}
theorem getF_lookup : ∀ {ns : List Str} {ds : List D} {vs : List V} (f : Str), RepL K S H ds vs → (getF ns ds f = none ∧ (ns.zip vs).lookup f = none) ∨ ∃ d v, getF ns ds f = some d ∧ (ns.zip vs).lookup f = some v ∧ Rep K S H d v
  | [], ds, vs, f, r => .inl ⟨rfl, rfl⟩
  | n :: ns, [], vs, f, r => by
    simp only [RepL] at r
    subst r
    exact .inl ⟨rfl, rfl⟩
  | n :: ns, d :: ds, vs, f, r => by
    simp only [RepL] at r
    obtain ⟨v, ws, rfl, r1, r2⟩ := r
    by_cases e : n = f
    · subst e
      exact .inr ⟨d, v, if_pos rfl, by simp [List.lookup], r1⟩
    · have h1 : getF (n :: ns) (d :: ds) f = getF ns ds f := if_neg e
      have h2 : ((n :: ns).zip (v :: ws)).lookup f = (ns.zip ws).lookup f := by
        have e' : (f == n) = false := by simpa using (fun z => e z.symm)
        show List.lookup f ((n, v) :: ns.zip ws) = _
        rw [List.lookup_cons, e']
      rw [h1, h2]
      exact getF_lookup f r2
theorem putF_zip : ∀ {ns : List Str} {ds : List D} {vs : List V} {f : Str} {d : D} {v : V}, ns.length = ds.length → RepL K S H ds vs → Rep K S H d v →
    ∃ ws, putF f v (ns.zip vs) = (putN f ns).zip ws ∧ (putN f ns).length = (putD f d ns ds).length ∧ RepL K S H (putD f d ns ds) ws
  | [], [], vs, f, d, v, hl, r, rd => by
    simp only [RepL] at r
    subst r
    exact ⟨[v], rfl, rfl, repL_cons rd repL_nil⟩
  | [], d :: ds, vs, f, _, v, hl, r, rd => by simp at hl
  | n :: ns, [], vs, f, d, v, hl, r, rd => by simp at hl
  | n :: ns, x :: ds, vs, f, d, v, hl, r, rd => by
    simp only [RepL] at r
    obtain ⟨y, ys, rfl, r1, r2⟩ := r
    have hl' : ns.length = ds.length := by simpa using hl
    by_cases e : n = f
    · have h1 : putN f (n :: ns) = n :: ns := if_pos e
      have h2 : putD f d (n :: ns) (x :: ds) = d :: ds := if_pos e
      have h3 : putF f v ((n :: ns).zip (y :: ys)) = (n, v) :: ns.zip ys := if_pos e
      rw [h1, h2, h3]
      exact ⟨v :: ys, rfl, by simp [hl'], repL_cons rd r2⟩
    · have h1 : putN f (n :: ns) = n :: putN f ns := if_neg e
      have h2 : putD f d (n :: ns) (x :: ds) = x :: putD f d ns ds := if_neg e
      have h3 : putF f v ((n :: ns).zip (y :: ys)) = (n, y) :: putF f v (ns.zip ys) := if_neg e
      obtain ⟨ws, g1, g2, g3⟩ := putF_zip (f := f) hl' r2 rd
      rw [h1, h2, h3, g1]
      exact ⟨y :: ws, rfl, by simp [g2], repL_cons r1 g3⟩
end

section
variable {F : Fix} {N : List Str} {sc : Scope} {k : Nat} {X : Cx} {W : WX} {Γ : Ga} {S : Sto} {R R' : RK} {Z : ZK} {a b e o : Expr} {es : List Expr} {pos pos' apos p : Pos}
/-! ### calls -/
theorem XC.pass (c : XC F N sc k X W) : Passes (L2.CX X.prog X.w) X (fun cls d H' => ∀ σ', W cls d σ' H') := passes_call c.tk fun _ _ σ _ h => h σ
theorem sp_go {M : Mo} {A : ASp} {S1 : Sto} {H H1 : Hp} {Q : VK} {ds : List D} {vs : List V} (E1 : EnvH M S1 H1) (r : RepL M.K S1 H1 ds vs) (h : A ds S1 R Z) (q : RQ M S1 H1 R Q) (z : ZQ M S1 H1 Z W) :
    spOf M A vs H1 Q (fun cls d H' => ∀ σ', W cls d σ' H') := ⟨ds, S1, R, Z, E1, r, h, q, fun C H' S' hz E' x' σ' => z C H' S' σ' hz E' x'⟩
theorem ax_call (c : XC F N sc k X W) {x : Str} {A : ASp} {j : Nat} (G : FOk F j x A) (hj : j ≤ k) (hs : glB sc x = true) (h : AA F.M X W (e :: es) Γ S (fun ds S1 => A ds S1 R Z) Z)
    (he : starEach (e :: es) X.env = (false, eval e X.env) :: starEach es X.env := by rfl) (hpl : (backTo pos (starEach es X.env)).any (·.1) = false := by rfl) : AX F.M X W (.Call (.Name x p) (e :: es) [] pos) Γ S R Z := by
  obtain ⟨f, fd, ps, g1, g2, g3, g4⟩ := G.ex
  obtain ⟨h1, h2, _⟩ := glB_gl hs
  intro σ H Q E q z
  rw [← c.hP, ← c.hw, ← c.hK, ← c.hm, ← c.hb] at g3
  refine (pe_call g3 (c.room.mono hj) (c.gl h1) (by rw [c.hm]; exact g1) (by rw [c.hK]; exact g2) (by rw [c.hK]; exact g4) .nil c.pass pa_wp h2 he hpl).wp ?_
  refine h σ H _ E (fun vs ds H1 S1 ha E1 x1 r1 => ?_) z
  rw [List.append_nil]
  have := sp_go (H := H) E1 r1 ha (q.ext x1) (z.ext x1)
  exact this
theorem ax_call0 (c : XC F N sc k X W) {x : Str} {A : ASp} {j : Nat} (G : FOk F j x A) (hj : j ≤ k) (hs : glB sc x = true) (h : A [] S R Z) : AX F.M X W (.Call (.Name x p) [] [] pos) Γ S R Z := by
  obtain ⟨f, fd, ps, g1, g2, g3, g4⟩ := G.ex
  obtain ⟨h1, h2, _⟩ := glB_gl hs
  intro σ H Q E q z
  rw [← c.hP, ← c.hw, ← c.hK, ← c.hm, ← c.hb] at g3
  exact (pe_call0 g3 (c.room.mono hj) (c.gl h1) (by rw [c.hm]; exact g1) (by rw [c.hK]; exact g2) (by rw [c.hK]; exact g4) .nil c.pass h2).wp (sp_go (H := H) E.hp repL_nil h q z)
theorem meth_go {K : PySem.W.Frag} {M : Mo} {H1 : Hp} {C : Addr} {m : Str} {ns : List Str} {S1 : Sto} {d : D} {v : V} {fs : List D} (E1 : EnvH M S1 H1) (r1 : Rep M.K S1 H1 d v) (hv : S1.view d = .obj C ns fs) (hm : getF ns fs m = none) :
    ∃ a dx gs, v = .ref a ∧ H1 a = some (.ins C dx gs) ∧ gs.lookup m = none := by
  obtain ⟨a, dx, vs, e1, h1, h0, l1⟩ := rep_obj E1 r1 hv
  refine ⟨a, dx, _, e1, h1, ?_⟩
  rcases getF_lookup (ns := ns) m l1 with ⟨_, g2⟩ | ⟨d', v', g1, _⟩
  · exact g2
  · rw [hm] at g1; cases g1
theorem ax_meth (c : XC F N sc k X W) {m : Str} {C : Addr} {A : ASp} {j : Nat} {pl : Sem Bool} (G : MOk F j C m A) (hj : j ≤ k)
    (h : AX F.M X W o Γ S (fun d S1 => ∃ ns fs, S1.view d = .obj C ns fs ∧ getF ns fs m = none ∧ AA F.M X W (e :: es) Γ S1 (fun ds S2 => A (d :: ds) S2 R Z) Z) Z)
    (hst : starEach (e :: es) X.env = (false, eval e X.env) :: starEach es X.env := by rfl) (hpl : (backTo pos (starEach es X.env)).any (·.1) = false := by rfl)
    (ht : eval (.Call (.Attribute o m apos) (e :: es) [] pos) X.env = (do
      let ov ← eval o X.env
      standAt apos.atName
      let (f, first) ← holding [ov] (getMethod ov m pl)
      callWith pos f first (backTo pos (starEach (e :: es) X.env)) (backToKw pos (keywordEach [] X.env))) := by rfl) : AX F.M X W (.Call (.Attribute o m apos) (e :: es) [] pos) Γ S R Z := by
  obtain ⟨f, fd, ps, g1, g2, g3, g4⟩ := G.ex
  intro σ H Q E q z
  rw [← c.hP, ← c.hw, ← c.hK, ← c.hm, ← c.hb] at g3
  refine (pe_meth (pl := pl) pe_wp (by rw [c.hK]; exact g1) (by rw [c.hK]; exact g2) g3 (c.room.mono hj) (by rw [c.hK]; exact g4) .nil c.pass pa_wp hst hpl ht).wp ?_
  refine h σ H _ E (fun v d H1 S1 ⟨ns, fs, hv, hm, ha⟩ E1 x1 r1 => ?_) z
  obtain ⟨a, dx, gs, e1, h1, h2⟩ := meth_go (K := X.K) E1 r1 hv hm
  refine ⟨a, dx, gs, e1, h1, h2, ?_⟩
  refine ha σ H1 _ (E.ext E1 x1) (fun vs ds H2 S2 hb E2 x2 r2 => ?_) (z.ext x1)
  rw [List.append_nil]
  exact sp_go (H := H) E2 (repL_cons (r1.ext x2) r2) hb ((q.ext x1).ext x2) ((z.ext x1).ext x2)
theorem ax_meth0 (c : XC F N sc k X W) {m : Str} {C : Addr} {A : ASp} {j : Nat} {pl : Sem Bool} (G : MOk F j C m A) (hj : j ≤ k)
    (h : AX F.M X W o Γ S (fun d S1 => ∃ ns fs, S1.view d = .obj C ns fs ∧ getF ns fs m = none ∧ A [d] S1 R Z) Z)
    (ht : eval (.Call (.Attribute o m apos) [] [] pos) X.env = (do
      let ov ← eval o X.env
      standAt apos.atName
      let (f, first) ← holding [ov] (getMethod ov m pl)
      callWith pos f first (backTo pos (starEach [] X.env)) (backToKw pos (keywordEach [] X.env))) := by rfl) : AX F.M X W (.Call (.Attribute o m apos) [] [] pos) Γ S R Z := by
  obtain ⟨f, fd, ps, g1, g2, g3, g4⟩ := G.ex
  intro σ H Q E q z
  rw [← c.hP, ← c.hw, ← c.hK, ← c.hm, ← c.hb] at g3
  refine (pe_meth0 (pl := pl) pe_wp (by rw [c.hK]; exact g1) (by rw [c.hK]; exact g2) g3 (c.room.mono hj) (by rw [c.hK]; exact g4) .nil c.pass ht).wp ?_
  refine h σ H _ E (fun v d H1 S1 ⟨ns, fs, hv, hm, ha⟩ E1 x1 r1 => ?_) z
  obtain ⟨a, dx, gs, e1, h1, h2⟩ := meth_go (K := X.K) E1 r1 hv hm
  exact ⟨a, dx, gs, e1, h1, h2, sp_go (H := H) E1 (repL_cons r1 repL_nil) ha (q.ext x1) (z.ext x1)⟩
/-- what __init__ finds, what it leaves -/
theorem make_go {M : Mo} {A : ASp} {C : Addr} {S1 : Sto} {H1 : Hp} {Q : VK} {ds : List D} {vs : List V} (E1 : EnvH M S1 H1) (r : RepL M.K S1 H1 ds vs)
    (h : ∀ x, S1 x = none → A (.ref x :: ds) (S1.put x (.ins C [] [])) (fun d S2 => d = .non ∧ ∃ y S3, (y = .ref x ∧ S3 = S2 ∨ ∃ ns fs, S2 x = some (.ins C ns fs) ∧ y = .obj C ns fs ∧ S3 = S2.del x) ∧ R y S3) Z) (q : RQ M S1 H1 R Q) (z : ZQ M S1 H1 Z W) :
    ∀ x dx, H1 x = none → H1 dx = none → dx ≠ x → spOf M A (.ref x :: vs) (upd (upd H1 dx (.own x)) x (.ins C dx [])) (fun v H2 => v = .non ∧ Q (.ref x) H2) (fun cls d H' => ∀ σ', W cls d σ' H') := by
  intro x dx h1 h2 h3
  have E2 := E1.new (o := .own x) h2
  have h1' : upd H1 dx (.own x) x = none := by rw [upd_ne (Ne.symm h3)]; exact h1
  have E3 : EnvH M (S1.put x (.ins C [] [])) (upd (upd H1 dx (.own x)) x (.ins C dx [])) := E2.new2 h1' ⟨dx, [], rfl, rfl, repL_nil⟩
  have x3 : Ext S1 H1 (S1.put x (.ins C [] [])) (upd (upd H1 dx (.own x)) x (.ins C dx [])) := (Ext.new h2).trans (Ext.new2 h1')
  refine ⟨_, _, _, _, E3, repL_cons (by simp only [Rep]) (r.ext x3), h x (E1.none h1), fun v d H' S' ⟨ed, y, S3, hy, hr⟩ E' x' r' => ?_, fun C H' S' hz E' x' σ' => z C H' S' σ' hz E' (x3.trans x')⟩
  subst ed
  refine ⟨by simpa only [Rep] using r', ?_⟩
  rcases hy with ⟨rfl, rfl⟩ | ⟨ns, fs, hx, rfl, rfl⟩
  · exact q _ _ H' _ hr E' (x3.trans x') (by simp only [Rep])
  · obtain ⟨u, hu, dx', vs', rfl, h0, hl⟩ := E'.cell x _ hx
    refine q _ _ H' _ hr (E'.del x) ((x3.trans x').trans (Ext.del x)) ?_
    simp only [Rep]
    exact ⟨x, dx', vs', rfl, Sto.del_same, hu, h0, hl.ext (Ext.del x)⟩
theorem ax_make (c : XC F N sc k X W) {x : Str} {C : Addr} {A : ASp} {j : Nat} (G : COk F j x C A) (hj : j + 1 ≤ k) (hs : glB sc x = true)
    (h : AA F.M X W (e :: es) Γ S (fun ds S1 => ∀ x, S1 x = none → A (.ref x :: ds) (S1.put x (.ins C [] [])) (fun d S2 => d = .non ∧ ∃ y S3, (y = .ref x ∧ S3 = S2 ∨ ∃ ns fs, S2 x = some (.ins C ns fs) ∧ y = .obj C ns fs ∧ S3 = S2.del x) ∧ R y S3) Z) Z)
    (he : starEach (e :: es) X.env = (false, eval e X.env) :: starEach es X.env := by rfl) (hpl : (backTo pos (starEach es X.env)).any (·.1) = false := by rfl) : AX F.M X W (.Call (.Name x p) (e :: es) [] pos) Γ S R Z := by
  obtain ⟨f, fd, ps, g1, g2, g3, g4⟩ := G.ex
  obtain ⟨h1, h2, _⟩ := glB_gl hs
  intro σ H Q E q z
  rw [← c.hP, ← c.hw, ← c.hK, ← c.hm, ← c.hb] at g3
  refine (pe_make (by rw [c.hK]; exact g2) g3 (c.room.mono hj) (c.gl h1) (by rw [c.hm]; exact g1) (by rw [c.hK]; exact g4) .nil c.pass pa_wp h2 he hpl).wp ?_
  refine h σ H _ E (fun vs ds H1 S1 ha E1 x1 r1 => ?_) z
  rw [List.append_nil]
  exact make_go E1 r1 ha (q.ext x1) (z.ext x1)
theorem ax_make0 (c : XC F N sc k X W) {x : Str} {C : Addr} {A : ASp} {j : Nat} (G : COk F j x C A) (hj : j + 1 ≤ k) (hs : glB sc x = true)
    (h : ∀ x, S x = none → A [.ref x] (S.put x (.ins C [] [])) (fun d S2 => d = .non ∧ ∃ y S3, (y = .ref x ∧ S3 = S2 ∨ ∃ ns fs, S2 x = some (.ins C ns fs) ∧ y = .obj C ns fs ∧ S3 = S2.del x) ∧ R y S3) Z) :
    AX F.M X W (.Call (.Name x p) [] [] pos) Γ S R Z := by
  obtain ⟨f, fd, ps, g1, g2, g3, g4⟩ := G.ex
  obtain ⟨h1, h2, _⟩ := glB_gl hs
  intro σ H Q E q z
  rw [← c.hP, ← c.hw, ← c.hK, ← c.hm, ← c.hb] at g3
  exact (pe_make0 (by rw [c.hK]; exact g2) g3 (c.room.mono hj) (c.gl h1) (by rw [c.hm]; exact g1) (by rw [c.hK]; exact g4) .nil c.pass h2).wp (make_go E.hp repL_nil h q z)
/-- a built-in's call -/
theorem ax_bi (c : XC F N sc k X W) {x : Str} {id : String} (hs : glB sc x = true) (hm : F.mg x = none) (hv : bootBuiltins x = some (.builtin id)) (h : AA F.M X W (e :: es) Γ S (fun ds S1 => CD F.M X (.builtin id) ds S1 R) Z)
    (he : starEach (e :: es) X.env = (false, eval e X.env) :: starEach es X.env := by rfl) (hpl : (backTo pos (starEach es X.env)).any (·.1) = false := by rfl) : AX F.M X W (.Call (.Name x p) (e :: es) [] pos) Γ S R Z := by
  obtain ⟨h1, h2, h3⟩ := glB_gl hs
  intro σ H Q E q z
  exact (pe_callB cr_wp (c.gl h1) (by rw [c.hm]; exact hm) hv pa_wp h3 h2 he hpl).wp (h σ H _ E (fun vs ds H1 S1 ha E1 x1 r1 => ha H1 vs Q E1 r1 (q.ext x1)) z)
theorem ax_ty (c : XC F N sc k X W) {x : Str} {id : String} (hs : glB sc x = true) (hm : F.mg x = none) (hv : bootBuiltins x = some (.type id)) (h : AA F.M X W (e :: es) Γ S (fun ds S1 => CD F.M X (.type id) ds S1 R) Z)
    (he : starEach (e :: es) X.env = (false, eval e X.env) :: starEach es X.env := by rfl) (hpl : (backTo pos (starEach es X.env)).any (·.1) = false := by rfl) : AX F.M X W (.Call (.Name x p) (e :: es) [] pos) Γ S R Z := by
  obtain ⟨h1, h2, h3⟩ := glB_gl hs
  intro σ H Q E q z
  exact (pe_callTy cr_wp (c.gl h1) (by rw [c.hm]; exact hm) hv pa_wp h3 h2 he hpl).wp (h σ H _ E (fun vs ds H1 S1 ha E1 x1 r1 => ha H1 vs Q E1 r1 (q.ext x1)) z)
/-! ### attributes, places -/
theorem ax_fld (c : XC F N sc k X W) {f : Str} (h : AX F.M X W o Γ S (fun d S1 => ∃ C ns fs x, S1.view d = .obj C ns fs ∧ Cls F.M.K C ∧ NoAttr F.M.K C f ∧ getF ns fs f = some x ∧ R x S1) Z)
    (hb : attributeBase o f X.env (eval o X.env) = eval o X.env := by rfl) : AX F.M X W (.Attribute o f pos) Γ S R Z := fun σ H Q E q z =>
  (pe_fld pe_wp hb).wp (h σ H _ E (fun v d H1 S1 ⟨C, ns, fs, x, hv, hc, hn, hg, hr⟩ E1 x1 r1 => by
    obtain ⟨a, dx, vs, e1, h1, h0, l1⟩ := rep_obj E1 r1 hv
    rcases getF_lookup (ns := ns) f l1 with ⟨g1, _⟩ | ⟨d', v', g1, g2, rv⟩
    · rw [hg] at g1; cases g1
    · rw [hg] at g1
      cases g1
      exact ⟨a, C, dx, _, v', e1, h1, by rw [c.hK]; exact hc, by rw [c.hK]; exact hn, g2, q _ _ H1 S1 hr E1 x1 rv⟩) z)
theorem ax_ix (hx : PlainIx b) (h : AX F.M X W a Γ S (fun d1 S1 => AX F.M X W b Γ S1 (fun d2 S2 => ID F.M X d1 d2 S2 R) Z) Z) : AX F.M X W (.Subscript a b pos) Γ S R Z := fun σ H Q E q z =>
  (pe_ix ir_wp pe_wp pe_wp hx).wp (h σ H _ E (fun v1 d1 H1 S1 h1 E1 x1 r1 => h1 σ H1 _ (E.ext E1 x1) (fun v2 d2 H2 S2 h2 E2 x2 r2 => h2 H2 v1 v2 Q E2 (r1.ext x2) r2 ((q.ext x1).ext x2)) (z.ext x1)) z)
end

/-! ### statements -/
structure AK where
  nx : Ga → Sto → Prop
  rt : RK
  bk : Ga → Sto → Prop := fun _ _ => False
  ct : Ga → Sto → Prop := fun _ _ => False
def GQ (M : Mo) (S : Sto) (H : Hp) (n : Ga → Sto → Prop) (q : L2.St → Hp → Prop) : Prop := ∀ Γ' S' σ' H', n Γ' S' → Env M σ' H' Γ' S' → Ext S H S' H' → q σ' H'
structure EQ (M : Mo) (S : Sto) (H : Hp) (K : AK) (D : Ends) : Prop where
  nx : GQ M S H K.nx D.nx
  rt : RQ M S H K.rt D.rt
  bk : GQ M S H K.bk D.bk
  ct : GQ M S H K.ct D.ct
theorem GQ.ext {M : Mo} {S S1 : Sto} {H H1 : Hp} {n : Ga → Sto → Prop} {q : L2.St → Hp → Prop} (h : GQ M S H n q) (e : Ext S H S1 H1) : GQ M S1 H1 n q := fun Γ' S' σ' H' a b x => h Γ' S' σ' H' a b (e.trans x)
theorem EQ.ext {M : Mo} {S S1 : Sto} {H H1 : Hp} {K : AK} {D : Ends} (h : EQ M S H K D) (e : Ext S H S1 H1) : EQ M S1 H1 K D := ⟨h.nx.ext e, h.rt.ext e, h.bk.ext e, h.ct.ext e⟩
section
variable (M : Mo) (X : Cx) (W : WX)
def AS (st : Stmt) (Γ : Ga) (S : Sto) (K : AK) (Z : ZK) : Prop := ∀ σ H D, Env M σ H Γ S → EQ M S H K D → ZQ M S H Z W → wpS X st D σ H
def AB (st : List Stmt) (Γ : Ga) (S : Sto) (K : AK) (Z : ZK) : Prop := ∀ σ H D, Env M σ H Γ S → EQ M S H K D → ZQ M S H Z W → wpB X st D σ H
end
section
variable {F : Fix} {N : List Str} {sc : Scope} {k : Nat} {X : Cx} {W : WX} {Γ : Ga} {S : Sto} {K : AK} {Z : ZK} {a b e o : Expr} {st : Stmt} {rest : List Stmt} {pos pos' : Pos}
theorem ab_nil (h : K.nx Γ S) : AB F.M X W [] Γ S K Z := fun σ H D E q z => pss_nil.wp (q.nx Γ S σ H h E Ext.refl)
theorem ab_cons (h : AS F.M X W st Γ S { K with nx := fun Γ' S' => AB F.M X W rest Γ' S' K Z } Z) : AB F.M X W (st :: rest) Γ S K Z := fun σ H D E q z =>
  (pss_cons ps_wp pb_wp).wp (h σ H { D with nx := wpB X rest D } E ⟨fun Γ' S' σ' H' h' E' x' => h' σ' H' D E' (q.ext x') (z.ext x'), q.rt, q.bk, q.ct⟩ z)
/-- the same, what follows being shown once -/
theorem ab_cut (n : Ga → Sto → Prop) (h : AS F.M X W st Γ S { K with nx := n } Z) (hn : ∀ Γ' S', n Γ' S' → AB F.M X W rest Γ' S' K Z) : AB F.M X W (st :: rest) Γ S K Z := fun σ H D E q z =>
  (pss_cons ps_wp pb_wp).wp (h σ H { D with nx := wpB X rest D } E ⟨fun Γ' S' σ' H' h' E' x' => hn Γ' S' h' σ' H' D E' (q.ext x') (z.ext x'), q.rt, q.bk, q.ct⟩ z)
theorem ab_one (h : AS F.M X W st Γ S K Z) : AB F.M X W [st] Γ S K Z := fun σ H D E q z => (pss_one ps_wp).wp (h σ H D E q z)
theorem as_pass (h : K.nx Γ S) : AS F.M X W (.Pass pos) Γ S K Z := fun σ H D E q z => ps_pass.wp (q.nx Γ S σ H h E Ext.refl)
theorem as_break (h : K.bk Γ S) : AS F.M X W (.Break pos) Γ S K Z := fun σ H D E q z => ps_break.wp (q.bk Γ S σ H h E Ext.refl)
theorem as_cont (h : K.ct Γ S) : AS F.M X W (.Continue pos) Γ S K Z := fun σ H D E q z => ps_continue.wp (q.ct Γ S σ H h E Ext.refl)
theorem as_expr (h : AX F.M X W e Γ S (fun _ S' => K.nx Γ S') Z) (hs : swapsWith e none pos.line X.env = pure false := by rfl) : AS F.M X W (.Expr e pos) Γ S K Z := fun σ H D E q z =>
  (ps_expr pe_wp hs).wp (h σ H _ E (fun v d H' S' r E' x' _ => q.nx Γ S' σ H' r (E.ext E' x') x') z)
theorem as_ret (h : AX F.M X W e Γ S K.rt Z) : AS F.M X W (.Return (some e) pos) Γ S K Z := fun σ H D E q z => (ps_ret pe_wp).wp (h σ H _ E q.rt z)
theorem as_retN (h : K.rt .non S) : AS F.M X W (.Return none pos) Γ S K Z := fun σ H D E q z => ps_retN.wp (q.rt.now E.hp h (by simp only [Rep]))
theorem as_if {t : Expr} {u v : List Stmt} (h : AT F.M X W t Γ S (fun b S' => if b = true then AB F.M X W u Γ S' K Z else AB F.M X W v Γ S' K Z) Z) : AS F.M X W (.If t u v pos) Γ S K Z := fun σ H D E q z =>
  (ps_if pt_wp pb_wp pb_wp).wp (h σ H _ E (fun b H' S' r E' x' => by
    cases b with
    | true => exact r σ H' D (E.ext E' x') (q.ext x') (z.ext x')
    | false => exact r σ H' D (E.ext E' x') (q.ext x') (z.ext x')) z)
/-- a name that may be stored -/
def locB (N : List Str) (sc : Scope) (i : Nat) (x : Str) : Bool := decide (N[i]? = some x) && (decide (sc.names.lookup x = some .local) || decide (sc.names.lookup x = some .cell))
theorem locB_loc {i : Nat} {x : Str} (h : locB N sc i x = true) : N[i]? = some x ∧ Loc sc x := by
  unfold locB at h
  simp only [Bool.and_eq_true, Bool.or_eq_true, decide_eq_true_eq] at h
  exact h
theorem as_set (c : XC F N sc k X W) (hf : ∀ x, X.fn x = true) {x : Str} (i : Nat) (hl : locB N sc i x = true) (h : AX F.M X W e Γ S (fun d S' => K.nx (Γ.set i (some d)) S') Z) (hs : swapsWith e (some (.Name x pos')) pos.line X.env = pure false := by rfl) :
    AS F.M X W (.Assign [.Name x pos'] e pos) Γ S K Z := fun σ H D E q z => by
  obtain ⟨h1, h2⟩ := locB_loc hl
  exact (ps_set (by rw [c.hN]; exact c.nd) (by rw [c.hN]; exact h1) (by rw [c.hs]; exact h2) pe_wp hs (.inl (hf x))).wp (h σ H _ E (fun v d H' S' r E' x' r' => q.nx _ S' _ H' r ((E.ext E' x').set i r') x') z)
theorem as_par (c : XC F N sc k X W) {x y : Str} {px py pt : Pos} {kt k2 : Nat} {pt2 : Pos} (i j : Nat) (hij : i ≠ j) (hi : decide (N[i]? = some x) = true) (hj : decide (N[j]? = some y) = true) (hx : decide (sc.names.lookup x = some .local) = true) (hy : decide (sc.names.lookup y = some .local) = true)
    (hw : swappedStores [.Tuple [.Name x px, .Name y py] kt pt] (.Tuple [a, b] k2 pt2) X.env = pure (some [x, y]))
    (h : AX F.M X W a Γ S (fun d1 S1 => AX F.M X W b Γ S1 (fun d2 S2 => K.nx ((Γ.set i (some d1)).set j (some d2)) S2) Z) Z)
    (hst : starEach (a :: [b]) X.env = (false, eval a X.env) :: starEach [b] X.env := by rfl) (hst2 : starEach (b :: []) X.env = (false, eval b X.env) :: starEach [] X.env := by rfl)
    (hs : swapsWithSole [.Tuple [.Name x px, .Name y py] kt pt] (.Tuple [a, b] k2 pt2) pos.line X.env = pure false := by rfl) : AS F.M X W (.Assign [.Tuple [.Name x px, .Name y py] kt pt] (.Tuple [a, b] k2 pt2) pos) Γ S K Z := fun σ H D E q z => by
  refine (ps_par c.calm (by rw [c.hN]; exact c.nd) (by rw [c.hN]; exact of_decide_eq_true hi) (by rw [c.hN]; exact of_decide_eq_true hj) hij (by rw [c.hs]; exact of_decide_eq_true hx) (by rw [c.hs]; exact of_decide_eq_true hy) (pa_cons pe_wp (pa_cons pe_wp pa_nil hst2) hst) hw hs).wp ?_
  exact h σ H _ E (fun v1 d1 H1 S1 h1 E1 x1 r1 => h1 σ H1 _ (E.ext E1 x1) (fun v2 d2 H2 S2 h2 E2 x2 r2 => ⟨v1, v2, rfl, q.nx _ S2 _ H2 h2 ((((E.ext E1 x1).ext E2 x2).set i (r1.ext x2)).set j r2) (x1.trans x2)⟩) (z.ext x1)) z
/-- x op= e, by values -/
def IPD (M : Mo) (X : Cx) (op : Operator) (d1 d2 : D) (S : Sto) (R : RK) : Prop := BD M X (inplaceOp op) d1 d2 S R
theorem as_aug (c : XC F N sc k X W) (hf : ∀ x, X.fn x = true) {x : Str} {op : Operator} {d : D} (i : Nat) (hl : locB N sc i x = true) (hi : Γ[i]? = some (some d)) (h : AX F.M X W e Γ S (fun d2 S' => IPD F.M X op d d2 S' (fun d' S2 => K.nx (Γ.set i (some d')) S2)) Z) :
    AS F.M X W (.AugAssign (.Name x pos') op e pos) Γ S K Z := fun σ H D E q z => by
  obtain ⟨h1, h2⟩ := locB_loc hl
  obtain ⟨v, ev, rv⟩ := E.at_ i d hi
  refine (ps_aug (ti := wpR X (inplaceOp op)) (by rw [c.hN]; exact c.nd) (by rw [c.hN]; exact h1) (by rw [c.hs]; exact h2) pe_wp or_wp (.inl (hf x))).wp ⟨v, ev, ?_⟩
  exact h σ H _ E (fun v2 d2 H1 S1 hd E1 x1 r1 => hd H1 v v2 _ E1 (rv.ext x1) r1 (fun v' d' H2 S2 hn E2 x2 r2 => q.nx _ S2 _ H2 hn ((((E.ext E1 x1).ext E2 x2)).set i r2) (x1.trans x2))) z
theorem as_setF (c : XC F N sc k X W) {f : Str} (h : AX F.M X W e Γ S (fun d S1 => AX F.M X W o Γ S1 (fun y S2 => ∃ p C ns fs, y = .ref p ∧ S2 p = some (.ins C ns fs) ∧ Cls F.M.K C ∧ NoAttr F.M.K C f ∧ ns.length < 1000 ∧ K.nx Γ (S2.put p (.ins C (putN f ns) (putD f d ns fs)))) Z) Z)
    (hs : swapsWith e (some (.Attribute o f pos')) pos.line X.env = pure false := by rfl) : AS F.M X W (.Assign [.Attribute o f pos'] e pos) Γ S K Z := fun σ H D E q z =>
  (ps_fld pe_wp pe_wp hs).wp (h σ H _ E (fun v1 d1 H1 S1 h1 E1 x1 r1 => h1 σ H1 _ (E.ext E1 x1) (fun v2 d2 H2 S2 ⟨p, C, ns, fs, e2, hp, hc, hn, hl, hk⟩ E2 x2 r2 => by
    subst e2
    simp only [Rep] at r2
    obtain ⟨u, hu, dx, vs, rfl, h0, lv⟩ := E2.cell p _ hp
    obtain ⟨ws, w1, w2, w3⟩ := putF_zip (f := f) h0 lv (r1.ext x2)
    refine ⟨p, C, dx, _, r2, hu, by rw [c.hK]; exact hc, by rw [c.hK]; exact hn, by rw [List.length_zip]; omega, ?_⟩
    have xs : Ext S2 H2 (S2.put p (.ins C (putN f ns) (putD f d1 ns fs))) (upd H2 p (.ins C dx (putF f v1 (ns.zip vs)))) := Ext.set hp
    have Es : EnvH F.M (S2.put p (.ins C (putN f ns) (putD f d1 ns fs))) (upd H2 p (.ins C dx (putF f v1 (ns.zip vs)))) := E2.set hp ⟨dx, ws, by rw [w1], w2, w3.ext xs⟩
    exact q.nx _ _ _ _ hk (((E.ext E1 x1).ext E2 x2).ext Es xs) ((x1.trans x2).trans xs)) (z.ext x1)) z)
theorem as_raise (c : XC F N sc k X W) {x m : Str} {C : Addr} {j : Nat} {p p2 : Pos} (G : EOk F x C) (hs : glB sc x = true) (h : Z C S) : AS F.M X W (.Raise (some (.Call (.Name x p) [.Constant (.str m) j p2] [] pos)) none pos') Γ S K Z := fun σ H D E q z => by
  obtain ⟨h1, h2, _⟩ := glB_gl hs
  exact (ps_raise c.calm c.tk (pmk_own PySem.F.excBase_ValueError (by rw [c.hK]; exact G.ex) (by rw [c.hm]; exact G.g) (by rw [c.hK]; exact G.kp) (raises_own (by rw [c.hK]; exact G.sb) (by rw [c.hK]; exact G.ty)) (c.gl h1) h2)).wp (z C H S σ h E.hp Ext.refl)
end

/-! ### a def, by its body -/
theorem fn_as {F : Fix} {x qual : Str} {st : Stmt} {f : Addr} {fd : FuncData} {N ps : List Str} {k : Nat} {A : ASp} (U : Fun F.M.K x qual st f fd) (S : FnScope N ps (defScope st)) (len : ∀ ds S R Z, A ds S R Z → ds.length = ps.length)
    (hb : ∀ (X : Cx) (W : WX), XC F N (defScope st) k X W → (∀ x, X.fn x = true) → (X.stack = X.env :: X.outer ∧ X.env.frame = some X.env.locals) → ∀ ds S0 R Z, A ds S0 R Z → AB F.M X W (defBody st) (ds.map some ++ List.replicate (N.length - ds.length) none) S0 { nx := fun _ S' => R .non S', rt := R } Z) :
    FnOk F.P F.w F.M.K F.mg F.base (L2.CX F.P F.w) (k + 1) f fd ps (spOf F.M A) := by
  refine U.okX S (fun vs H Q E ⟨ds, S0, R, Z, _, r, h, _⟩ => ?_) (fun cdv Ar outer s H vs Q E hr ⟨ds, S0, R, Z, EH, r, h, q, z⟩ => ?_)
  · rw [← r.length]
    exact len ds S0 R Z h
  · refine ⟨_, pb_wp, ?_⟩
    have hn := len ds S0 R Z h
    have hpl : ps.length ≤ N.length := by have := congrArg List.length S.pre; rw [List.length_take] at this; omega
    refine hb _ (fun cls d _ H => E cls d H) ⟨rfl, rfl, rfl, rfl, rfl, rfl, S.nd, rfl, rfl, hr, takes_of rfl rfl rfl rfl, passes_of rfl⟩ (fun _ => rfl) ⟨rfl, rfl⟩ ds S0 R Z h (L2.start N vs) H _ ⟨EH, ?_, fun i d hi => ?_⟩
      ⟨fun Γ' S' σ' H' hk E' x' => q _ _ H' S' hk E'.hp x' (by simp only [Rep]), q, fun _ _ _ _ hk => hk.elim, fun _ _ _ _ hk => hk.elim⟩ (fun C H' S' σ' hz E' x' => z C H' S' hz E' x')
    · unfold L2.start
      rw [List.length_append, List.length_append, List.length_map, List.length_map, List.length_replicate, List.length_replicate, r.length]
    · have hi' : i < ds.length := by
        refine Nat.lt_of_not_le fun hle => ?_
        rw [List.getElem?_append_right (by rw [List.length_map]; exact hle), List.getElem?_replicate] at hi
        split at hi <;> cases hi
      rw [List.getElem?_append_left (by rw [List.length_map]; exact hi'), List.getElem?_map] at hi
      have hd : ds[i]? = some d := by
        cases e : ds[i]? with
        | none => rw [e] at hi; cases hi
        | some y => rw [e] at hi; cases hi; rfl
      obtain ⟨v, hv, rv⟩ := r.get hd
      refine ⟨v, ?_, rv⟩
      unfold L2.start
      have hvl : i < vs.length := by rw [← r.length]; exact hi'
      rw [List.getElem?_append_left (by rw [List.length_map]; exact hvl), List.getElem?_map, hv]
      rfl
end QD
set_option maxHeartbeats 4000000
/-! The walk over data: what is walked, targets, for, stores into lists and dicts, methods of lists. -/
namespace QD
open PySem PySem.Spec PyProof.Rows L2

/-! ### enumerate of a text -/
def IteS (x : Str) : It :=
  ⟨fun i _ => i < x.cps.size, fun i H v H' => ∃ T c, v = .ref T ∧ H T = none ∧ H' = upd H T (.tup [.int (i : Nat), .str ⟨#[c]⟩]) ∧ x.cps[i]? = some c, fun i _ => i = x.cps.size⟩
theorem turn_enumS {P : Program} {w : World} {K : PySem.W.Frag} {elts : List Expr} {kk : Nat} {tpos : Pos} (x : Str) (t : Tok) (e it : Addr) :
    Turn P w K (.Tuple elts kk tpos) (IteS x) [e, it] e (fun i h => (∃ old, IsEnum h e it ((i : Nat) : Int) old) ∧ h.IsStrIter it (strIterType x) x t i ∧ e ≠ it) where
  mem := by simp
  obj := fun i h st b hb => by
    obtain ⟨⟨old, he⟩, ⟨o, ho, hc, hd⟩, _⟩ := st
    have e' : b = e ∨ b = it := by simpa using hb
    rcases e' with z | z
    · rw [z]; exact ⟨_, he, fun v q => nomatch q⟩
    · rw [z]; exact ⟨o, ho, fun v q => by rw [hd] at q; cases q⟩
  keep := fun i h h' st k => let ⟨⟨old, he⟩, ⟨o, ho, r⟩, hne⟩ := st; ⟨⟨old, k e (by simp) _ he⟩, ⟨o, k it (by simp) o ho, r⟩, hne⟩
  item := by
    intro X hP hw hK hc i pins s σ H E I hf st hg
    subst hP hw hK
    obtain ⟨⟨old, he⟩, hit, hne⟩ := st
    have hel : e < s.heap.objs.size := Heap.lt_size he
    have hil : it < s.heap.objs.size := by obtain ⟨o, q, _⟩ := hit; exact Heap.lt_size q
    have hh : X.A.in1.handled = none := I.ok.hd hc
    refine wpAny_pyNext_enum_itemD (Draws.text (prog := X.prog) (w := X.w) hh it x t) he hit hg hne (by simp [hne]) fun u h' tk hu ho hit' hT hsz hk => ?_
    obtain ⟨c, tc, hcx, rfl⟩ := hu
    refine ⟨_, rfl, wpAny_letOwnedTupleGo_enum (s := { s with heap := h', toks := tk + 1 }) ho fun h'' he' sb => ?_⟩
    have hT2 : h''.get? s.heap.objs.size = some { cls := .type "tuple", data := .seq #[.int i tk, .str ⟨#[c]⟩ tc] } := (sb.2 _ (Nat.ne_of_gt hel)).trans hT
    have new : ObjOk X.prog X.w (upd H s.heap.objs.size (.tup [.int (i : Nat), .str ⟨#[c]⟩])) h'' s.heap.objs.size (.tup [.int (i : Nat), .str ⟨#[c]⟩]) :=
      ⟨by show 2 ≤ sizeLine; decide, [.int i tk, .str ⟨#[c]⟩ tc], .cons ⟨_, rfl⟩ (.cons ⟨_, rfl⟩ .nil), ⟨_, hT2, rfl, _, rfl⟩⟩
    have I1 : Inv X pins σ (upd H s.heap.objs.size (.tup [.int (i : Nat), .str ⟨#[c]⟩])) { s with heap := h'', toks := tk + 1 } :=
      I.turnedNew (ch := [e, it]) (fun b ob hb q => (sb.2 b (fun z => hb (by simp [z]))).trans (hk b ob (fun z => hb (by simp [z])) (fun z => hb (by simp [z])) q)) hf (Nat.le_refl _) new
    refine ⟨.ref s.heap.objs.size, _, I1, rfl, ⟨_, c, rfl, I.hok.fresh (Nat.le_refl _), rfl, hcx⟩, ⟨⟨.str ⟨#[c]⟩ tc, ?_⟩, ?_, hne⟩, fun b hb => ?_⟩
    · have e1 : ((i + 1 : Nat) : Int) = (i : Int) + 1 := by omega
      rw [e1]; exact he'
    · obtain ⟨o, q, r⟩ := hit'
      exact ⟨o, (sb.2 it (Ne.symm hne)).trans q, r⟩
    · have hb' : b < s.heap.objs.size := by
        have e' : b = e ∨ b = it := by simpa using hb
        rcases e' with z | z
        · rw [z]; exact hel
        · rw [z]; exact hil
      rw [upd_ne (Nat.ne_of_lt hb')]
      exact (hf b hb).1
  done := by
    intro X hP hw hK hc i pins s σ H E I hf st hg
    subst hP hw hK
    obtain ⟨⟨old, he⟩, hit, hne⟩ := st
    obtain ⟨f0, f1, f2, f3, f4, f5⟩ := hf it (by simp)
    have hh : X.A.in1.handled = none := I.ok.hd hc
    have hg' : i = x.cps.size := hg
    subst hg'
    exact wpAny_pyNext_enum_endD (Draws.text (prog := X.prog) (w := X.w) hh it x t) he hit fun h' eb => ⟨rfl, I.turned (t' := s.toks) (fun b o hb q => eb b o hb q) f0 f1 f3 f4 f5⟩
  self := fun A i s Q E st h => let ⟨⟨_, he⟩, _⟩ := st; wpAny_pyIter_enum he h
def iEnumS (ta : TA) : TI := fun σ H R => ta σ H fun vs H1 => ∃ x, vs = [.str x] ∧ R (IteS x) H1
theorem pi_enumS {X : Cx} {e : Expr} {ta : TA} {p pos tpos : Pos} {elts : List Expr} {kk : Nat} (hg : Gl X "enumerate") (hm : X.mg "enumerate" = none) (ha : PA X [e] ta) (hs : starEach [e] X.env = [(false, eval e X.env)] := by rfl) :
    PI X (.Tuple elts kk tpos) (.Call (.Name "enumerate" p) [e] [] pos) (iEnumS ta) := by
  refine ⟨fun pins s σ H R I h => ?_⟩
  refine Call_ (ld_blt I hg hm boot_enumerate (PyProof.Rows.callWith_type1 (thn (ha.run pos pins s σ H _ I h) fun us s1 ⟨vs, H1, I1, r1, q1⟩ => ?_) hs rfl))
  obtain ⟨x, ex, q⟩ := q1
  subst ex
  cases r1 with
  | cons r rr =>
    cases rr
    obtain ⟨t, rfl⟩ := r
    refine call_enumerate_str fun h' he hit hsz hk => wpAny_pyIter_enum he ?_
    have I2 : Inv X pins σ H1 { s1 with heap := h' } := I1.kept (t' := s1.toks) hk
    refine ⟨s1.heap.objs.size + 1, [s1.heap.objs.size + 1, s1.heap.objs.size], _, _, H1, rfl, I2, turn_enumS x t (s1.heap.objs.size + 1) s1.heap.objs.size, ⟨⟨.none, he⟩, hit, Nat.succ_ne_self _⟩, fun b hb => ?_, q⟩
    have e' : b = s1.heap.objs.size + 1 ∨ b = s1.heap.objs.size := by simpa using hb
    have hle : s1.heap.objs.size ≤ b := by
      rcases e' with z | z
      · rw [z]; exact Nat.le_add_right _ _
      · rw [z]; exact Nat.le_refl _
    exact I1.fpOk hle (I1.hok.fresh hle)

/-! ### what is walked -/
/-- an iterator of the data ds, as long as al holds of the store -/
structure ItOk (M : Mo) (J : It) (al : Sto → Prop) (S0 : Sto) (H0 : Hp) (ds : List D) : Prop where
  go : ∀ S H i, EnvH M S H → Ext S0 H0 S H → al S → i < ds.length → J.go i H
  yld : ∀ S H i x H', EnvH M S H → Ext S0 H0 S H → al S → i < ds.length → J.yld i H x H' → ∃ d, ds[i]? = some d ∧ EnvH M S H' ∧ Ext S H S H' ∧ Rep M.K S H' d x
  stop : ∀ S H, EnvH M S H → Ext S0 H0 S H → al S → J.stop ds.length H
def wpI (X : Cx) (tg it : Expr) : TI := fun σ H R => Bx (∀ pins s, Inv X pins σ H s → wpAny (model X.prog X.w) X.A (eval it X.env) (fun v s1 => wpAny (model X.prog X.w) X.A (pyIter v) (PIE X pins σ tg R) X.xe s1) X.xe s)
theorem pi_wp {X : Cx} {tg it : Expr} : PI X tg it (wpI X tg it) := ⟨fun pins s σ H R I h => h.run pins s I⟩
theorem _root_.L2.PI.wp {X : Cx} {tg it : Expr} {wi : TI} {σ : L2.St} {H : Hp} {R : It → Hp → Prop} (h : PI X tg it wi) (ht : wi σ H R) : wpI X tg it σ H R := ⟨fun pins s I => h.run pins s σ H R I ht⟩
def IQ (M : Mo) (S : Sto) (H : Hp) (R : List D → (Sto → Prop) → Sto → Prop) (Q : It → Hp → Prop) : Prop := ∀ J H' S' ds al, R ds al S' → EnvH M S' H' → Ext S H S' H' → ItOk M J al S' H' ds → Q J H'
def AI (M : Mo) (X : Cx) (W : WX) (tg it : Expr) (Γ : Ga) (S : Sto) (R : List D → (Sto → Prop) → Sto → Prop) (Z : ZK) : Prop := ∀ σ H Q, Env M σ H Γ S → IQ M S H R Q → ZQ M S H Z W → wpI X tg it σ H Q
def wpG (X : Cx) (tg : Expr) : TG := fun v σ H Q => Bx (∀ pins s u, Inv X pins σ H s → RelV v u → wpAny (model X.prog X.w) X.A (assign tg X.env u) (fun _ s' => ∃ σ' H', Inv X pins σ' H' s' ∧ Q σ' H') X.xe s)
theorem pg_wp {X : Cx} {tg : Expr} : PG X tg (wpG X tg) := ⟨fun pins s σ H v u Q I r h => h.run pins s u I r⟩
theorem _root_.L2.PG.wp {X : Cx} {tg : Expr} {g : TG} {v : V} {σ : L2.St} {H : Hp} {Q : L2.St → Hp → Prop} (h : PG X tg g) (ht : g v σ H Q) : wpG X tg v σ H Q := ⟨fun pins s u I r => h.run pins s σ H v u Q I r ht⟩
/-- a target takes d -/
def AG (M : Mo) (X : Cx) (tg : Expr) (d : D) (Γ : Ga) (S : Sto) (n : Ga → Sto → Prop) : Prop := ∀ σ H v Q, Env M σ H Γ S → Rep M.K S H d v → GQ M S H n Q → wpG X tg v σ H Q
def wpGs (X : Cx) (ts : List Expr) : TGs := fun vs σ H Q => Bx (∀ pins s us, Inv X pins σ H s → Vals vs us → wpAny (model X.prog X.w) X.A (assignInOrder ((assignEach ts X.env).map (·.2)) us) (fun _ s' => ∃ σ' H', Inv X pins σ' H' s' ∧ Q σ' H') X.xe s)
theorem pgs_wp {X : Cx} {ts : List Expr} : PGs X ts (wpGs X ts) := ⟨fun pins s σ H vs us Q I r h => h.run pins s us I r⟩
theorem _root_.L2.PGs.wp {X : Cx} {ts : List Expr} {g : TGs} {vs : List V} {σ : L2.St} {H : Hp} {Q : L2.St → Hp → Prop} (h : PGs X ts g) (ht : g vs σ H Q) : wpGs X ts vs σ H Q := ⟨fun pins s us I r => h.run pins s σ H vs us Q I r ht⟩
def AGs (M : Mo) (X : Cx) (ts : List Expr) (ds : List D) (Γ : Ga) (S : Sto) (n : Ga → Sto → Prop) : Prop := ∀ σ H vs Q, Env M σ H Γ S → RepL M.K S H ds vs → GQ M S H n Q → wpGs X ts vs σ H Q
section
variable {F : Fix} {N : List Str} {sc : Scope} {k : Nat} {X : Cx} {W : WX} {Γ : Ga} {S : Sto} {K : AK} {Z : ZK} {a b e o it tg : Expr} {pos pos' p : Pos}
theorem ag_name (c : XC F N sc k X W) {x : Str} {d : D} {n : Ga → Sto → Prop} (i : Nat) (hl : locB N sc i x = true) (hf : X.fn x = true ∨ X.env.scope.names.lookup x = some .local) (h : n (Γ.set i (some d)) S) : AG F.M X (.Name x pos) d Γ S n := fun σ H v Q E r q => by
  obtain ⟨h1, h2⟩ := locB_loc hl
  exact (pg_name (by rw [c.hN]; exact c.nd) (by rw [c.hN]; exact h1) (by rw [c.hs]; exact h2) hf).wp (q _ S _ H h (E.set i r) Ext.refl)
theorem ags_nil {n : Ga → Sto → Prop} (h : n Γ S) : AGs F.M X [] [] Γ S n := fun σ H vs Q E r q => by
  simp only [RepL] at r
  exact pgs_nil.wp ⟨r, q Γ S σ H h E Ext.refl⟩
theorem ags_cons {es : List Expr} {d : D} {ds : List D} {n : Ga → Sto → Prop} (h : AG F.M X e d Γ S (fun Γ1 S1 => AGs F.M X es ds Γ1 S1 n)) (hc : (assignEach (e :: es) X.env).map (·.2) = assign e X.env :: (assignEach es X.env).map (·.2) := by rfl) :
    AGs F.M X (e :: es) (d :: ds) Γ S n := fun σ H vs Q E r q => by
  simp only [RepL] at r
  obtain ⟨v, ws, rfl, r1, r2⟩ := r
  refine (pgs_cons pg_wp pgs_wp hc).wp ⟨v, ws, rfl, ?_⟩
  exact h σ H v _ E r1 fun Γ1 S1 σ1 H1 h1 E1 x1 => h1 σ1 H1 ws Q E1 (r2.ext x1) (q.ext x1)
theorem ag_tup (c : XC F N sc k X W) {es : List Expr} {j : Nat} {d : D} {ds : List D} {n : Ga → Sto → Prop} (hd : S.view d = .tup ds) (hl : ds.length = es.length) (h : AGs F.M X es ds Γ S n)
    (hn : (assignEach es X.env).length = es.length := by rfl) (hst : (assignEach es X.env).findIdx? (·.1) = none := by rfl) : AG F.M X (.Tuple es j pos) d Γ S n := fun σ H v Q E r q => by
  obtain ⟨a, vs, e1, h1, l1⟩ := rep_tup E.hp r hd
  exact (pg_tup c.calm pgs_wp hn hst).wp ⟨a, vs, e1, by rw [c.hK]; exact h1, by rw [← l1.length]; exact hl, h σ H vs Q E l1 q⟩
/-- a, b, c = [x, y, z] -/
theorem ag_lst (c : XC F N sc k X W) {es : List Expr} {j : Nat} {d : D} {ds : List D} {n : Ga → Sto → Prop} (hd : S.view d = .lst ds) (hl : ds.length = es.length) (h : AGs F.M X es ds Γ S n)
    (hn : (assignEach es X.env).length = es.length := by rfl) (hst : (assignEach es X.env).findIdx? (·.1) = none := by rfl) : AG F.M X (.Tuple es j pos) d Γ S n := fun σ H v Q E r q => by
  obtain ⟨a, vs, e1, h1, l1⟩ := rep_lst E.hp r hd
  exact (pg_lst c.calm pgs_wp hn hst).wp ⟨a, vs, e1, SqL.of h1, by rw [← l1.length]; exact hl, h σ H vs Q E l1 q⟩

/-- a list or a tuple that stands still -/
theorem itok_lst {M : Mo} {S : Sto} {H : Hp} {a : Addr} {ds : List D} {vs : List V} {Kf : PySem.W.Frag} (h1 : S a = none) (h2 : H a = some (.lst vs)) (r : RepL M.K S H ds vs) : ItOk M (Itl Kf a) (fun _ => True) S H ds where
  go := fun S' H' i E x _ hi => by
    have h := (x a _ h1 h2 rfl).2
    rcases h with h | ⟨z, _⟩
    · exact ⟨vs, vs[i]'(by rw [← r.length]; exact hi), SqL.of h, List.getElem?_eq_getElem _⟩
    · cases z
  yld := fun S' H' i v H'' E x _ hi ⟨e, hy⟩ => by
    subst e
    have h := (x a _ h1 h2 rfl).2
    rcases h with h | ⟨z, _⟩
    · obtain ⟨d, hd, rd⟩ := (r.ext x).get' (hy vs (SqL.of h))
      exact ⟨d, hd, E, Ext.refl, rd⟩
    · cases z
  stop := fun S' H' E x _ => by
    have h := (x a _ h1 h2 rfl).2
    rcases h with h | ⟨z, _⟩
    · exact ⟨vs, SqL.of h, by rw [r.length]; exact Nat.le_refl _⟩
    · cases z
theorem itok_mut {M : Mo} {S : Sto} {H : Hp} {a : Addr} {ds : List D} {Kf : PySem.W.Frag} : ItOk M (Itl Kf a) (fun S' => S' a = some (.lst ds)) S H ds where
  go := fun S' H' i E x h hi => by
    obtain ⟨u, hu, vs, rfl, r⟩ := E.cell a _ h
    exact ⟨vs, vs[i]'(by rw [← r.length]; exact hi), SqL.of hu, List.getElem?_eq_getElem _⟩
  yld := fun S' H' i v H'' E x h hi ⟨e, hy⟩ => by
    subst e
    obtain ⟨u, hu, vs, rfl, r⟩ := E.cell a _ h
    obtain ⟨d, hd, rd⟩ := r.get' (hy vs (SqL.of hu))
    exact ⟨d, hd, E, Ext.refl, rd⟩
  stop := fun S' H' E x h => by
    obtain ⟨u, hu, vs, rfl, r⟩ := E.cell a _ h
    exact ⟨vs, SqL.of hu, by rw [r.length]; exact Nat.le_refl _⟩
theorem ext_sqt {Kf : PySem.W.Frag} {S S' : Sto} {H H' : Hp} {a : Addr} {vs : List V} (h : Im S H a (.tup vs) ∨ StT Kf a vs) (x : Ext S H S' H') : SqT Kf H' a vs := (h.imp (fun z => (z.ext x rfl).2) id)
theorem itok_tup {M : Mo} {S : Sto} {H : Hp} {a : Addr} {ds : List D} {vs : List V} {Kf : PySem.W.Frag} (h : Im S H a (.tup vs) ∨ StT Kf a vs) (hj : ∀ {S' H' ys}, EnvH M S' H' → Ext S H S' H' → SqT Kf H' a ys → ys = vs) (r : RepL M.K S H ds vs) : ItOk M (Itt Kf a) (fun _ => True) S H ds where
  go := fun S' H' i E x _ hi => ⟨vs, vs[i]'(by rw [← r.length]; exact hi), ext_sqt h x, List.getElem?_eq_getElem _⟩
  yld := fun S' H' i v H'' E x _ hi ⟨e, hy⟩ => by
    subst e
    obtain ⟨d, hd, rd⟩ := (r.ext x).get' (hy vs (ext_sqt h x))
    exact ⟨d, hd, E, Ext.refl, rd⟩
  stop := fun S' H' E x _ => ⟨vs, ext_sqt h x, by rw [r.length]; exact Nat.le_refl _⟩
/-- an expression whose value is walked -/
theorem ai_of (c : XC F N sc k X W) {R : List D → (Sto → Prop) → Sto → Prop} (h : AX F.M X W it Γ S (fun d S1 => (∃ ds, (d = .lst ds ∨ d = .tup ds ∨ d = .tupf ds) ∧ R ds (fun _ => True) S1) ∨ (∃ p ds, d = .ref p ∧ S1 p = some (.lst ds) ∧ R ds (fun S' => S' p = some (.lst ds)) S1) ∨ ∃ x : Str, d = .str x ∧ R (x.cps.toList.map fun c => D.str ⟨#[c]⟩) (fun _ => True) S1) Z) :
    AI F.M X W tg it Γ S R Z := fun σ H Q E q z => by
  have key : wpE X it σ H (fun v H1 => (∃ a, v = .ref a ∧ (∃ xs, SqL X.K H1 a xs) ∧ Q (Itl X.K a) H1) ∨ (∃ a, v = .ref a ∧ (∃ xs, SqT X.K H1 a xs) ∧ Q (Itt X.K a) H1) ∨ ∃ x, v = .str x ∧ Q (Its x) H1) := by
    refine h σ H _ E (fun v d H1 S1 hd E1 x1 r1 => ?_) z
    rcases hd with ⟨ds, hd, hr⟩ | ⟨p, ds, rfl, hp, hr⟩ | ⟨x, rfl, hr⟩
    · have key : d = .tup ds ∨ d = .tupf ds → Rep F.M.K S1 H1 (.tup ds) v := fun h => by
        rcases h with rfl | rfl
        · exact r1
        · exact rep_tupf r1
      rcases hd with rfl | hd
      · simp only [Rep] at r1
        obtain ⟨a, vs, e, h1, h2, l⟩ := r1
        exact .inl ⟨a, e, ⟨vs, SqL.of h2⟩, q _ H1 S1 ds _ hr E1 x1 (itok_lst h1 h2 l)⟩
      · have r1 := key hd
        simp only [Rep] at r1
        obtain ⟨a, vs, e, h1, l⟩ := r1
        rw [← c.hK] at h1
        refine .inr (.inl ⟨a, e, ⟨vs, ext_sqt h1 Ext.refl⟩, q _ H1 S1 ds _ hr E1 x1 ⟨fun S' H' i E' x' _ hi => ⟨vs, vs[i]'(by rw [← l.length]; exact hi), ext_sqt h1 x', List.getElem?_eq_getElem _⟩, fun S' H' i v H'' E' x' _ hi ⟨e, hy⟩ => ?_, fun S' H' E' x' _ => ⟨vs, ext_sqt h1 x', by rw [l.length]; exact Nat.le_refl _⟩⟩⟩)
        subst e
        obtain ⟨d, hd, rd⟩ := (l.ext x').get' (hy vs (ext_sqt h1 x'))
        exact ⟨d, hd, E', Ext.refl, rd⟩
    · simp only [Rep] at r1
      obtain ⟨u, hu, vs, rfl, l⟩ := E1.cell p _ hp
      exact .inl ⟨p, r1, ⟨vs, SqL.of hu⟩, q _ H1 S1 ds _ hr E1 x1 itok_mut⟩
    · simp only [Rep] at r1
      refine .inr (.inr ⟨x, r1, q _ H1 S1 _ _ hr E1 x1 ⟨fun S' H' i E' x' _ hi => (by show i < x.cps.size; simpa using hi), fun S' H' i v H'' E' x' _ hi ⟨e, cc, hc, ev⟩ => ?_, fun S' H' E' x' _ => (by show x.cps.size ≤ _; simp)⟩⟩)
      subst e ev
      exact ⟨.str ⟨#[cc]⟩, by simp [hc], E', Ext.refl, by simp only [Rep]⟩
  refine ⟨fun pins s I => ?_⟩
  refine thn (key.run pins s I) fun v s1 ⟨y, H1, I1, r1, hy⟩ => ?_
  rcases hy with ⟨a, ey, ⟨xs, hq⟩, hQ⟩ | ⟨a, ey, ⟨xs, hq⟩, hQ⟩ | ⟨x, ey, hQ⟩
  · subst ey
    cases r1
    obtain ⟨its, rv, p, hz⟩ := I1.list hq
    refine wpAny_pyIter_list p.isList ?_
    refine ⟨s1.heap.objs.size, [s1.heap.objs.size], _, _, H1, rfl, I1.kept (t' := s1.toks) fun b o e => Heap.get?_push_of_some _ e, turn_list a _, ⟨_, Heap.get?_push_size _ rfl, rfl, rfl⟩, fun b hb => ?_, hQ⟩
    have e : b = s1.heap.objs.size := by simpa using hb
    subst e
    exact I1.fpOk (Nat.le_refl _) (I1.hok.fresh (Nat.le_refl _))
  · subst ey
    cases r1
    obtain ⟨its, rv, p, hz⟩ := I1.tuple hq
    refine wpAny_pyIter_tuple (show s1.heap.IsTuple a its.toArray from p) ?_
    refine ⟨s1.heap.objs.size, [s1.heap.objs.size], _, _, H1, rfl, I1.kept (t' := s1.toks) fun b o e => Heap.get?_push_of_some _ e, turn_tuple a _, ⟨_, Heap.get?_push_size _ rfl, rfl, rfl⟩, fun b hb => ?_, hQ⟩
    have e : b = s1.heap.objs.size := by simpa using hb
    subst e
    exact I1.fpOk (Nat.le_refl _) (I1.hok.fresh (Nat.le_refl _))
  · subst ey
    obtain ⟨t, rfl⟩ := r1
    cases ha : x.cps.all (· < 128)
    · exact wpAny_pyIter_wide ha (pi_one (tk := s1.toks) I1 _ (turn_str _ x t "str_iterator" (.inr rfl)) ⟨_, Heap.get?_push_size _ rfl, rfl, rfl⟩ hQ)
    · exact wpAny_pyIter_ascii ha (pi_one (tk := s1.toks) I1 _ (turn_str _ x t "str_ascii_iterator" (.inl rfl)) ⟨_, Heap.get?_push_size _ rfl, rfl, rfl⟩ hQ)
def intsUp (lo : Int) (n : Nat) : List D := (List.range n).map fun (i : Nat) => D.int (lo + (i : Int))
theorem ai_range1 (c : XC F N sc k X W) {R : List D → (Sto → Prop) → Sto → Prop} (hs : glB sc "range" = true) (hm : F.mg "range" = none) (h : AX F.M X W a Γ S (fun d S1 => ∃ j : Int, d = .int j ∧ -(2 ^ 62) ≤ j ∧ j < 2 ^ 62 ∧ R (intsUp 0 j.toNat) (fun _ => True) S1) Z)
    (hst : starEach [a] X.env = [(false, eval a X.env)] := by rfl) (hst1 : starEach (a :: []) X.env = (false, eval a X.env) :: starEach [] X.env := by rfl) : AI F.M X W tg (.Call (.Name "range" p) [a] [] pos) Γ S R Z := fun σ H Q E q z =>
  (pi_range1 (c.gl (glB_gl hs).1) (by rw [c.hm]; exact hm) (pa_cons pe_wp pa_nil hst1) hst).wp (h σ H _ E (fun v d H1 S1 ⟨j, ed, h1, h2, hr⟩ E1 x1 r1 => ⟨j, by subst ed; simp only [Rep] at r1; rw [r1], h1, h2,
    q _ H1 S1 _ _ hr E1 x1 ⟨fun S' H' i E' x' _ hi => (by show i < j.toNat; simpa only [intsUp, List.length_map, List.length_range] using hi), fun S' H' i v H'' E' x' _ hi ⟨e, ev⟩ => ⟨.int (0 + i), by
      have hi' : i < j.toNat := by simpa [intsUp] using hi
      simp [intsUp, hi'], by subst e; exact E', by subst e; exact Ext.refl, by simp only [Rep]; exact ev⟩, fun S' H' E' x' _ => (by show j.toNat ≤ _; simp [intsUp])⟩⟩) z)
theorem ai_range3 (c : XC F N sc k X W) {f : Expr} {R : List D → (Sto → Prop) → Sto → Prop} (hs : glB sc "range" = true) (hm : F.mg "range" = none) (h : AA F.M X W [a, b, f] Γ S (fun ds S1 => ∃ (i j g : Int) (n : Nat), ds = [.int i, .int j, .int g] ∧ RgC i j g n ∧ R ((List.range n).map fun (m : Nat) => D.int (i + (m : Int) * g)) (fun _ => True) S1) Z)
    (hp : ∀ (ta : TA), PA X [a, b, f] ta → PI X tg (.Call (.Name "range" p) [a, b, f] [] pos) (iRng3 ta)) : AI F.M X W tg (.Call (.Name "range" p) [a, b, f] [] pos) Γ S R Z := fun σ H Q E q z =>
  (hp _ pa_wp).wp (h σ H _ E (fun vs ds H1 S1 ⟨i, j, g, n, ed, h1, hr⟩ E1 x1 r1 => ⟨i, j, g, n, by
    subst ed
    simp only [RepL, Rep] at r1
    obtain ⟨_, _, rfl, rfl, _, _, rfl, rfl, _, _, rfl, rfl, rfl⟩ := r1
    rfl, h1, q _ H1 S1 _ _ hr E1 x1 ⟨fun S' H' m E' x' _ hi => (by show m < n; simpa using hi), fun S' H' m v H'' E' x' _ hi ⟨e, ev⟩ => ⟨.int (i + (m : Nat) * g), by
      have hi' : m < n := by simpa using hi
      simp [hi'], by subst e; exact E', by subst e; exact Ext.refl, by simp only [Rep]; exact ev⟩, fun S' H' E' x' _ => (by show n ≤ _; simp)⟩⟩) z)
/-- enumerate(x) of a text, a list -/
theorem ai_enumS (c : XC F N sc k X W) {elts : List Expr} {kk : Nat} {tpos : Pos} {R : List D → (Sto → Prop) → Sto → Prop} (hs : glB sc "enumerate" = true) (hm : F.mg "enumerate" = none)
    (h : AX F.M X W a Γ S (fun d S1 => ∃ x : Str, d = .str x ∧ R (x.cps.toList.zipIdx.map fun p => D.tup [.int (p.2 : Nat), .str ⟨#[p.1]⟩]) (fun _ => True) S1) Z)
    (hst : starEach [a] X.env = [(false, eval a X.env)] := by rfl) (hst1 : starEach (a :: []) X.env = (false, eval a X.env) :: starEach [] X.env := by rfl) : AI F.M X W (.Tuple elts kk tpos) (.Call (.Name "enumerate" p) [a] [] pos) Γ S R Z := fun σ H Q E q z =>
  (pi_enumS (c.gl (glB_gl hs).1) (by rw [c.hm]; exact hm) (pa_cons pe_wp pa_nil hst1) hst).wp (h σ H _ E (fun v d H1 S1 ⟨x, ed, hr⟩ E1 x1 r1 => ⟨x, by subst ed; simp only [Rep] at r1; rw [r1],
    q _ H1 S1 _ _ hr E1 x1 ⟨fun S' H' i E' x' _ hi => (by show i < x.cps.size; simpa using hi), fun S' H' i v H'' E' x' _ hi ⟨T, cc, ev, hT, eH, hc⟩ => ⟨.tup [.int (i : Nat), .str ⟨#[cc]⟩], by
      have hi' : i < x.cps.size := by simpa using hi
      rw [Array.getElem?_eq_getElem hi'] at hc
      simp [hi', Option.some.inj hc], by subst eH; exact E'.new hT, by subst eH; exact Ext.new hT, by
        subst eH ev
        simp only [Rep]
        exact ⟨T, _, rfl, .inl ⟨E'.none hT, .inl upd_same⟩, repL_cons (by simp only [Rep]) (repL_cons (by simp only [Rep]) repL_nil)⟩⟩, fun S' H' E' x' _ => (by show _ = x.cps.size; simp)⟩⟩) z)
theorem ai_enumL (c : XC F N sc k X W) {elts : List Expr} {kk : Nat} {tpos : Pos} {R : List D → (Sto → Prop) → Sto → Prop} (hs : glB sc "enumerate" = true) (hm : F.mg "enumerate" = none)
    (h : AX F.M X W a Γ S (fun d S1 => ∃ ds, d = .lst ds ∧ R (ds.zipIdx.map fun p => D.tup [.int (p.2 : Nat), p.1]) (fun _ => True) S1) Z)
    (hst : starEach [a] X.env = [(false, eval a X.env)] := by rfl) (hst1 : starEach (a :: []) X.env = (false, eval a X.env) :: starEach [] X.env := by rfl) : AI F.M X W (.Tuple elts kk tpos) (.Call (.Name "enumerate" p) [a] [] pos) Γ S R Z := fun σ H Q E q z =>
  (pi_enum (c.gl (glB_gl hs).1) (by rw [c.hm]; exact hm) (pa_cons pe_wp pa_nil hst1) hst).wp (h σ H _ E (fun v d H1 S1 ⟨ds, ed, hr⟩ E1 x1 r1 => by
    subst ed
    simp only [Rep] at r1
    obtain ⟨l, vs, ev, h1, h2, r⟩ := r1
    have at_ : ∀ {S' H'}, Ext S1 H1 S' H' → H' l = some (.lst vs) := fun x' => (x' l _ h1 h2 rfl).2.elim id (fun z => by obtain ⟨z, _⟩ := z; cases z)
    refine ⟨l, vs, by rw [ev], SqL.of h2, q _ H1 S1 _ _ hr E1 x1 ⟨fun S' H' i E' x' _ hi => ⟨vs, vs[i]'(by rw [← r.length]; simpa using hi), SqL.of (at_ x'), List.getElem?_eq_getElem _⟩, fun S' H' i v H'' E' x' _ hi ⟨T, y, ey, hT, eH, hy⟩ => ?_, fun S' H' E' x' _ => ⟨vs, SqL.of (at_ x'), by rw [← r.length]; simp⟩⟩⟩
    subst eH ey
    obtain ⟨d, hd, rd⟩ := (r.ext x').get' (hy vs (SqL.of (at_ x')))
    refine ⟨.tup [.int (i : Nat), d], ?_, E'.new hT, Ext.new hT, ?_⟩
    · have hi' : i < ds.length := (List.getElem?_eq_some_iff.mp hd).1
      rw [List.getElem?_eq_getElem hi'] at hd
      simp [hi', Option.some.inj hd]
    · simp only [Rep]
      exact ⟨T, _, rfl, .inl ⟨E'.none hT, .inl upd_same⟩, repL_cons (by simp only [Rep]) (repL_cons (rd.ext (Ext.new hT)) repL_nil)⟩) z)
/-! ### for -/
theorem as_for (c : XC F N sc k X W) {body : List Stmt} (h : AI F.M X W tg it Γ S (fun ds al S1 => ∃ P : Nat → Ga → Sto → Prop, P 0 Γ S1 ∧
      (∀ i d Γ' S', ds[i]? = some d → P i Γ' S' → al S' ∧ AG F.M X tg d Γ' S' (fun Γ2 S2 => AB F.M X W body Γ2 S2 { nx := P (i + 1), ct := P (i + 1), bk := K.nx, rt := K.rt } Z)) ∧ ∀ Γ' S', P ds.length Γ' S' → al S' ∧ K.nx Γ' S') Z)
    (hs : ∀ x, foldedSetIterable it X.env x = pure x := by intro _; rfl) : AS F.M X W (.For tg it body [] pos) Γ S K Z := fun σ H D E q z => by
  refine (ps_for c.own c.calm pi_wp pg_wp pb_wp hs).wp ?_
  refine h σ H _ E (fun J H1 S1 ds al ⟨P, p0, step, fin⟩ E1 x1 ok => ?_) z
  refine ⟨fun i m σ' H' => m = ds.length - i ∧ i ≤ ds.length ∧ ∃ Γ' S', P i Γ' S' ∧ Env F.M σ' H' Γ' S' ∧ Ext S1 H1 S' H', ⟨ds.length, by simp, Nat.zero_le _, Γ, S1, p0, E.ext E1 x1, Ext.refl⟩, ?_⟩
  rintro i m σ' H' ⟨rfl, hi, Γ', S', p, E', x'⟩
  by_cases hlt : i < ds.length
  · obtain ⟨hal, hb⟩ := step i ds[i] Γ' S' (List.getElem?_eq_getElem hlt) p
    refine .inr ⟨ok.go S' H' i E'.hp x' hal hlt, fun σ2 H2 => i + 1 ≤ ds.length ∧ ∃ Γ' S', P (i + 1) Γ' S' ∧ Env F.M σ2 H2 Γ' S' ∧ Ext S1 H1 S' H2, fun σ2 H2 ⟨hj, r⟩ => ⟨ds.length - (i + 1), by omega, rfl, hj, r⟩, fun v H'' hy => ?_⟩
    obtain ⟨d, hd, E2, x2, rd⟩ := ok.yld S' H' i v H'' E'.hp x' hal hlt hy
    rw [List.getElem?_eq_getElem hlt] at hd
    cases hd
    refine hb σ' H'' v _ (E'.ext E2 x2) rd fun Γ3 S3 σ3 H3 hb3 E3 x3 => ?_
    have xa : Ext S1 H1 S3 H3 := (x'.trans x2).trans x3
    have xb : Ext S H S3 H3 := x1.trans xa
    exact hb3 σ3 H3 _ E3 ⟨fun Γ4 S4 σ4 H4 h4 E4 x4 => ⟨hlt, Γ4, S4, h4, E4, xa.trans x4⟩, q.rt.ext xb, fun Γ4 S4 σ4 H4 h4 E4 x4 => q.nx Γ4 S4 σ4 H4 h4 E4 (xb.trans x4), fun Γ4 S4 σ4 H4 h4 E4 x4 => ⟨hlt, Γ4, S4, h4, E4, xa.trans x4⟩⟩ (z.ext xb)
  · have e : i = ds.length := by omega
    subst e
    obtain ⟨hal, hk⟩ := fin Γ' S' p
    exact .inl ⟨ok.stop S' H' E'.hp x' hal, q.nx Γ' S' σ' H' hk E' (x1.trans x')⟩
theorem as_while (c : XC F N sc k X W) {t : Expr} {body : List Stmt} (P : Nat → Ga → Sto → Prop) (m0 : Nat) (p0 : P m0 Γ S)
    (step : ∀ m Γ' S', P m Γ' S' → AT F.M X W t Γ' S' (fun b S2 => if b = true then AB F.M X W body Γ' S2 { nx := fun Γ3 S3 => ∃ m', m' < m ∧ P m' Γ3 S3, ct := fun Γ3 S3 => ∃ m', m' < m ∧ P m' Γ3 S3, bk := K.nx, rt := K.rt } Z else K.nx Γ' S2) Z) :
    AS F.M X W (.While t body [] pos) Γ S K Z := fun σ H D E q z => by
  refine (ps_while c.own pt_wp pb_wp).wp ⟨fun m σ' H' => ∃ Γ' S', P m Γ' S' ∧ Env F.M σ' H' Γ' S' ∧ Ext S H S' H', ⟨m0, Γ, S, p0, E, Ext.refl⟩, ?_⟩
  rintro m σ' H' ⟨Γ', S', p, E', x'⟩
  refine step m Γ' S' p σ' H' _ E' (fun b H2 S2 hb E2 x2 => ?_) (z.ext x')
  cases b with
  | false => exact q.nx Γ' S2 σ' H2 hb (E'.ext E2 x2) (x'.trans x2)
  | true =>
    refine ⟨fun σ3 H3 => ∃ m', m' < m ∧ ∃ Γ3 S3, P m' Γ3 S3 ∧ Env F.M σ3 H3 Γ3 S3 ∧ Ext S H S3 H3, fun σ3 H3 ⟨m', hm, r⟩ => ⟨m', hm, r⟩, ?_⟩
    have xa : Ext S H S2 H2 := x'.trans x2
    exact hb σ' H2 _ (E'.ext E2 x2) ⟨fun Γ4 S4 σ4 H4 ⟨m', hm, h4⟩ E4 x4 => ⟨m', hm, Γ4, S4, h4, E4, xa.trans x4⟩, q.rt.ext xa, fun Γ4 S4 σ4 H4 h4 E4 x4 => q.nx Γ4 S4 σ4 H4 h4 E4 (xa.trans x4), fun Γ4 S4 σ4 H4 ⟨m', hm, h4⟩ E4 x4 => ⟨m', hm, Γ4, S4, h4, E4, xa.trans x4⟩⟩ (z.ext xa)
/-! ### target = value, o[i] = value -/
theorem as_asg (h : AX F.M X W e Γ S (fun d S' => AG F.M X tg d Γ S' K.nx) Z) (hs : swapsWithSole [tg] e pos.line X.env = pure false := by rfl) (hw : swappedStores [tg] e X.env = pure none := by rfl)
    (h1 : (assignEach [tg] X.env).map (·.2) = [assign tg X.env] := by rfl) : AS F.M X W (.Assign [tg] e pos) Γ S K Z := fun σ H D E q z =>
  (ps_asg pe_wp pg_wp hs hw h1).wp (h σ H _ E (fun v d H1 S1 h1 E1 x1 r1 => h1 σ H1 v _ (E.ext E1 x1) r1 (q.nx.ext x1)) z)
def wpP (X : Cx) : TSet := fun o i v H Q => Bx (∀ pins s σ ov iv u, Inv X pins σ H s → RelV o ov → RelV i iv → RelV v u → wpAny (model X.prog X.w) X.A (setItem ov iv u) (fun _ s' => ∃ H', Inv X pins σ H' s' ∧ Q H') X.xe s)
theorem pset_wp : PSet X (wpP X) := fun pins s σ H o i v ov iv u Q I r1 r2 r3 h => h.run pins s σ ov iv u I r1 r2 r3
def SQ (M : Mo) (S : Sto) (H : Hp) (n : Sto → Prop) (Q : Hp → Prop) : Prop := ∀ H' S', n S' → EnvH M S' H' → Ext S H S' H' → Q H'
def SD (M : Mo) (X : Cx) (o i d : D) (S : Sto) (n : Sto → Prop) : Prop := ∀ H vo vi v Q, EnvH M S H → Rep M.K S H o vo → Rep M.K S H i vi → Rep M.K S H d v → SQ M S H n Q → wpP X vo vi v H Q
theorem as_setI (h : AX F.M X W e Γ S (fun d S1 => AX F.M X W o Γ S1 (fun dv S2 => AX F.M X W a Γ S2 (fun di S3 => SD F.M X dv di d S3 (fun S4 => K.nx Γ S4)) Z) Z) Z)
    (ha : ∀ v, assign (.Subscript o a pos') X.env v = (do
      let ov ← holding [v] (eval o X.env)
      let iv ← holding [v, ov] (eval a X.env)
      standAt pos'
      holding [v, ov, iv] (setItem ov iv v)
      release [v, ov, iv] []) := by intro _; rfl) (hs : swapsWithSole [.Subscript o a pos'] e pos.line X.env = pure false := by rfl) (hw : swappedStores [.Subscript o a pos'] e X.env = pure none := by rfl) : AS F.M X W (.Assign [.Subscript o a pos'] e pos) Γ S K Z := fun σ H D E q z =>
  (ps_asg pe_wp (pg_sub pe_wp pe_wp pset_wp ha) hs hw).wp (h σ H _ E (fun v d H1 S1 h1 E1 x1 r1 => h1 σ H1 _ (E.ext E1 x1) (fun vo dv H2 S2 h2 E2 x2 r2 => h2 σ H2 _ ((E.ext E1 x1).ext E2 x2) (fun vi di H3 S3 h3 E3 x3 r3 =>
    h3 H3 vo vi v _ E3 (r2.ext x3) r3 ((r1.ext x2).ext x3) fun H4 S4 h4 E4 x4 => q.nx Γ S4 σ H4 h4 ((((E.ext E1 x1).ext E2 x2).ext E3 x3).ext E4 x4) (((x1.trans x2).trans x3).trans x4)) ((z.ext x1).ext x2)) (z.ext x1)) z)
theorem pset_dict (hu : X.A.units + 1 < cLine) : PSet X (fun o i v H Q => ∃ a H', o = .ref a ∧ DPut H a i v H' ∧ Q H') := fun pins s σ H o i v ov iv u Q I r1 r2 r3 ⟨a, H', eo, g, q⟩ => by
  subst eo
  obtain rfl : ov = Value.ref a := r1
  exact d_setItem hu I g r2 r3 fun s' I' => ⟨H', I', q⟩
theorem _root_.L2.PSet.wp {t : TSet} {o i v : V} {H : Hp} {Q : Hp → Prop} (h : PSet X t) (ht : t o i v H Q) : wpP X o i v H Q := ⟨fun pins s σ ov iv u I r1 r2 r3 => h pins s σ H o i v ov iv u Q I r1 r2 r3 ht⟩
theorem sd_lst {M : Mo} {p : Addr} {ds : List D} {d : D} {i : Int} {j : Nat} {n : Sto → Prop} (hp : S p = some (.lst ds)) (hi : ixN ds.length i = some j) (h : n (S.put p (.lst (ds.set j d)))) : SD M X (.ref p) (.int i) d S n := fun H vo vi v Q E r1 r2 r3 q => by
  simp only [Rep] at r1 r2
  subst r1 r2
  obtain ⟨u, hu, vs, rfl, l⟩ := E.cell p _ hp
  refine set_list.wp ⟨p, vs, i, j, rfl, rfl, hu, by rw [← l.length]; exact hi, ?_⟩
  exact q _ _ h (E.set hp ⟨_, rfl, (l.set j r3).ext (Ext.set hp)⟩) (Ext.set hp)
/-- the keys, the values behind d[k] = x -/
def putKs {κ : Type} [DecidableEq κ] (k : κ) (ks : List κ) : List κ := if k ∈ ks then ks else ks ++ [k]
def putKd {κ : Type} [DecidableEq κ] (k : κ) (d : D) : List κ → List D → List D
  | j :: js, x :: xs => if j = k then d :: (putAll k d js xs) else x :: putKd k d js xs
  | _, _ => [d]
where putAll (k : κ) (d : D) : List κ → List D → List D
  | j :: js, x :: xs => (if j = k then d else x) :: putAll k d js xs
  | _, _ => []
end
end QD
set_option maxHeartbeats 4000000
/-! The walk over data: comprehensions. -/
namespace QD
open PySem PySem.Spec PyProof.Rows L2

def W0 : WX := fun _ _ _ _ => False
abbrev Z0 : ZK := fun _ _ => False
theorem takes0 {X : Cx} : Takes X W0 := fun _ _ x => by
  obtain ⟨_, _, _, _, _, _, _, _, _, _, _, _, _, _, _, _, z⟩ := x
  exact z.elim
/-- the names forgotten -/
def wipeG (Γ : Ga) : List Nat → Ga
  | [] => Γ
  | v :: vs => (wipeG Γ vs).set v none
theorem wipe_set {σ : L2.St} {i : Nat} {x : Option V} : ∀ {vs : List Nat}, i ∈ vs → wipe (σ.set i x) vs = wipe σ vs
  | [], h => by cases h
  | v :: vs, h => by
    show (wipe (σ.set i x) vs).set v none = (wipe σ vs).set v none
    by_cases hi : i ∈ vs
    · rw [wipe_set hi]
    · have e : i = v := by
        rcases List.mem_cons.mp h with z | z
        · exact z
        · exact absurd z hi
      subst e
      have aux : ∀ {ws : List Nat}, i ∉ ws → wipe (σ.set i x) ws = (wipe σ ws).set i x := by
        intro ws
        induction ws with
        | nil => intro _; rfl
        | cons w ws ih =>
          intro hw
          have h1 : i ≠ w := fun z => hw (by rw [z]; exact List.mem_cons_self)
          have h2 : i ∉ ws := fun z => hw (List.mem_cons_of_mem _ z)
          show (wipe (σ.set i x) ws).set w none = ((wipe σ ws).set w none).set i x
          rw [ih h2, List.set_comm _ _ (fun z => h1 z)]
      rw [aux hi, List.set_set]
theorem wipe_idem {σ : L2.St} : ∀ {vs : List Nat}, wipe (wipe σ vs) vs = wipe σ vs := by
  intro vs
  have key : ∀ {i : Nat} {ws : List Nat} {τ : L2.St}, (wipe (τ.set i none) ws) = (wipe τ ws).set i none := by
    intro i ws
    induction ws with
    | nil => intro τ; rfl
    | cons w ws ih =>
      intro τ
      show (wipe (τ.set i none) ws).set w none = ((wipe τ ws).set w none).set i none
      rw [ih]
      by_cases e : i = w
      · subst e; rfl
      · rw [List.set_comm _ _ e]
  induction vs with
  | nil => rfl
  | cons v vs ih =>
    show (wipe ((wipe σ vs).set v none) vs).set v none = (wipe σ vs).set v none
    rw [key, ih, List.set_set]
theorem wipeG_length (Γ : Ga) : ∀ vs : List Nat, (wipeG Γ vs).length = Γ.length
  | [] => rfl
  | v :: vs => by show ((wipeG Γ vs).set v none).length = _; rw [List.length_set, wipeG_length Γ vs]
theorem Env.wipe {M : Mo} {σ : L2.St} {H : Hp} {Γ : Ga} {S : Sto} (E : Env M σ H Γ S) : ∀ vs : List Nat, Env M (wipe σ vs) H (wipeG Γ vs) S
  | [] => E
  | v :: vs => by
    have E' := Env.wipe E vs
    refine ⟨E'.hp, by show ((L2.wipe σ vs).set v none).length = ((wipeG Γ vs).set v none).length; rw [List.length_set, List.length_set]; exact E'.len, fun i d hd => ?_⟩
    have hd : ((wipeG Γ vs).set v none)[i]? = some (some d) := hd
    by_cases e : v = i
    · subst e
      by_cases hl : v < (wipeG Γ vs).length
      · rw [List.getElem?_set_self hl] at hd; cases hd
      · rw [List.getElem?_eq_none (by rw [List.length_set]; omega)] at hd; cases hd
    · rw [List.getElem?_set_ne e] at hd
      obtain ⟨w, h1, h2⟩ := E'.at_ i d hd
      exact ⟨w, by show ((L2.wipe σ vs).set v none)[i]? = _; rw [List.getElem?_set_ne e]; exact h1, h2⟩

/-- a target of names of its own takes d -/
def GO (M : Mo) (S : Sto) (H : Hp) (vs : List Nat) (σ : L2.St) (n : Ga → Sto → Prop) (q : L2.St → Hp → Prop) : Prop := ∀ Γ' S' σ' H', n Γ' S' → Env M σ' H' Γ' S' → Ext S H S' H' → wipe σ' vs = wipe σ vs → q σ' H'
def AO (M : Mo) (X : Cx) (vs : List Nat) (tg : Expr) (d : D) (Γ : Ga) (S : Sto) (n : Ga → Sto → Prop) : Prop := ∀ σ H v Q, Env M σ H Γ S → Rep M.K S H d v → GO M S H vs σ n Q → wpG X tg v σ H Q
def AOs (M : Mo) (X : Cx) (vs : List Nat) (ts : List Expr) (ds : List D) (Γ : Ga) (S : Sto) (n : Ga → Sto → Prop) : Prop := ∀ σ H ws Q, Env M σ H Γ S → RepL M.K S H ds ws → GO M S H vs σ n Q → wpGs X ts ws σ H Q
section
variable {F : Fix} {N : List Str} {sc : Scope} {k : Nat} {X : Cx} {W : WX} {Γ : Ga} {S : Sto} {K : AK} {Z : ZK} {a b e o it tg elt : Expr} {pos pos' p : Pos} {vs : List Nat}
def ownB (N : List Str) (sc : Scope) (i : Nat) (x : Str) : Bool := decide (N[i]? = some x) && decide (sc.names.lookup x = some .local)
theorem ao_name (c : XC F N sc k X W) {x : Str} {d : D} {n : Ga → Sto → Prop} (i : Nat) (hl : ownB N sc i x = true) (hi : i ∈ vs) (h : n (Γ.set i (some d)) S) : AO F.M X vs (.Name x pos) d Γ S n := fun σ H v Q E r q => by
  unfold ownB at hl
  simp only [Bool.and_eq_true, decide_eq_true_eq] at hl
  have hx : X.env.scope.names.lookup x = some .local := by rw [c.hs]; exact hl.2
  exact (pg_name (by rw [c.hN]; exact c.nd) (by rw [c.hN]; exact hl.1) (.inl hx) (.inr hx)).wp (q _ S _ H h (E.set i r) Ext.refl (wipe_set hi))
theorem aos_nil {n : Ga → Sto → Prop} (h : n Γ S) : AOs F.M X vs [] [] Γ S n := fun σ H ws Q E r q => by
  simp only [RepL] at r
  exact pgs_nil.wp ⟨r, q Γ S σ H h E Ext.refl rfl⟩
theorem aos_cons {es : List Expr} {d : D} {ds : List D} {n : Ga → Sto → Prop} (h : AO F.M X vs e d Γ S (fun Γ1 S1 => AOs F.M X vs es ds Γ1 S1 n)) (hc : (assignEach (e :: es) X.env).map (·.2) = assign e X.env :: (assignEach es X.env).map (·.2) := by rfl) :
    AOs F.M X vs (e :: es) (d :: ds) Γ S n := fun σ H ws Q E r q => by
  simp only [RepL] at r
  obtain ⟨v, us, rfl, r1, r2⟩ := r
  refine (pgs_cons pg_wp pgs_wp hc).wp ⟨v, us, rfl, ?_⟩
  exact h σ H v _ E r1 fun Γ1 S1 σ1 H1 h1 E1 x1 w1 => h1 σ1 H1 us Q E1 (r2.ext x1) fun Γ2 S2 σ2 H2 h2 E2 x2 w2 => q Γ2 S2 σ2 H2 h2 E2 (x1.trans x2) (w2.trans w1)
theorem ao_tup (c : XC F N sc k X W) {es : List Expr} {j : Nat} {d : D} {ds : List D} {n : Ga → Sto → Prop} (hd : S.view d = .tup ds) (hl : ds.length = es.length) (h : AOs F.M X vs es ds Γ S n)
    (hn : (assignEach es X.env).length = es.length := by rfl) (hst : (assignEach es X.env).findIdx? (·.1) = none := by rfl) : AO F.M X vs (.Tuple es j pos) d Γ S n := fun σ H v Q E r q => by
  obtain ⟨a, ws, e1, h1, l1⟩ := rep_tup E.hp r hd
  exact (pg_tup c.calm pgs_wp hn hst).wp ⟨a, ws, e1, by rw [c.hK]; exact h1, by rw [← l1.length]; exact hl, h σ H ws Q E l1 q⟩
theorem ao_lst (c : XC F N sc k X W) {es : List Expr} {j : Nat} {d : D} {ds : List D} {n : Ga → Sto → Prop} (hd : S.view d = .lst ds) (hl : ds.length = es.length) (h : AOs F.M X vs es ds Γ S n)
    (hn : (assignEach es X.env).length = es.length := by rfl) (hst : (assignEach es X.env).findIdx? (·.1) = none := by rfl) : AO F.M X vs (.Tuple es j pos) d Γ S n := fun σ H v Q E r q => by
  obtain ⟨a, ws, e1, h1, l1⟩ := rep_lst E.hp r hd
  exact (pg_lst c.calm pgs_wp hn hst).wp ⟨a, ws, e1, SqL.of h1, by rw [← l1.length]; exact hl, h σ H ws Q E l1 q⟩

/-! ### the block -/
theorem XC.blk (c : XC F N sc k X W) {scope : Scope} (s : Shared) (H : Hp) (C : Addr) (cl : List (Str × Addr)) (fp : List Addr) : XC F N (relS scope sc) k (X.blk s H scope (compEnvC scope cl C X.env) fp) W0 :=
  ⟨c.hP, c.hw, c.hK, c.hm, c.hb, c.hN, c.nd, by show relS scope X.env.scope = _; rw [c.hs], c.calm, c.room, takes0, PassesOwn.never⟩
/-- a context of the block -/
def IsBlk (X : Cx) (scope : Scope) (Y : Cx) : Prop := ∃ s H C cl fp, Y = X.blk s H scope (compEnvC scope cl C X.env) fp
theorem XC.isblk (c : XC F N sc k X W) {scope : Scope} {Y : Cx} (h : IsBlk X scope Y) : XC F N (relS scope sc) k Y W0 := by
  obtain ⟨s, H, C, cl, fp, rfl⟩ := h
  exact c.blk s H C cl fp
def bwG (X : Cx) (scope : Scope) (tg : Expr) : TG := fun v σ H Q => ∀ Y, IsBlk X scope Y → wpG Y tg v σ H Q
def wpTs (X : Cx) (ifs : List Expr) : TT := fun σ H Q => Bx (∀ pins s, Inv X pins σ H s →
    wpAny (model X.prog X.w) X.A (forIn ifs true fun c r => if r = true then do let ok ← isTrue c X.env (eval c X.env); pure (ForInStep.yield ok) else pure (ForInStep.yield r)) (TP X pins σ Q) X.xe s)
theorem _root_.L2.PTs.wp {ifs : List Expr} {t : TT} {σ : L2.St} {H : Hp} {Q : Bool → Hp → Prop} (h : PTs X ifs t) (ht : t σ H Q) : wpTs X ifs σ H Q := ⟨fun pins s I => h.run pins s σ H Q I ht⟩
def ATs (M : Mo) (X : Cx) (ifs : List Expr) (Γ : Ga) (S : Sto) (R : Bool → Sto → Prop) : Prop := ∀ σ H Q, Env M σ H Γ S → BQ M S H R Q → wpTs X ifs σ H Q
theorem ats_nil {R : Bool → Sto → Prop} (h : R true S) : ATs F.M X [] Γ S R := fun σ H Q E q => pts_nil.wp (q true H S h E.hp Ext.refl)
theorem ats_one {t : Expr} {R : Bool → Sto → Prop} (h : AT F.M X W0 t Γ S R Z0) : ATs F.M X [t] Γ S R := fun σ H Q E q => (pts_one pt_wp).wp (h σ H Q E q fun _ _ _ _ z => z.elim)
def bwT (X : Cx) (scope : Scope) (ifs : List Expr) : TT := fun σ H Q => ∀ Y, IsBlk X scope Y → wpTs Y ifs σ H Q
def bwE (X : Cx) (scope : Scope) (e : Expr) : TE := fun σ H Q => ∀ Y, IsBlk X scope Y → wpE Y e σ H Q
/-- [elt for tg in it if ..]: what is asked -/
def LcQ (F : Fix) (X : Cx) (elt tg : Expr) (ifs : List Expr) (scope : Scope) (own : List (Str × Nat)) (Γ : Ga) (R : RK) (ds : List D) (al : Sto → Prop) (S1 : Sto) : Prop :=
  ds.length < sizeLine ∧ ∀ p, S1 p = none → ∃ P : Nat → List D → Sto → Prop, P 0 [] (S1.put p (.lst [])) ∧
    (∀ i d acc S', ds[i]? = some d → P i acc S' → acc.length ≤ i → al S' ∧ ∀ Y, IsBlk X scope Y → AO F.M Y (own.map (·.2)) tg d (wipeG Γ (own.map (·.2))) S' (fun Γ2 S2 => ∀ Y, IsBlk X scope Y → ATs F.M Y ifs Γ2 S2 fun b S3 =>
      if b = true then ∀ Y, IsBlk X scope Y → AX F.M Y W0 elt Γ2 S3 (fun y S4 => S4 p = some (.lst acc) ∧ P (i + 1) (acc ++ [y]) (S4.put p (.lst (acc ++ [y])))) Z0 else P (i + 1) acc S3)) ∧
    ∀ acc S', P ds.length acc S' → al S' ∧ (R (.ref p) S' ∨ S' p = some (.lst acc) ∧ R (.lst acc) (S'.del p))
theorem lc_go (c : XC F N sc k X W) {ifs : List Expr} {scope : Scope} {own : List (Str × Nat)} {R : RK} {σ : L2.St} {H : Hp} {Q : VK} (h : AI F.M X W tg it Γ S (LcQ F X elt tg ifs scope own Γ R) Z) (E : Env F.M σ H Γ S) (q : RQ F.M S H R Q) (z : ZQ F.M S H Z W) :
    tLc (wpI X tg it) (bwG X scope tg) (bwT X scope ifs) (bwE X scope elt) (own.map (·.2)) σ H Q := by
  refine h σ H _ E (fun J H1 S1 ds al ⟨hl, hP⟩ E1 x1 ok => ?_) z
  intro p hp
  obtain ⟨P, p0, step, fin⟩ := hP p (E1.none hp)
  have Ep : EnvH F.M (S1.put p (.lst [])) (upd H1 p (.lst [])) := E1.new2 hp ⟨[], rfl, repL_nil⟩
  have xp : Ext S1 H1 (S1.put p (.lst [])) (upd H1 p (.lst [])) := Ext.new2 hp
  refine ⟨fun i m H' => m = ds.length - i ∧ i ≤ ds.length ∧ ∃ acc S', P i acc S' ∧ acc.length ≤ i ∧ EnvH F.M S' H' ∧ Ext S1 H1 S' H', ⟨ds.length, by simp, Nat.zero_le _, [], _, p0, Nat.le_refl _, Ep, xp⟩, ?_⟩
  rintro i m H' ⟨rfl, hi, acc, S', hp', hacc, E', x'⟩
  by_cases hlt : i < ds.length
  · obtain ⟨hal, hb⟩ := step i ds[i] acc S' (List.getElem?_eq_getElem hlt) hp' hacc
    refine .inr ⟨ok.go S' H' i E' x' hal hlt, fun H2 => i + 1 ≤ ds.length ∧ ∃ acc S', P (i + 1) acc S' ∧ acc.length ≤ i + 1 ∧ EnvH F.M S' H2 ∧ Ext S1 H1 S' H2, fun H2 ⟨hj, r⟩ => ⟨ds.length - (i + 1), by omega, rfl, hj, r⟩, fun v H'' hy => ?_⟩
    obtain ⟨d, hd, E2, x2, rd⟩ := ok.yld S' H' i v H'' E' x' hal hlt hy
    rw [List.getElem?_eq_getElem hlt] at hd
    cases hd
    have Ew : Env F.M (wipe σ (own.map (·.2))) H'' (wipeG Γ (own.map (·.2))) S' := ((E.wipe _).ext E1 x1).ext E2 (x'.trans x2)
    intro Y hY
    refine hb Y hY _ H'' v _ Ew rd fun Γ3 S3 σ3 H3 h3 E3 x3 w3 => ⟨?_, ?_⟩
    · rw [w3, wipe_idem]
    intro Y2 hY2
    refine h3 Y2 hY2 σ3 H3 _ E3 fun b H4 S4 hb4 E4 x4 => ?_
    have xa : Ext S1 H1 S4 H4 := ((x'.trans x2).trans x3).trans x4
    cases b with
    | false => exact ⟨hlt, acc, S4, hb4, Nat.le_succ_of_le hacc, E4, xa⟩
    | true =>
      intro Y3 hY3
      refine hb4 Y3 hY3 σ3 H4 _ (E3.ext E4 x4) (fun y d5 H5 S5 ⟨hp5, hP5⟩ E5 x5 r5 => ?_) (fun _ _ _ _ z => z.elim)
      obtain ⟨u, hu, ws, rfl, l⟩ := E5.cell p _ hp5
      have hz : ws.length < sizeLine := by rw [← l.length]; omega
      refine ⟨ws, hu, hz, hlt, acc ++ [d5], _, hP5, by rw [List.length_append]; simp; omega, E5.set hp5 ⟨_, rfl, (l.append (repL_cons r5 repL_nil)).ext (Ext.set hp5)⟩, (xa.trans x5).trans (Ext.set hp5)⟩
  · have e : i = ds.length := by omega
    subst e
    obtain ⟨hal, hk⟩ := fin acc S' hp'
    refine .inl ⟨ok.stop S' H' E' x' hal, ?_⟩
    rcases hk with hk | ⟨hs, hk⟩
    · exact q _ _ H' S' hk E' (x1.trans x') (by simp only [Rep])
    · obtain ⟨u, hu, ws, rfl, l⟩ := E'.cell p _ hs
      refine q _ _ H' _ hk (E'.del p) ((x1.trans x').trans (Ext.del p)) ?_
      simp only [Rep]
      exact ⟨p, ws, rfl, Sto.del_same, hu, l.ext (Ext.del p)⟩
theorem ax_lc (c : XC F N sc k X W) {ifs : List Expr} {scope : Scope} {R : RK} (own : List (Str × Nat)) (ok : blkC N sc scope own = true) (h : AI F.M X W tg it Γ S (LcQ F X elt tg ifs scope own Γ R) Z) (hs : ∀ x, foldedSetIterable it X.env x = pure x := by intro _; rfl) :
    AX F.M X W (.ListComp elt [⟨tg, it, ifs, 0⟩] scope pos) Γ S R Z := fun σ H Q E q z =>
  (pe_lc c.calm (by rw [c.hN]; exact c.nd) pi_wp (by rw [c.hN, c.hs]; exact blkOk_by ok) (fun s H C cl fp => ⟨fun pins s' σ H v u Q I r h => (h _ ⟨s, _, C, cl, fp, rfl⟩).run pins s' u I r⟩)
    (fun s H C cl fp => ⟨fun pins s' σ H Q I h => (h _ ⟨s, _, C, cl, fp, rfl⟩).run pins s' I⟩) (fun s H C cl fp => ⟨fun pins s' σ H Q I h => (h _ ⟨s, _, C, cl, fp, rfl⟩).run pins s' I⟩) hs).wp (lc_go c h E q z)
/-- y = [..] -/
theorem as_setLc (c : XC F N sc k X W) {ifs : List Expr} {scope : Scope} {y : Str} {py spos : Pos} (i : Nat) (own : List (Str × Nat)) (ok : blkC N sc scope own = true) (hy : ownB N sc i y = true) (hk : X.env.scope.kind = .function) (hl : (py.line == pos.line) = true)
    (hn : (scope.names.any fun (n, k) => n == y && (k == .local || k == .cell)) = false) (h : AI F.M X W tg it Γ S (LcQ F X elt tg ifs scope own Γ (fun d S' => K.nx (Γ.set i (some d)) S')) Z) (hs : ∀ x, foldedSetIterable it X.env x = pure x := by intro _; rfl) :
    AS F.M X W (.Assign [.Name y py] (.ListComp elt [⟨tg, it, ifs, 0⟩] scope pos) spos) Γ S K Z := fun σ H D E q z => by
  unfold ownB at hy
  simp only [Bool.and_eq_true, decide_eq_true_eq] at hy
  have hyl : X.env.scope.names.lookup y = some .local := by rw [c.hs]; exact hy.2
  exact (ps_setLc c.calm (by rw [c.hN]; exact c.nd) (by rw [c.hN]; exact hy.1) hyl (sw_true hk hyl hl hn) pi_wp (by rw [c.hN, c.hs]; exact blkOk_by ok) (fun s H C cl fp => ⟨fun pins s' σ H v u Q I r h => (h _ ⟨s, _, C, cl, fp, rfl⟩).run pins s' u I r⟩)
    (fun s H C cl fp => ⟨fun pins s' σ H Q I h => (h _ ⟨s, _, C, cl, fp, rfl⟩).run pins s' I⟩) (fun s H C cl fp => ⟨fun pins s' σ H Q I h => (h _ ⟨s, _, C, cl, fp, rfl⟩).run pins s' I⟩) hs).wp
    (lc_go (R := fun d S' => K.nx (Γ.set i (some d)) S') c h E (fun v d H' S' r E' x' r' => q.nx _ S' _ H' r ((E.ext E' x').set i r') x') z)
end
end QD
set_option maxHeartbeats 4000000
/-! The walk over data: generator expressions, 1: the running generator. -/
namespace QD
open PySem PySem.Spec PyProof.Rows L2 GenW

/-- names of a generator expression -/
structure GxOk (N : List Str) (sc scope : Scope) (own : List (Str × Nat)) : Prop where
  kind : scope.kind = .function
  co : scope.isCoroutine = false
  nocell : ∀ y ∈ scope.names, y.2 ≠ .cell
  dot : scope.names.lookup (".0" : Str) = some NameKind.local
  uniq : ∀ y ∈ scope.names, scope.names.lookup y.1 = some y.2
  ix : ∀ p ∈ own, N[p.2]? = some p.1
  free : ∀ y ∈ scope.names, y.2 = .free → sc.names.lookup y.1 = some .cell ∨ sc.names.lookup y.1 = some .free
  own : ∀ y ∈ scope.names, y.2 = .local → y.1 ∈ own.map (·.1) ∨ y.1 ∉ N
def gxC (N : List Str) (sc scope : Scope) (own : List (Str × Nat)) : Bool :=
  decide (scope.kind = .function) && !scope.isCoroutine && decide (scope.names.lookup (".0" : Str) = some NameKind.local) && (own.all fun p => decide (N[p.2]? = some p.1)) &&
    scope.names.all fun y => !decide (y.2 = .cell) && decide (scope.names.lookup y.1 = some y.2) && (!decide (y.2 = .free) || decide (sc.names.lookup y.1 = some .cell) || decide (sc.names.lookup y.1 = some .free)) && (!decide (y.2 = .local) || decide (y.1 ∈ own.map (·.1)) || decide (y.1 ∉ N))
theorem gxOk_by {N : List Str} {sc scope : Scope} {own : List (Str × Nat)} (h : gxC N sc scope own = true) : GxOk N sc scope own := by
  unfold gxC at h
  simp only [Bool.and_eq_true, Bool.or_eq_true, Bool.not_eq_true', decide_eq_true_eq, decide_eq_false_iff_not, List.all_eq_true] at h
  obtain ⟨⟨⟨⟨h1, h2⟩, h3⟩, h4⟩, h5⟩ := h
  refine ⟨h1, h2, fun y hy => (h5 y hy).1.1.1, h3, fun y hy => (h5 y hy).1.1.2, h4, fun y hy e => ?_, fun y hy e => ?_⟩
  · rcases (h5 y hy).1.2 with (z | z) | z
    · exact absurd e z
    · exact .inl z
    · exact .inr z
  · rcases (h5 y hy).2 with (z | z) | z
    · exact absurd e z
    · exact .inl z
    · exact .inr z
abbrev gxEnv (X : Cx) (scope : Scope) (L : Addr) (code : Value) : PySem.Env := genEnv scope (cloFrom X.env.cells scope.names []) L code builtinsNs X.env
/-- the context of the running generator -/
def gxCx (X : Cx) (B : Around) (s : Shared) (H : Hp) (scope : Scope) (code : Value) (fp : List Addr) (pn : List (Addr × Obj)) : Cx where
  prog := X.prog
  w := X.w
  K := X.K
  mg := X.mg
  base := X.base
  A := B.deeper (gxEnv X scope s.heap.objs.size code)
  N := X.N
  s_0 := s
  H_0 := H
  env := gxEnv X scope s.heap.objs.size code
  outer := X.stack
  stack := gxEnv X scope s.heap.objs.size code :: X.stack
  ex := fp
  fn := fun _ => false
  calm := true
  pn := pn
  xe := fun _ _ => False
theorem gx_over {A : Around} {elt : Expr} {gs : List Comprehension} {scope : Scope} {pos : Pos} {it acc : Value} {env : PySem.Env} : A.over (.compLoop (.GeneratorExp elt gs scope pos) 0 it acc env) [] = A.deeper env := by rfl
theorem gx_over0 {A : Around} {elt : Expr} {gs : List Comprehension} {scope : Scope} {pos : Pos} {it acc : Value} {env : PySem.Env} : A.over (.compStart (.GeneratorExp elt gs scope pos) 0 it acc env) [] = A.deeper env := by rfl
section
variable {X : Cx} {pins : List (Addr × Obj)} {σ : L2.St} {H : Hp} {s : Shared}
theorem gx_young (I : Inv X pins σ H s) {b : Addr} (hb : s.heap.objs.size < b) {scope : Scope} :
    H b = none ∧ b ≠ s.heap.objs.size ∧ b ∉ frs X.stack ∧ s.heap.objs.size ≤ b ∧ ∀ y c, (cloFrom X.env.cells scope.names []).lookup y = some c → (∃ c', X.env.cells.lookup y = some c' ∧ c = c') → c ≠ b := by
  refine ⟨I.hok.fresh (Nat.le_of_lt hb), Nat.ne_of_gt hb, fun z => ?_, Nat.le_of_lt hb, fun y c _ ⟨c', h1, h2⟩ z => ?_⟩
  · rcases List.mem_cons.mp (I.stkSub _ z) with e | e
    · have h1 := I.lt
      rw [← e] at h1
      exact absurd (Nat.lt_trans h1 hb) (Nat.lt_irrefl _)
    · exact I.nofs (Nat.le_of_lt hb) e
  · obtain ⟨v, q⟩ := I.cell y c' h1
    have := q.lt
    rw [← h2, z] at this
    exact absurd (Nat.lt_trans this hb) (Nat.lt_irrefl _)
theorem gx_start {B : Around} {scope : Scope} {own : List (Str × Nat)} {code : Value} {fp : List Addr} {pn pl : List (Addr × Obj)} {s6 : Shared} {m : Str → Option Value} (I : Inv X pins σ H s) (ok : GxOk X.N X.env.scope scope own) (hN : X.N.Nodup) (hfp : ∀ b ∈ fp, FpOk X pins H b ∧ b < s.heap.objs.size)
    (hB : B.handled = none) (hfr : B.frames = some X.stack) (kp : ∀ b o, s.heap.get? b = some o → s6.heap.get? b = some o) (hos : s6.os = s.os) (hb : AllBare s6.gens) (hns : s6.heap.Ns s.heap.objs.size m)
    (hpin : ∀ p ∈ pn ++ pl, s6.heap.get? p.1 = some p.2 ∧ s.heap.objs.size < p.1 ∧ ∀ v, p.2.data ≠ .cell v) : Inv (gxCx X B s H scope code fp pn) pl (wipe σ (own.map (·.2))) H s6 := by
  have hfree : ∀ y ∈ scope.names, y.2 = .free → ∃ c, X.env.cells.lookup y.1 = some c := fun y hy e => by
    rcases ok.free y hy e with k | k
    · exact I.ok.has _ (.inl k)
    · exact I.ok.has _ (.inr k)
  have cm : ∀ {y c}, (cloFrom X.env.cells scope.names []).lookup y = some c → X.env.cells.lookup y = some c := fun {y c} e => by
    rcases cloFrom_mem (PySem.mem_of_lookup e) with hm | ⟨h1, h2⟩
    · cases hm
    · obtain ⟨c1, hc⟩ := hfree _ h1 rfl
      have hc : X.env.cells.lookup y = some c1 := hc
      have e2 : c = c1 := by
        rw [h2, hc] <;> rfl
      rw [e2]
      exact hc
  have look : ∀ {y}, scope.names.lookup y = some .free → ∃ c, (cloFrom X.env.cells scope.names []).lookup y = some c := fun {y} hl => by
    have hy : (y, NameKind.free) ∈ scope.names := PySem.mem_of_lookup hl
    exact mem_lookup (cloFrom_has (cells := X.env.cells) (acc := []) hy)
  have cellK : ∀ {c : Addr} {v : Option Value}, s.heap.IsCell c v → s6.heap.IsCell c v := fun {c v} z => z.keeps kp
  have okB : (gxCx X B s H scope code fp pn).Ok := by
    refine ⟨I.ok.mod, ok.kind, I.ok.glob, rfl, Nat.le_refl _, fun y z c e1 e2 => I.ok.inj y z c (cm e1) (cm e2), fun y hy => ?_, fun y c z _ => ?_, fun _ => hB, Around.frames_deeper hfr, .inr ⟨rfl, rfl⟩, fun b hb => ⟨Nat.ne_of_lt (hfp b hb).2, fun y c e => (hfp b hb).1.2.2.2.2.1 y c (cm e)⟩,
      I.bs, Nat.le_trans I.ok.bsz I.sz, fun b o e hb => ?_, fun b hb z => ?_, I.stack, I.stkFree⟩
    · have hy : scope.names.lookup y = some .cell ∨ scope.names.lookup y = some .free := hy
      rcases hy with hy | hy
      · exact absurd rfl (ok.nocell _ (PySem.mem_of_lookup hy))
      · exact look hy
    · have z : false = true := z
      cases z
    · rcases (hfp b hb).1.2.2.2.1 with z | z
      · exact I.ok.noex b o e z
      · exact absurd (Nat.lt_of_lt_of_le (Heap.lt_size e) (Nat.le_trans I.ok.bsz z)) (Nat.lt_irrefl _)
    · rcases List.mem_cons.mp (I.stkSub b z) with z | z
      · exact (hfp b hb).1.2.1 z
      · exact (hfp b hb).1.2.2.1 z
  refine ⟨okB, hos, hb, Un.kept kp, ⟨m, hns, fun i y av e1 e2 e3 => ?_⟩, fun y c e => ?_, I.hok.fresh (Nat.le_refl _), fun y c e => I.freeC y c (cm e), fun p hp => ?_, I.hok.kept kp, by rw [wipe_length]; exact I.len⟩
  · obtain ⟨e2, hne⟩ := wipe_some e2
    have e3 : Vis scope y := e3
    rcases e3 with k | k | k
    · exfalso
      rcases ok.own _ (PySem.mem_of_lookup k) rfl with e' | e'
      · obtain ⟨p, hp, hpy⟩ := List.mem_map.mp e'
        have e3 := ok.ix p hp
        have : p.1 = y := hpy
        rw [this] at e3
        exact hne (List.mem_map.mpr ⟨p, hp, nodup_ix hN e3 e1⟩)
      · exact e' (List.mem_of_getElem? e1)
    · exact absurd rfl (ok.nocell _ (PySem.mem_of_lookup k))
    · obtain ⟨m', hn, hl⟩ := I.loc
      have hvis : Vis X.env.scope y := (ok.free _ (PySem.mem_of_lookup k) rfl).elim (fun k => .inr (.inl k)) (fun k => .inr (.inr k))
      obtain ⟨w', r, q⟩ := hl i y av e1 e2 hvis
      obtain ⟨c2, h2⟩ := look k
      refine ⟨w', r, .inr ⟨.inr k, c2, h2, ?_⟩⟩
      have c1 := cm h2
      rcases q with ⟨k', _⟩ | ⟨_, c3, e', z⟩
      · have k' : X.env.scope.names.lookup y = some .local := k'
        rcases ok.free _ (PySem.mem_of_lookup k) rfl with k2 | k2 <;> rw [show X.env.scope.names.lookup y = _ from k2] at k' <;> cases k'
      · rw [c1] at e'
        cases e'
        exact cellK z
  · obtain ⟨w', z⟩ := I.cell y c (cm e)
    exact ⟨w', cellK z⟩
  · obtain ⟨h1, h2, h3⟩ := hpin p hp
    obtain ⟨g1, g2, g3, _, _⟩ := gx_young (scope := scope) I h2
    exact ⟨h1, g1, g2, g3, h3⟩
end
/-! ### asleep -/
/-- what the consumer does while the generator sleeps; v: what was handed out -/
structure Woke (Ss : List Addr) (Lk : List V → Heap → Prop) (v : Value) (s s' : Shared) : Prop where
  os : s'.os = s.os
  bare : AllBare s'.gens
  keep : ∀ b o, b ∉ Ss → s.heap.get? b = some o → s'.heap.get? b = some o
  obj : ∀ b ∈ Ss, ∃ o, s'.heap.get? b = some o ∧ ∀ v, o.data ≠ .cell v
  lk : ∀ ws w, RelV w v → Lk ws s.heap → Lk (ws ++ [w]) s'.heap
/-- the consumer's own -/
structure Own (Y : Cx) (Ss : List Addr) : Prop where
  up : ∀ b ∈ Ss, Y.s_0.heap.objs.size ≤ b
  loc : ∀ b ∈ Ss, b ≠ Y.env.locals
  cel : ∀ b ∈ Ss, ∀ x c, Y.env.cells.lookup x = some c → c ≠ b
  pn : ∀ b ∈ Ss, ∀ p ∈ Y.pn, p.1 ≠ b
/-- the consumer's objects stand -/
def Std (Y : Cx) (Ss : List Addr) (H : Hp) (s : Shared) : Prop := ∀ b ∈ Ss, H b = none ∧ b ∉ Y.fs ∧ ∃ o, s.heap.get? b = some o ∧ ∀ v, o.data ≠ .cell v
section
variable {Y : Cx} {Ss : List Addr} {pins : List (Addr × Obj)} {σ : L2.St} {H : Hp} {s s' : Shared}
theorem own_fp (o : Own Y Ss) (st : Std Y Ss H s) : ∀ b ∈ Ss, FpOk Y [] H b := fun b hb => ⟨(st b hb).1, o.loc b hb, (st b hb).2.1, .inr (o.up b hb), fun x c e => o.cel b hb x c e, fun p hp => o.pn b hb p (by simpa using hp)⟩
theorem gx_pin (I : Inv Y [] σ H s) (o : Own Y Ss) (st : Std Y Ss H s) : Inv Y ([] ++ pinsAt Ss s.heap) σ H s := I.pinned (own_fp o st) fun b hb => (st b hb).2.2
/-- pinned objects stand, wherever one comes -/
theorem std_of {h0 : Heap} (hs : ∀ b ∈ Ss, ∃ o, h0.get? b = some o ∧ ∀ v, o.data ≠ .cell v) (I : Inv Y (([] ++ pinsAt Ss h0) ++ pins) σ H s) : Std Y Ss H s ∧ ∀ b ∈ Ss, ∀ o, h0.get? b = some o → s.heap.get? b = some o := by
  have key : ∀ b ∈ Ss, ∀ o, h0.get? b = some o → s.heap.get? b = some o ∧ H b = none ∧ b ∉ Y.fs := fun b hb o e => by
    obtain ⟨h1, h2, h3, h4, h5⟩ := I.pin (b, o) (List.mem_append_right _ (List.mem_append_left _ (List.mem_append_right _ (mem_pinsAt hb e))))
    exact ⟨h1, h2, h4⟩
  refine ⟨fun b hb => ?_, fun b hb o e => (key b hb o e).1⟩
  obtain ⟨o, e, d⟩ := hs b hb
  obtain ⟨h1, h2, h3⟩ := key b hb o e
  exact ⟨h2, h3, o, h1, d⟩
theorem gx_woken {Lk : List V → Heap → Prop} {v : Value} (I : Inv Y [] σ H s) (o : Own Y Ss) (st : Std Y Ss H s) (z : Woke Ss Lk v s s') : Inv Y [] σ H s' ∧ Std Y Ss H s' := by
  have nt : ∀ b u, H b = some u → b ∉ Ss := fun b u q hb => by rw [(st b hb).1] at q; cases q
  obtain ⟨z1, z2, z3, z4, _⟩ := z
  obtain ⟨hh, g, d, t, os⟩ := s'
  have ho : os = s.os := z1
  subst ho
  have fo := own_fp o st
  have hLoc : Y.env.locals ∉ Ss := fun hb => o.loc _ hb rfl
  refine ⟨I.step (g' := g) (t' := t) (d' := d) (ch := Ss) (fun b hb => ?_)
      (fun b ob _ _ hc q _ => z3 b ob hc q) (fun b ob _ _ hc q _ => ⟨ob.slots, z3 b ob hc q⟩) (fun _ _ _ _ n => n) (fun b ob hc q => ⟨ob, z3 b ob hc q⟩)
      (fun _ _ q => q) (fun _ _ _ q => q) (fun b ps q => ⟨#[], by rw [q]; simp⟩) (fun m hm => ?_) (fun b u q => ?_) z2, fun b hb => ?_⟩
  · obtain ⟨f0, f1, f2, f3, f4, f5⟩ := fo b hb
    exact ⟨f3, f1, f4, f5⟩
  · obtain ⟨ob, es, ep, ho, r⟩ := hm
    exact ⟨ob, es, ep, z3 _ ob hLoc ho, r⟩
  · refine (I.hok b u q).stay (fun c v hc y => z3 c v ?_ y) (fun _ y => y) fun _ _ y => y
    rcases hc with y | y
    · rw [y]; exact nt b u q
    · exact nt c _ y
  · obtain ⟨o', e', d'⟩ := z4 b hb
    exact ⟨(st b hb).1, (st b hb).2.1, o', e', d'⟩
end
end QD
set_option maxHeartbeats 4000000
/-! The walk over data: generator expressions, 2: the turns. -/
namespace QD
open PySem PySem.Spec PyProof.Rows L2 GenW

def gxPre (fs : List (Option D)) (i : Nat) : List D := (fs.take i).filterMap id
def gxRem (fs : List (Option D)) (i : Nat) : List D := (fs.drop i).filterMap id
theorem gx_all (fs : List (Option D)) (i : Nat) : fs.filterMap id = gxPre fs i ++ gxRem fs i := by
  unfold gxPre gxRem
  rw [← List.filterMap_append, List.take_append_drop]
theorem gx_drop {fs : List (Option D)} {i : Nat} {o : Option D} (h : fs[i]? = some o) : fs.drop i = o :: fs.drop (i + 1) := by
  obtain ⟨h1, h2⟩ := List.getElem?_eq_some_iff.mp h
  rw [List.drop_eq_getElem_cons h1, h2]
theorem gx_take {fs : List (Option D)} {i : Nat} {o : Option D} (h : fs[i]? = some o) : fs.take (i + 1) = fs.take i ++ [o] := by
  rw [List.take_succ, h]; rfl
theorem gxRem_some {fs : List (Option D)} {i : Nat} {y : D} (h : fs[i]? = some (some y)) : gxRem fs i = y :: gxRem fs (i + 1) := by
  unfold gxRem; rw [gx_drop h, List.filterMap_cons]; rfl
theorem gxRem_none {fs : List (Option D)} {i : Nat} (h : fs[i]? = some none) : gxRem fs i = gxRem fs (i + 1) := by
  unfold gxRem; rw [gx_drop h, List.filterMap_cons]; rfl
theorem gxPre_some {fs : List (Option D)} {i : Nat} {y : D} (h : fs[i]? = some (some y)) : gxPre fs (i + 1) = gxPre fs i ++ [y] := by
  unfold gxPre; rw [gx_take h, List.filterMap_append]; rfl
theorem gxPre_none {fs : List (Option D)} {i : Nat} (h : fs[i]? = some none) : gxPre fs (i + 1) = gxPre fs i := by
  unfold gxPre; rw [gx_take h, List.filterMap_append]; show _ ++ [] = _; rw [List.append_nil]
theorem gxRem_end {fs : List (Option D)} {i : Nat} (h : fs.length ≤ i) : gxRem fs i = [] := by
  unfold gxRem; rw [List.drop_eq_nil_of_le h]; rfl
theorem gxPre_end {fs : List (Option D)} {i : Nat} (h : fs.length ≤ i) : gxPre fs i = fs.filterMap id := by
  unfold gxPre; rw [List.take_of_length_le h]
theorem gx_takePre (fs : List (Option D)) (i : Nat) : (fs.filterMap id).take (gxPre fs i).length = gxPre fs i := by
  rw [gx_all fs i, List.take_left']
  rfl

/-- what the outer frame may rely on -/
def Out (M : Mo) (Y : Cx) (Ss : List Addr) (S : Sto) (ys : List D) (ws : List V) (s : Shared) : Prop :=
  ∃ H, s.os = Y.s_0.os ∧ AllBare s.gens ∧ Un (frs Y.outer) Y.ex Y.H_0 H Y.s_0.heap s.heap ∧ HOk Y.prog Y.w H s.heap ∧ (∀ b ∈ Ss, H b = none) ∧ EnvH M S H ∧ Ext S Y.H_0 S H ∧ RepL M.K S H (ys.take ws.length) ws
/-- an item is handed out -/
def GxP (M : Mo) (Y : Cx) (Ss : List Addr) (Lk : List V → Heap → Prop) (S : Sto) (ys : List D) (a : Addr) (g : Nat) : Protocol := fun n s₀ v s kap =>
  ∃ ws w, RelV w v ∧ Lk ws s.heap ∧ n + 1 + ws.length = ys.length ∧ s.heap.IsGen a g ∧ s.heap.NoLimit ∧ (∀ b ∈ Ss, ∃ o, s.heap.get? b = some o ∧ ∀ v, o.data ≠ .cell v) ∧ Out M Y Ss S ys (ws ++ [w]) s ∧ ∀ s', Woke Ss Lk v s s' → kap (.send .none) s'
def GxF (M : Mo) (Y : Cx) (Ss : List Addr) (Lk : List V → Heap → Prop) (S : Sto) (ys : List D) : Nat → Shared → Shared → Prop := fun n s₀ s => n = 0 ∧ ∃ ws, Lk ws s.heap ∧ ws.length = ys.length ∧ Out M Y Ss S ys ws s
def GxE (M : Mo) (Y : Cx) (Ss : List Addr) (Lk : List V → Heap → Prop) (S : Sto) (ys : List D) : GenEnd := fun n s₀ r s₁ => ((r = .ok (.ret .none) ∨ r = .ok .next) ∧ GxF M Y Ss Lk S ys n s₀ s₁) ∨ ∃ e, r = .error e ∧ False
/-- the turns, over data -/
def GxStep (M : Mo) (Y : Cx) (elt tg : Expr) (ifs : List Expr) (vs : List Nat) (Γ : Ga) (S : Sto) (ds : List D) (fs : List (Option D)) : Prop :=
  ∀ (i : Nat) (d : D), ds[i]? = some d → AO M Y vs tg d (wipeG Γ vs) S (fun Γ2 S2 => S2 = S ∧ ATs M Y ifs Γ2 S (fun b S3 => S3 = S ∧ if b = true then AX M Y W0 elt Γ2 S (fun y S4 => S4 = S ∧ fs[i]? = some (some y)) Z0 else fs[i]? = some none))
/-- what the link tells stays while its objects stay -/
def LkOk (Ss : List Addr) (Lk : List V → Heap → Prop) : Prop := ∀ ws h h', (∀ b ∈ Ss, ∃ o, h.get? b = some o) → (∀ b ∈ Ss, ∀ o, h.get? b = some o → h'.get? b = some o) → Lk ws h → Lk ws h'
section
variable {M : Mo} {Y : Cx} {B : Around} {Ss : List Addr} {Lk : List V → Heap → Prop} {S : Sto} {fs : List (Option D)} {ds : List D} {a it : Addr} {g : Nat} {elt tg iter : Expr} {ifs : List Expr} {scope : Scope} {pos : Pos} {J : It} {fp : List Addr} {tn : Nat → Heap → Prop} {al : Sto → Prop} {vs : List Nat} {Γ : Ga} {σ : L2.St}
theorem gx_out {pins : List (Addr × Obj)} {H : Hp} {τ : L2.St} {s : Shared} {ys : List D} {ws : List V} (I : Inv Y pins τ H s) (st : ∀ b ∈ Ss, H b = none) (E : EnvH M S H) (x : Ext S Y.H_0 S H) (r : RepL M.K S H (ys.take ws.length) ws) : Out M Y Ss S ys ws s :=
  ⟨H, I.os, I.bare, I.base, I.hok, st, E, x, r⟩
theorem seg_gx (hA : B.deeper Y.env = Y.A) (hxe : Y.xe = fun _ _ => False) (hc : Y.calm = true) (hco : Y.env.scope.isCoroutine = false) (o : Own Y Ss) (T : Turn Y.prog Y.w Y.K tg J fp it tn) (hex : Y.ex = fp) (ok : ItOk M J al S Y.H_0 ds) (hal : al S)
    (hg : ∀ pins τ H s, Inv Y pins τ H s → s.heap.IsGen a g) (hap : ∀ b ∈ fp, b ∉ Ss ∧ ∀ p ∈ Y.pn, p.1 ≠ b) (hLk : LkOk Ss Lk) (hl : fs.length = ds.length) (step : GxStep M Y elt tg ifs vs Γ S ds fs) (EΓ : Env M (wipe σ vs) Y.H_0 (wipeG Γ vs) S) :
    ∀ (k i : Nat) (s₀ s : Shared) (H : Hp) (ws : List V), ds.length - i = k → i ≤ ds.length → Inv Y [] (wipe σ vs) H s → Std Y Ss H s → tn i s.heap → (∀ b ∈ fp, H b = none) → EnvH M S H → Ext S Y.H_0 S H → RepL M.K S H (gxPre fs i) ws → Lk ws s.heap →
      Seg (model Y.prog Y.w) B (GxE M Y Ss Lk S (fs.filterMap id)) (GxP M Y Ss Lk S (fs.filterMap id) a g) (gxRem fs i).length s₀
        (.compLoop (.GeneratorExp elt [⟨tg, iter, ifs, 0⟩] scope pos) 0 (.ref it) .none Y.env)
        ((model Y.prog Y.w).den (.compLoop (.GeneratorExp elt [⟨tg, iter, ifs, 0⟩] scope pos) 0 (.ref it) .none Y.env)) [] s := by
  have hO : B.over (.compLoop (.GeneratorExp elt [⟨tg, iter, ifs, 0⟩] scope pos) 0 (.ref it) .none Y.env) [] = Y.A := gx_over.trans hA
  have fpk : ∀ {pins : List (Addr × Obj)} {τ : L2.St} {H : Hp} {s : Shared} {h0 : Heap}, Inv Y pins τ H s → (∀ b ∈ fp, H b = none) → ∀ b ∈ fp, FpOk Y ([] ++ pinsAt Ss h0) H b := fun {pins τ H s h0} I hn b hb =>
    ⟨hn b hb, (I.ok.exf b (by rw [hex]; exact hb)).1, I.ok.exfs b (by rw [hex]; exact hb), .inl (by rw [hex]; exact hb), fun x c e => (I.ok.exf b (by rw [hex]; exact hb)).2 x c e, fun p hp => by
      rcases List.mem_append.mp hp with z | z
      · exact (hap b hb).2 p z
      · intro e
        have q := (of_pinsAt (show p ∈ pinsAt Ss h0 by simpa using z)).1
        rw [e] at q
        exact (hap b hb).1 q⟩
  intro k
  induction k with
  | zero =>
    intro i s₀ s H ws hk hi I st ht hn E x r hw
    have hin : i = ds.length := by omega
    subst hin
    have P1 := gx_pin I o st
    show Seg _ B _ _ _ s₀ _ ((compTurn (.GeneratorExp elt [⟨tg, iter, ifs, 0⟩] scope pos) 0 (.ref it) .none Y.env).onRaise (leaving Y.env)) [] s
    rw [compTurn_gen, Sem.onRaise_eq_wrap]
    refine seg_bind_wrap (wpAny_standAt ?_)
    refine seg_bind_wrap ?_
    rw [hO]
    refine thnF (T.done Y rfl rfl rfl hc ds.length _ s _ H (fun _ _ => False) P1 (fpk I hn) ht (ok.stop S H E x hal)) fun q s1 ⟨hq, I1⟩ => ?_
    subst hq
    obtain ⟨st1, kp1⟩ := std_of (h0 := s.heap) (pins := []) (fun b hb => (st b hb).2.2) (by rw [List.append_nil]; exact I1)
    refine seg_end (.ok .next) (.inl ⟨.inr rfl, by rw [gxRem_end (by omega)]; rfl, ws, hLk ws _ _ (fun b hb => let ⟨ob, e, _⟩ := (st b hb).2.2; ⟨ob, e⟩) kp1 hw, ?_, gx_out I1 (fun b hb => (st1 b hb).1) E x ?_⟩)
    · rw [← r.length, gxPre_end (by omega)]
    · rw [← r.length, gx_takePre]; exact r
  | succ k ih =>
    intro i s₀ s H ws hk hi I st ht hn E x r hw
    have hlt : i < ds.length := by omega
    have hdi : ds[i]? = some ds[i] := List.getElem?_eq_getElem hlt
    have P1 := gx_pin I o st
    show Seg _ B _ _ _ s₀ _ ((compTurn (.GeneratorExp elt [⟨tg, iter, ifs, 0⟩] scope pos) 0 (.ref it) .none Y.env).onRaise (leaving Y.env)) [] s
    rw [compTurn_gen, Sem.onRaise_eq_wrap]
    refine seg_bind_wrap (wpAny_standAt ?_)
    refine seg_bind_wrap ?_
    rw [hO]
    refine thnF (T.item Y rfl rfl rfl hc i _ s _ H (fun _ _ => False) P1 (fpk I hn) ht (ok.go S H i E x hal hlt)) fun q s1 ⟨u, hq, h1⟩ => ?_
    subst hq
    refine seg_bind_wrap ?_
    rw [hO]
    refine thnF h1 fun _ s2 ⟨v, H2, I2, r2, y2, t2, n2⟩ => ?_
    obtain ⟨d, hd, E2, x2, rd⟩ := ok.yld S H i v H2 E x hal hlt y2
    rw [hdi] at hd
    cases hd
    have I2' := I2.pinned (fpk I2 n2) (T.obj _ _ t2)
    have Γ2 : Env M (wipe σ vs) H2 (wipeG Γ vs) S := EΓ.ext E2 (x.trans x2)
    refine seg_bind_wrap ?_
    rw [hO]
    refine wpAny_mono ((step i _ hdi (wipe σ vs) H2 v (fun σ3 H3 => ∃ Γ3, Env M σ3 H3 Γ3 S ∧ Ext S H2 S H3 ∧ wipe σ3 vs = wipe σ vs ∧ ATs M Y ifs Γ3 S (fun b S3 => S3 = S ∧ if b = true then AX M Y W0 elt Γ3 S (fun y S4 => S4 = S ∧ fs[i]? = some (some y)) Z0 else fs[i]? = some none)) Γ2 rd
      (fun Γ3 S3 σ3 H3 ⟨e3, h3⟩ E3 x3 w3 => by subst e3; exact ⟨Γ3, E3, x3, by rw [w3, wipe_idem], h3⟩)).run _ s2 u I2' r2) (fun _ s3 ⟨σ3, H3, I3, Γ3, E3, x3, w3, h3⟩ => ?_) fun e s' hx => by rw [hxe] at hx; exact hx.elim
    refine seg_bind_wrap ?_
    rw [hO]
    refine wpAny_mono ((h3 σ3 H3 (fun b H4 => EnvH M S H4 ∧ Ext S H3 S H4 ∧ if b = true then AX M Y W0 elt Γ3 S (fun y S4 => S4 = S ∧ fs[i]? = some (some y)) Z0 else fs[i]? = some none) E3 (fun b H4 S4 ⟨e4, h4⟩ E4 x4 => by subst e4; exact ⟨E4, x4, h4⟩)).run _ s3 I3) (fun b s4 ⟨H4, I4, E4, x4, h4⟩ => ?_) fun e s' hx => by rw [hxe] at hx; exact hx.elim
    -- what stands at a turn's end
    have fin : ∀ {H' : Hp} {s' : Shared}, Inv Y (([] ++ pinsAt Ss s.heap) ++ pinsAt fp s2.heap) σ3 H' s' → Inv Y [] (wipe σ vs) H' s' ∧ Std Y Ss H' s' ∧ tn (i + 1) s'.heap ∧ (∀ b ∈ fp, H' b = none) ∧ ∀ b ∈ Ss, ∀ o, s.heap.get? b = some o → s'.heap.get? b = some o := fun {H' s'} I' => by
      obtain ⟨st', kp'⟩ := std_of (h0 := s.heap) (fun b hb => (st b hb).2.2) I'
      have pin' : ∀ b ∈ fp, ∀ o, s2.heap.get? b = some o → s'.heap.get? b = some o ∧ H' b = none := fun b hb o e =>
        let z := I'.pin (b, o) (List.mem_append_right _ (List.mem_append_right _ (mem_pinsAt hb e)))
        ⟨z.1, z.2.1⟩
      have hl : (wipe σ vs).length = σ3.length := by rw [← w3, wipe_length]
      refine ⟨(I'.pins_of fun p hp => I'.pin p (List.mem_append_left _ (by simpa using hp))).weak hl (fun j v e => ?_), st', T.keep _ _ _ t2 fun b hb o e => (pin' b hb o e).1, fun b hb => ?_, kp'⟩
      · rw [← w3] at e
        exact (wipe_some e).1
      · obtain ⟨ob, e, _⟩ := T.obj _ _ t2 b hb
        exact (pin' b hb ob e).2
    have xa : Ext S H S H4 := (x2.trans x3).trans x4
    cases b with
    | false =>
      have h4 : fs[i]? = some none := h4
      obtain ⟨J1, J2, J3, J4, J5⟩ := fin I4
      rw [gxRem_none h4]
      simp only [Bool.false_eq_true, if_false]
      exact seg_again rfl (ih (i + 1) s₀ s4 H4 ws (by omega) hlt J1 J2 J3 J4 E4 (x.trans xa) (by rw [gxPre_none h4]; exact r.ext xa) (hLk ws _ _ (fun b hb => let ⟨ob, e, _⟩ := (st b hb).2.2; ⟨ob, e⟩) J5 hw))
    | true =>
      have h4 : AX M Y W0 elt Γ3 S (fun y S4 => S4 = S ∧ fs[i]? = some (some y)) Z0 := h4
      simp only [if_true]
      have hy : ∀ v, yieldOut Y.env v = yieldValue v := fun v => by simp only [yieldOut, hco, Bool.false_eq_true, if_false]
      simp only [hy]
      rw [Sem.bind_eq_wrap', Sem.bind_eq_wrap', Sem.wrap_wrap, Sem.wrap_wrap]
      refine seg_wrap ?_
      rw [hO]
      refine wpAny_mono ((h4 σ3 H4 (fun w H5 => EnvH M S H5 ∧ Ext S H4 S H5 ∧ ∃ y, Rep M.K S H5 y w ∧ fs[i]? = some (some y)) (E3.ext E4 x4) (fun w y H5 S5 ⟨e5, h5⟩ E5 x5 r5 => by subst e5; exact ⟨E5, x5, y, r5, h5⟩) (fun _ _ _ _ z => z.elim)).run _ s4 I4) (fun yv s5 ⟨w, H5, I5, r5, E5, x5, y, ry, hy5⟩ => ?_) fun e s' hx => by rw [hxe] at hx; exact hx.elim
      obtain ⟨J1, J2, J3, J4, J5⟩ := fin I5
      have xb : Ext S H S H5 := xa.trans x5
      have lw : Lk ws s5.heap := hLk ws _ _ (fun b hb => let ⟨ob, e, _⟩ := (st b hb).2.2; ⟨ob, e⟩) J5 hw
      have r6 : RepL M.K S H5 (gxPre fs (i + 1)) (ws ++ [w]) := by rw [gxPre_some hy5]; exact (r.ext xb).append (repL_cons ry repL_nil)
      rw [gxRem_some hy5, List.length_cons]
      have hlen : (gxRem fs (i + 1)).length + 1 + ws.length = (fs.filterMap id).length := by
        rw [gx_all fs i, List.length_append, gxRem_some hy5, List.length_cons, ← r.length]; omega
      refine seg_at (seg_yield rfl rfl rfl ⟨ws, w, r5, lw, hlen, hg _ _ _ _ I5, I5.nolimit, fun b hb => (J2 b hb).2.2, gx_out I5 (fun b hb => (J2 b hb).1) E5 (x.trans xb) ?_, fun s' z => ?_⟩)
      · have e1 : (ws ++ [w]).length = (gxPre fs (i + 1)).length := r6.length.symm
        rw [e1, gx_takePre]; exact r6
      · obtain ⟨K1, K2⟩ := gx_woken J1 o J2 z
        exact seg_again rfl (ih (i + 1) s' s' H5 (ws ++ [w]) (by omega) hlt K1 K2 (T.keep _ _ _ J3 fun b hb ob e => z.keep b ob (hap b hb).1 e) J4 E5 (x.trans xb) r6 (z.lk ws w r5 lw))
end
end QD
set_option maxHeartbeats 4000000
/-! The walk over data: generator expressions, 3: made, asked for the next. -/
namespace QD
open PySem PySem.Spec PyProof.Rows L2 GenW

section
variable {M : Mo} {Y : Cx} {B : Around} {Ss : List Addr} {Lk : List V → Heap → Prop} {S : Sto} {fs : List (Option D)} {ds : List D} {a it : Addr} {g : Nat} {elt tg iter : Expr} {ifs : List Expr} {scope : Scope} {pos : Pos} {J : It} {fp : List Addr} {tn : Nat → Heap → Prop} {al : Sto → Prop} {vs : List Nat} {Γ : Ga} {σ : L2.St}
theorem seg_gx0 (hA : B.deeper Y.env = Y.A) (hxe : Y.xe = fun _ _ => False) (hc : Y.calm = true) (hco : Y.env.scope.isCoroutine = false) (o : Own Y Ss) (T : Turn Y.prog Y.w Y.K tg J fp it tn) (hex : Y.ex = fp) (ok : ItOk M J al S Y.H_0 ds) (hal : al S)
    (hg : ∀ pins τ H s, Inv Y pins τ H s → s.heap.IsGen a g) (hap : ∀ b ∈ fp, b ∉ Ss ∧ ∀ p ∈ Y.pn, p.1 ≠ b) (hLk : LkOk Ss Lk) (hl : fs.length = ds.length) (step : GxStep M Y elt tg ifs vs Γ S ds fs) (EΓ : Env M (wipe σ vs) Y.H_0 (wipeG Γ vs) S)
    {s₀ s : Shared} (I : Inv Y [] (wipe σ vs) Y.H_0 s) (st : Std Y Ss Y.H_0 s) (ht : tn 0 s.heap) (hn : ∀ b ∈ fp, Y.H_0 b = none) (hw : Lk [] s.heap) :
      Seg (model Y.prog Y.w) B (GxE M Y Ss Lk S (fs.filterMap id)) (GxP M Y Ss Lk S (fs.filterMap id) a g) (fs.filterMap id).length s₀
        (.compStart (.GeneratorExp elt [⟨tg, iter, ifs, 0⟩] scope pos) 0 (.ref it) .none Y.env)
        ((model Y.prog Y.w).den (.compStart (.GeneratorExp elt [⟨tg, iter, ifs, 0⟩] scope pos) 0 (.ref it) .none Y.env)) [] s := by
  have loop := seg_gx (iter := iter) (scope := scope) (pos := pos) hA hxe hc hco o T hex ok hal hg hap hLk hl step EΓ ds.length 0 s₀ s Y.H_0 [] (Nat.sub_zero _) (Nat.zero_le _) I st ht hn EΓ.hp Ext.refl repL_nil hw
  have e : gxRem fs 0 = fs.filterMap id := rfl
  rw [e] at loop
  show Seg _ B _ _ _ s₀ _ ((compStart (.GeneratorExp elt [⟨tg, iter, ifs, 0⟩] scope pos) 0 (.ref it) .none Y.env).onRaise (leaving Y.env)) [] s
  unfold compStart
  rw [Sem.onRaise_eq_wrap]
  show Seg _ B _ _ _ s₀ _ ((ask >>= _).wrap _ _ _ _) [] s
  refine seg_bind_wrap (wpAny_askSetting ?_)
  split
  · exact seg_again rfl loop
  · first
      | exact seg_bind_wrap (wpAny_rule (seg_bind_wrap (wpAny_standAt (seg_bind_wrap (T.self _ 0 s _ _ ht (seg_again rfl loop))))))
      | (refine seg_bind_wrap (wpAny_rule ?_); show Seg _ B _ _ _ s₀ _ ((standAt iter.pos >>= _).wrap _ _ _ _) [] s; exact seg_bind_wrap (wpAny_standAt (seg_bind_wrap (T.self _ 0 s _ _ ht (seg_again rfl loop)))))
end

/-! ### the next -/
def Gz (Md : Model) (A : Around) (a : Addr) (Ss : List Addr) (Lk : List V → Heap → Prop) (N : Nat) (O : List V → Shared → Prop) : Nat → Shared → Prop
  | 0, s => wpAny Md A (pyNext (.ref a)) (fun r s' => r = none ∧ ∃ ws, Lk ws s'.heap ∧ ws.length = N ∧ O ws s') (fun _ _ => False) s
  | m + 1, s => wpAny Md A (pyNext (.ref a)) (fun r s' => ∃ v ws w, r = some v ∧ RelV w v ∧ Lk ws s'.heap ∧ m + 1 + ws.length = N ∧ O (ws ++ [w]) s' ∧ AllBare s'.gens ∧ (∀ b ∈ Ss, ∃ o, s'.heap.get? b = some o ∧ ∀ v, o.data ≠ .cell v) ∧
      ∀ s'', s''.gens = s'.gens → Woke Ss Lk v s' s'' → Gz Md A a Ss Lk N O m s'') (fun _ _ => False) s
/-- from a state the consumer can go on -/
def LkGo (Ss : List Addr) (Lk : List V → Heap → Prop) : Prop := ∀ ws v s, Lk ws s.heap → AllBare s.gens → (∀ b ∈ Ss, ∃ o, s.heap.get? b = some o ∧ ∀ v, o.data ≠ .cell v) → ∃ s', Woke Ss Lk v s s'
theorem Out.bare {M : Mo} {Y : Cx} {Ss : List Addr} {S : Sto} {ys : List D} {ws : List V} {s : Shared} (h : Out M Y Ss S ys ws s) (s' : Shared) (e1 : s'.heap = s.heap) (e2 : s'.os = s.os) (e3 : AllBare s'.gens) : Out M Y Ss S ys ws s' := by
  obtain ⟨H, q1, q2, q3, q4, q5⟩ := h
  exact ⟨H, by rw [e2]; exact q1, e3, by rw [e1]; exact q3, by rw [e1]; exact q4, q5⟩
theorem Out.kept {M : Mo} {Y : Cx} {Ss : List Addr} {S : Sto} {ys : List D} {ws : List V} {s : Shared} (h : Out M Y Ss S ys ws s) (s' : Shared) (e1 : ∀ b o, s.heap.get? b = some o → s'.heap.get? b = some o) (e2 : s'.os = s.os) (e3 : AllBare s'.gens) : Out M Y Ss S ys ws s' := by
  obtain ⟨H, q1, q2, q3, q4, q5⟩ := h
  exact ⟨H, by rw [e2]; exact q1, e3, q3.trans (Un.kept e1), q4.kept e1, q5⟩
theorem gz_of {M : Mo} {Y : Cx} {A : Around} {Ss : List Addr} {Lk : List V → Heap → Prop} {S : Sto} {ys : List D} {a : Addr} {g : Nat} (hh : A.handled = none) (hd : A.depth < recursionLimit) (hLk : LkOk Ss Lk) (hGo : LkGo Ss Lk) (haS : a ∉ Ss) (hcS : cStatics ∉ Ss)
    (hs : ∀ ws (h : Heap), Lk ws h → ∀ b ∈ Ss, ∃ o, h.get? b = some o) :
    ∀ (m : Nat) (s : Shared), s.heap.IsGen a g → s.heap.NoLimit → (∃ gs, s.gens[g]? = some gs ∧ gs.Goes (model Y.prog Y.w) A.in1 (GxE M Y Ss Lk S ys) (GxP M Y Ss Lk S ys a g) m (.send .none) (s.setGen g .running)) →
      Gz (model Y.prog Y.w) A a Ss Lk ys.length (Out M Y Ss S ys) m s := by
  intro m
  induction m with
  | zero =>
    intro s hg hl ⟨gs, hgs, hgo⟩
    unfold Gz
    refine next_genG (F := GxF M Y Ss Lk S ys) (Er := fun _ _ => False) hh hl hd hg hgs hgo (fun v s₁ gs' hbare hv => ?_) (fun s₁ hp h' hk => ?_) fun e s₁ he => he.elim
    · obtain ⟨ws, w, q1, q2, q3, q4, q5, q6, q7, q8⟩ := hv
      obtain ⟨_, _, hb, _⟩ := id q7
      obtain ⟨s', z⟩ := hGo ws v s₁ q2 hb q6
      exact (q8 s' z).elim
    · obtain ⟨_, ws, q1, q2, q3⟩ := hp
      obtain ⟨_, _, hb, _⟩ := id q3
      refine ⟨rfl, ws, hLk ws _ _ (hs ws _ q1) (fun b _ o e => hk b o e) q1, q2, q3.kept _ hk rfl ?_⟩
      exact allBare_setGen hb rfl
  | succ m ih =>
    intro s hg hl ⟨gs, hgs, hgo⟩
    have hgl : g < s.gens.size := (Array.getElem?_eq_some_iff.mp hgs).1
    unfold Gz
    refine wpAny_gsz (n := g + 1) hgl (next_genG (F := GxF M Y Ss Lk S ys) (Er := fun _ _ => False) hh hl hd hg hgs hgo (fun v s₁ gs' hbare hv => ?_) (fun s₁ hp h' hk => ?_) fun e s₁ he => he.elim)
    · intro hsz
      obtain ⟨ws, w, q1, q2, q3, q4, q5, q6, q7, q8⟩ := hv
      obtain ⟨_, _, hb, _⟩ := id q7
      have hb' : AllBare (s₁.setGen g gs').gens := allBare_setGen hb hbare
      refine ⟨v, ws, w, rfl, q1, q2, q3, q7.bare (s₁.setGen g gs') rfl rfl hb', hb', q6, fun s'' hge z => ?_⟩
      have hsz1 : g < s₁.gens.size := by
        have q : (s₁.setGen g gs').gens.size = s₁.gens.size := setGen_size _ _ _
        have hsz' : g + 1 ≤ (s₁.setGen g gs').gens.size := hsz
        omega
      refine ih s'' ?_ ?_ ⟨gs', by rw [hge]; exact setGen_at hsz1, ?_⟩
      · obtain ⟨o, nm, qn, ho, r⟩ := q4
        exact ⟨o, nm, qn, z.keep a o haS ho, r⟩
      · obtain ⟨mc, hns, hnn⟩ := q5
        exact ⟨mc, hns.at' fun o e => z.keep _ o hcS e, hnn⟩
      · exact q8 _ ⟨z.os, allBare_setGen z.bare rfl, z.keep, z.obj, z.lk⟩
    · exact absurd hp.1 (Nat.succ_ne_zero m)

/-! ### made -/
theorem EnvH.tab {M : Mo} {S : Sto} {H : Hp} {P : Addr} {ps more : Array Value} (E : EnvH M S H) (hP : H P = some (.tbl ps)) (ht : TriplesOk (ps ++ more).toList) (hl : ∀ q ∈ M.tl, q.1 ≠ P) : EnvH M S (upd H P (.tbl (ps ++ more))) where
  cell := fun a c e => by
    obtain ⟨u, h1, h2⟩ := E.cell a c e
    have ne : a ≠ P := fun z => by
      rw [z, hP] at h1
      cases h1
      have := h2.noTb
      cases this
    refine ⟨u, by rw [upd_ne ne]; exact h1, h2.ext fun b w hs hw hb => ⟨hs, .inl ?_⟩⟩
    have nb : b ≠ P := fun z => by
      rw [z, hP] at hw
      cases hw
      cases hb
    rw [upd_ne nb]; exact hw
  tg := fun Q hQ => by
    by_cases e : Q = P
    · rw [e]; exact ⟨_, upd_same, ht⟩
    · obtain ⟨ps', h1, h2⟩ := E.tg Q hQ
      exact ⟨ps', by rw [upd_ne e]; exact h1, h2⟩
  tl := fun q hq => by
    obtain ⟨ps', h1, h3, h4⟩ := E.tl q hq
    refine ⟨ps', by rw [upd_ne (hl q hq)]; exact h1, h3, fun pos cv hc => ?_⟩
    obtain ⟨c, e1, e2⟩ := h4 pos cv hc
    have e' : c ≠ P := fun z => by
      rw [z, hP] at e2
      cases e2
    exact ⟨c, e1, by rw [upd_ne e']; exact e2⟩
theorem Ext.tab {S : Sto} {H : Hp} {P : Addr} {ps more : Array Value} (hP : H P = some (.tbl ps)) : Ext S H S (upd H P (.tbl (ps ++ more))) := fun b w hs hw hb => ⟨hs, .inl (by
  have nb : b ≠ P := fun z => by
    rw [z, hP] at hw
    cases hw
    cases hb
  rw [upd_ne nb]; exact hw)⟩
/-- the running def's code object has a table that generator expressions go into -/
structure XG (F : Fix) (X : Cx) : Prop where
  ex : ∃ c P, X.env.code = .ref c ∧ GxR.TabB F.base F.mg c P ∧ P ∈ F.M.tg ∧ ∀ q ∈ F.M.tl, q.1 ≠ P
/-- the contexts of a generator expression's turns -/
def IsGx (X : Cx) (k : Nat) (scope : Scope) (Y : Cx) : Prop := ∃ B s H code fp pn, Y = gxCx X B s H scope code fp pn ∧ Room k (B.deeper (gxEnv X scope s.heap.objs.size code))
theorem XC.isgx {F : Fix} {N : List Str} {sc scope : Scope} {k j : Nat} {X Y : Cx} {W : WX} (c : XC F N sc k X W) (h : IsGx X j scope Y) : XC F N scope j Y W0 := by
  obtain ⟨B, s, H, code, fp, pn, rfl, hr⟩ := h
  exact ⟨c.hP, c.hw, c.hK, c.hm, c.hb, c.hN, c.nd, rfl, rfl, hr, takes0, PassesOwn.never⟩
/-- where a consumer stands -/
structure Near (X : Cx) (A : Around) : Prop where
  hd : A.handled = none
  dp : A.depth = X.A.depth
  un : A.units ≤ X.A.units + 12
  fr : A.frames = some X.stack
theorem Near.room {X : Cx} {A : Around} {k : Nat} (n : Near X A) (r : Room (k + 1) X.A) (env : PySem.Env) : Room k (A.in1.deeper env) :=
  ⟨n.hd, by have := r.dp; have := n.dp; show A.depth + 1 + 3 * k + 5 < _; omega, by have := r.un; have := n.un; show A.units + 1 + 3 + 16 * k + 200 < _; omega⟩
/-- behind the walk, in the def's context -/
def OutX (F : Fix) (X : Cx) (pins : List (Addr × Obj)) (σ : L2.St) (Ss : List Addr) (S : Sto) (H1 : Hp) (ys : List D) (ws : List V) (s : Shared) : Prop :=
  ∃ H, Inv X pins σ H s ∧ EnvH F.M S H ∧ Ext S H1 S H ∧ RepL F.M.K S H (ys.take ws.length) ws ∧ ∀ b ∈ Ss, H b = none
/-- a generator at a that will hand out ys -/
def Made (F : Fix) (X : Cx) (pins : List (Addr × Obj)) (σ : L2.St) (S : Sto) (H1 : Hp) (ys : List D) (a : Addr) (s5 : Shared) : Prop :=
  (∃ g, s5.heap.IsGen a g) ∧ AllBare s5.gens ∧ a < s5.heap.objs.size ∧ cStatics < s5.heap.objs.size ∧ OutX F X pins σ [] S H1 ys [] s5 ∧
  ∀ (A : Around) (Ss : List Addr) (Lk : List V → Heap → Prop) (s6 : Shared), Near X A → (∀ b ∈ Ss, s5.heap.objs.size ≤ b) → LkOk Ss Lk → LkGo Ss Lk → (∀ ws (h : Heap), Lk ws h → ∀ b ∈ Ss, ∃ o, h.get? b = some o) →
    s6.os = s5.os → s6.gens = s5.gens → (∀ b o, s5.heap.get? b = some o → s6.heap.get? b = some o) → (∀ b ∈ Ss, ∃ o, s6.heap.get? b = some o ∧ ∀ v, o.data ≠ .cell v) → Lk [] s6.heap →
    Gz (model X.prog X.w) A a Ss Lk ys.length (OutX F X pins σ Ss S H1 ys) ys.length s6
theorem gz_mono {Md : Model} {A : Around} {a : Addr} {Ss : List Addr} {Lk : List V → Heap → Prop} {N : Nat} {O O' : List V → Shared → Prop} (h : ∀ ws s, O ws s → O' ws s) : ∀ (m : Nat) (s : Shared), Gz Md A a Ss Lk N O m s → Gz Md A a Ss Lk N O' m s
  | 0, s, g => by
    unfold Gz at g ⊢
    exact wpAny_mono g (fun r s' ⟨h1, ws, h2, h3, h4⟩ => ⟨h1, ws, h2, h3, h ws s' h4⟩) fun _ _ z => z
  | m + 1, s, g => by
    unfold Gz at g ⊢
    exact wpAny_mono g (fun r s' ⟨v, ws, w, h1, h2, h3, h4, h5, h6, h7, h8⟩ => ⟨v, ws, w, h1, h2, h3, h4, h _ s' h5, h6, h7, fun s'' e z => gz_mono h m s'' (h8 s'' e z)⟩) fun _ _ z => z
end QD
set_option maxHeartbeats 4000000
/-! The walk over data: generator expressions, 4: the making. -/
namespace QD
open PySem PySem.Spec PyProof.Rows L2 GenW

section
variable {F : Fix} {N : List Str} {sc : Scope} {k : Nat} {X : Cx} {W : WX} {Γ : Ga} {S : Sto} {Z : ZK} {it elt tg : Expr} {ifs : List Expr} {scope : Scope} {gpos : Pos} {pins : List (Addr × Obj)} {σ : L2.St} {H : Hp} {s : Shared}
/-- what is asked of a generator expression: its items, its turns, what follows when it has been walked -/
def GxQ (F : Fix) (X : Cx) (k : Nat) (elt tg : Expr) (ifs : List Expr) (scope : Scope) (own : List (Str × Nat)) (Γ : Ga) (R : List D → Sto → Prop) (ds : List D) (al : Sto → Prop) (S1 : Sto) : Prop :=
  al S1 ∧ ∃ fs : List (Option D), fs.length = ds.length ∧ (∀ Y, IsGx X k scope Y → GxStep F.M Y elt tg ifs (own.map (·.2)) Γ S1 ds fs) ∧ R (fs.filterMap id) S1
theorem gx_make (c : XC F N sc (k + 1) X W) (G : XG F X) (own : List (Str × Nat)) (ok : gxC N sc scope own = true) {R : List D → Sto → Prop} {Q' : Value → Shared → Prop} (I : Inv X pins σ H s) (E : Env F.M σ H Γ S) (z : ZQ F.M S H Z W)
    (h : AI F.M X W tg it Γ S (GxQ F X k elt tg ifs scope own Γ R) Z) (hs : ∀ v, genFold it X.env v = pure v)
    (hQ : ∀ ys S1 H1 a s5, R ys S1 → Ext S H S1 H1 → Made F X pins σ S1 H1 ys a s5 → Q' (.ref a) s5) :
    wpAny (model X.prog X.w) X.A (eval (.GeneratorExp elt [⟨tg, it, ifs, 0⟩] scope gpos) X.env) Q' X.xe s := by
  have hN : X.N.Nodup := by rw [c.hN]; exact c.nd
  have ok : GxOk X.N X.env.scope scope own := by rw [c.hN, c.hs]; exact gxOk_by ok
  obtain ⟨cc, P, hcode, TB, hPt, hPl⟩ := G.ex
  have hfree : ∀ y ∈ scope.names, y.2 = .free → ∃ c, X.env.cells.lookup y.1 = some c := fun y hy e => by
    rcases ok.free y hy e with k | k
    · exact I.ok.has _ (.inl k)
    · exact I.ok.has _ (.inr k)
  rw [← c.hb, ← c.hm] at TB
  refine wpAny_GeneratorExp_make ok.co (closure_ok hfree) ok.nocell ok.dot ok.kind (by have := c.room.dp; omega) ?_ hs
  refine wpAny_mono ((h σ H (fun J H1 => ∃ S1 ds al, GxQ F X k elt tg ifs scope own Γ R ds al S1 ∧ EnvH F.M S1 H1 ∧ Ext S H S1 H1 ∧ ItOk F.M J al S1 H1 ds) E (fun J H1 S1 ds al q E1 x1 o1 => ⟨S1, ds, al, q, E1, x1, o1⟩) z).run pins s I) (fun xv s0 hx => wpAny_mono hx (fun itv s1 h1 => ?_) fun _ _ e => e) fun _ _ e => e
  obtain ⟨itA, fp, tn, J, H1, rfl, I1, T, st1, f1, S1, ds, al, ⟨hal, fs, hfl, step, hR⟩, E1, x1, okI⟩ := h1
  obtain ⟨ps, hP, ht⟩ := E1.tg P hPt
  have hPs : s1.heap.get? P = some { cls := .none, data := .fields ps } := I1.hok P _ hP
  have hPlt : P < s1.heap.objs.size := Heap.lt_size hPs
  have cd : PySem.W.CodeHd s1.heap cc P := TB.code.keeps I1.bk
  refine ⟨I1.nolimit, ?_⟩
  have szfp : ∀ b ∈ fp, b < s1.heap.objs.size := fun b hb => by
    obtain ⟨o, e, _⟩ := T.obj _ _ st1 b hb
    exact Heap.lt_size e
  have cont : ∀ (code : Value) (h3 : Heap) (tk : Nat) (more : Array Value), Heap.ExtBut P s1.heap h3 → s1.heap.objs.size ≤ h3.objs.size → h3.get? P = some { cls := .none, data := .fields (ps ++ more) } → TriplesOk (ps ++ more).toList →
      wpAny (model X.prog X.w) X.A (builtinsFor X.env.globals X.env.builtins) (fun bi s₄ =>
        ∀ h', h'.Ns s₄.heap.objs.size (fun y => if y = ".0" then some (.ref itA) else none) → Heap.SameBut s₄.heap.objs.size (s₄.heap.push { cls := .type "frame", data := .dict #[] }) h' →
          Q' (.ref h'.objs.size) { s₄ with
            gens := s₄.gens.push (.fresh (.compStart (.GeneratorExp elt [⟨tg, it, ifs, 0⟩] scope gpos) 0 (.ref itA) .none (genEnv scope (cloFrom X.env.cells scope.names []) s₄.heap.objs.size code bi X.env))),
            toks := s₄.toks + 1 + 1 + 1,
            heap := h'.push { cls := .type "generator", data := .fields #[.int s₄.gens.size 0, .str "<genexpr>" (s₄.toks + 1), .str (X.env.qual ++ "<genexpr>") (s₄.toks + 1 + 1)] } }) X.xe { s1 with heap := h3, toks := tk } := by
    intro code h3 tk more hx hsz hP3 ht3
    obtain ⟨bm, ob, e1, e2, e3, e4, e5, e6, e7, e8⟩ := TB.bm
    have keep3 : ∀ b u, b ≠ P → s1.heap.get? b = some u → h3.get? b = some u := fun b u hb e => hx b u hb e
    refine wpAny_builtinsFor (m := X.mg) (by rw [I1.ok.glob]; exact (I1.mod.glob.keeps I1.bk).extBut hx TB.gP) e1 e2 (keep3 _ _ e4 (I1.bk _ _ e5)) e6 e7 e8 ?_
    intro h' hns hsb
    have I3 : Inv X pins σ (upd H1 P (.tbl (ps ++ more))) { s1 with heap := h3, toks := tk } := GxR.inv_tab (g' := s1.gens) (d' := s1.drawn) I1 hP keep3 hP3 I1.bare
    have E3 : EnvH F.M S1 (upd H1 P (.tbl (ps ++ more))) := E1.tab hP ht3 hPl
    have x3 : Ext S1 H1 S1 (upd H1 P (.tbl (ps ++ more))) := Ext.tab hP
    generalize hH3 : upd H1 P (.tbl (ps ++ more)) = H3 at I3 E3 x3
    generalize hs3 : ({ s1 with heap := h3, toks := tk } : Shared) = s3 at I3
    have es3 : s3.heap = h3 := by rw [← hs3]
    have eg3 : s3.gens = s1.gens := by rw [← hs3]
    have et3 : s3.toks = tk := by rw [← hs3]
    have eo3 : s3.os = s1.os := by rw [← hs3]
    have f3 : ∀ b ∈ fp, FpOk X pins H3 b ∧ b < s3.heap.objs.size := fun b hb => by
      have nb : b ≠ P := fun z => by
        have := (f1 b hb).1
        rw [z, hP] at this
        cases this
      exact ⟨⟨by rw [← hH3, upd_ne nb]; exact (f1 b hb).1, (f1 b hb).2⟩, by rw [es3]; exact Nat.lt_of_lt_of_le (szfp b hb) hsz⟩
    have hns : h'.Ns s3.heap.objs.size (fun y => if y = ".0" then some (.ref itA) else none) := by rw [es3]; exact hns
    have hsb : Heap.SameBut s3.heap.objs.size (s3.heap.push { cls := .type "frame", data := .dict #[] }) h' := by rw [es3]; exact hsb
    have kp' : ∀ b o, s3.heap.get? b = some o → h'.get? b = some o := fun b o e => hsb.extBut b o (Nat.ne_of_lt (Heap.lt_size e)) (Heap.get?_push_of_some _ e)
    generalize hgo : ({ cls := .type "generator", data := .fields #[.int s3.gens.size 0, .str "<genexpr>" (s3.toks + 1), .str (X.env.qual ++ "<genexpr>") (s3.toks + 1 + 1)] } : Obj) = go
    have goc : go.cls = .type "generator" := by rw [← hgo]
    have god : go.data = .fields #[.int s3.gens.size 0, .str "<genexpr>" (s3.toks + 1), .str (X.env.qual ++ "<genexpr>") (s3.toks + 1 + 1)] := by rw [← hgo]
    have gos : go.slots = #[] := by rw [← hgo]
    have gop : (h'.push go).get? h'.objs.size = some go := Heap.get?_push_size _ (by rw [← hgo]; rfl)
    have hlt' : s3.heap.objs.size < h'.objs.size := hns.lt
    have kp5 : ∀ b o, s3.heap.get? b = some o → (h'.push go).get? b = some o := fun b o e => Heap.get?_push_of_some _ (kp' b o e)
    have hgen : ∀ h : Heap, h.get? h'.objs.size = some go → h.IsGen h'.objs.size s3.gens.size := fun h e => ⟨go, _, _, e, goc, god, gos⟩
    have hgd : ∀ v, go.data ≠ .cell v := fun v q => by rw [god] at q; cases q
    have bare5 : ∀ c0, AllBare (s3.gens.push (.fresh c0)) := fun c0 => I3.bare.push rfl
    have hP3' : s3.heap.objs.size ≤ h'.objs.size := Nat.le_of_lt hlt'
    generalize hs5 : ({ s3 with gens := s3.gens.push (.fresh (.compStart (.GeneratorExp elt [⟨tg, it, ifs, 0⟩] scope gpos) 0 (.ref itA) .none (genEnv scope (cloFrom X.env.cells scope.names []) s3.heap.objs.size code builtinsNs X.env))), toks := s3.toks + 1 + 1 + 1, heap := h'.push go } : Shared) = s5
    have e5h : s5.heap = h'.push go := by rw [← hs5]
    have e5g : s5.gens = s3.gens.push (.fresh (.compStart (.GeneratorExp elt [⟨tg, it, ifs, 0⟩] scope gpos) 0 (.ref itA) .none (gxEnv X scope s3.heap.objs.size code))) := by rw [← hs5]
    have e5o : s5.os = s3.os := by rw [← hs5]
    have sz5 : s5.heap.objs.size = h'.objs.size + 1 := by rw [e5h, Heap.size_push]
    have clt : cStatics < s3.heap.objs.size := let ⟨_, hn, _⟩ := I3.nolimit; hn.lt
    have I5 : Inv X pins σ H3 s5 := I3.call' (ch := []) e5o (Un.kept (by rw [e5h]; exact kp5)) (I3.hok.kept (by rw [e5h]; exact kp5)) (by rw [e5g]; exact bare5 _) fun b z => by simp at z
    refine hQ (fs.filterMap id) S1 H1 h'.objs.size s5 hR x1 ⟨⟨_, hgen _ (by rw [e5h]; exact gop)⟩, by rw [e5g]; exact bare5 _, by rw [sz5]; exact Nat.lt_succ_self _, by rw [sz5]; exact Nat.lt_trans clt (Nat.lt_trans hlt' (Nat.lt_succ_self _)), ⟨H3, I5, E3, x3, repL_nil, fun b hb => by simp at hb⟩, ?_⟩
    intro A Ss Lk s6 near hyo hLk hGo hLs ho6 hg6 hk6 hob6 hlk6
    have k36 : ∀ b o, s3.heap.get? b = some o → s6.heap.get? b = some o := fun b o e => hk6 b o (by rw [e5h]; exact kp5 b o e)
    have go6 : s6.heap.get? h'.objs.size = some go := hk6 _ _ (by rw [e5h]; exact gop)
    have SsUp : ∀ b ∈ Ss, h'.objs.size < b := fun b hb => by have := hyo b hb; rw [sz5] at this; exact this
    have bare6 : AllBare s6.gens := by rw [hg6, e5g]; exact bare5 _
    have Iy : Inv (gxCx X A.in1 s3 H3 scope code fp [(h'.objs.size, go)]) [] (wipe σ (own.map (·.2))) H3 s6 :=
      gx_start (m := fun y => if y = ".0" then some (.ref itA) else none) I3 ok hN f3 near.hd near.fr k36 (ho6.trans e5o) bare6 (hns.at' fun o e => hk6 _ o (by rw [e5h]; exact Heap.get?_push_of_some _ e)) fun p hp => by
        have : p = (h'.objs.size, go) := by simpa using hp
        subst this
        exact ⟨go6, hlt', hgd⟩
    have yng : ∀ b ∈ Ss, H3 b = none ∧ b ≠ s3.heap.objs.size ∧ b ∉ frs X.stack ∧ s3.heap.objs.size ≤ b := fun b hb => by
      obtain ⟨y1, y2, y3, y4, _⟩ := gx_young (scope := scope) I3 (Nat.lt_trans hlt' (SsUp b hb))
      exact ⟨y1, y2, y3, y4⟩
    have own' : Own (gxCx X A.in1 s3 H3 scope code fp [(h'.objs.size, go)]) Ss := ⟨fun b hb => (yng b hb).2.2.2, fun b hb => (yng b hb).2.1, fun b hb x cx e z => by
        obtain ⟨v, q⟩ := Iy.cell x cx e
        have h9 : Iy.base.keep = Iy.base.keep := rfl
        have hcl : cx < s3.heap.objs.size := by
          rcases cloFrom_mem (PySem.mem_of_lookup (show (cloFrom X.env.cells scope.names []).lookup x = some cx from e)) with hm | ⟨g1, g2⟩
          · cases hm
          · obtain ⟨c1, hc1⟩ := hfree _ g1 rfl
            have hc1 : X.env.cells.lookup x = some c1 := hc1
            have e2 : cx = c1 := by rw [g2, hc1] <;> rfl
            rw [e2]
            obtain ⟨v, q⟩ := I3.cell x c1 hc1
            exact q.lt
        rw [z] at hcl
        exact absurd (Nat.lt_of_lt_of_le hcl (yng b hb).2.2.2) (Nat.lt_irrefl _),
      fun b hb p hp => by
        have : p = (h'.objs.size, go) := List.mem_singleton.mp hp
        subst this
        exact Nat.ne_of_lt (SsUp b hb)⟩
    have std' : Std (gxCx X A.in1 s3 H3 scope code fp [(h'.objs.size, go)]) Ss H3 s6 := fun b hb => ⟨(yng b hb).1, (yng b hb).2.2.1, hob6 b hb⟩
    have Ew : Env F.M (wipe σ (own.map (·.2))) H3 (wipeG Γ (own.map (·.2))) S1 := ((E.wipe _).ext E1 x1).ext E3 x3
    have okI3 : ItOk F.M J al S1 H3 ds := ⟨fun S' H' i e x => okI.go S' H' i e (x3.trans x), fun S' H' i v H'' e x => okI.yld S' H' i v H'' e (x3.trans x), fun S' H' e x => okI.stop S' H' e (x3.trans x)⟩
    have t6 : tn 0 s6.heap := T.keep _ _ _ st1 fun b hb o e => k36 b o (by
      rw [es3]
      have nb : b ≠ P := fun z => by
        have := (f1 b hb).1
        rw [z, hP] at this
        cases this
      exact keep3 b o nb e)
    have isg : ∀ {gs' : List (Addr × Obj)} {τ : L2.St} {Hh : Hp} {sh : Shared}, Inv (gxCx X A.in1 s3 H3 scope code fp [(h'.objs.size, go)]) gs' τ Hh sh → sh.heap.IsGen h'.objs.size s3.gens.size := fun {gs' τ Hh sh} J' =>
      hgen _ (J'.pin (h'.objs.size, go) (List.mem_append_left _ (List.mem_singleton.mpr rfl))).1
    have Ir : Inv (gxCx X A.in1 s3 H3 scope code fp [(h'.objs.size, go)]) [] (wipe σ (own.map (·.2))) H3 (s6.setGen s3.gens.size .running) :=
      ⟨Iy.ok, Iy.os, allBare_setGen bare6 rfl, Iy.base, Iy.loc, Iy.cell, Iy.free, Iy.freeC, Iy.pin, Iy.hok, Iy.len⟩
    have seg := seg_gx0 (M := F.M) (Y := gxCx X A.in1 s3 H3 scope code fp [(h'.objs.size, go)]) (B := A.in1) (Ss := Ss) (Lk := Lk) (S := S1) (fs := fs) (ds := ds) (a := h'.objs.size) (g := s3.gens.size) (elt := elt) (tg := tg) (iter := it) (ifs := ifs) (scope := scope) (pos := gpos) (vs := own.map (·.2)) (Γ := Γ) (σ := σ)
      (s₀ := s6.setGen s3.gens.size .running) (s := s6.setGen s3.gens.size .running) rfl rfl rfl ok.co own' T rfl okI3 hal (fun pins' τ Hh sh J' => isg J') (fun b hb => ⟨fun z => absurd (Nat.lt_trans (f3 b hb).2 (Nat.lt_trans hlt' (SsUp b z))) (Nat.lt_irrefl _), fun p hp => by
        have : p = (h'.objs.size, go) := List.mem_singleton.mp hp
        subst this
        exact Nat.ne_of_gt (Nat.lt_trans (f3 b hb).2 hlt')⟩) hLk hfl (step _ ⟨A.in1, s3, H3, code, fp, [(h'.objs.size, go)], rfl, near.room c.room _⟩) Ew Ir std' t6 (fun b hb => (f3 b hb).1.1) hlk6
    have gz := gz_of (M := F.M) (Y := gxCx X A.in1 s3 H3 scope code fp [(h'.objs.size, go)]) (A := A) (Ss := Ss) (Lk := Lk) (S := S1) (ys := fs.filterMap id) (a := h'.objs.size) (g := s3.gens.size) near.hd (by have := c.room.dp; have := near.dp; omega) hLk hGo
      (fun z => absurd (SsUp _ z) (Nat.lt_irrefl _)) (fun z => absurd (Nat.lt_trans clt (Nat.lt_trans hlt' (SsUp _ z))) (Nat.lt_irrefl _)) hLs (fs.filterMap id).length s6 (hgen _ go6) Iy.nolimit
      ⟨.fresh _, by rw [hg6, e5g]; exact Array.getElem?_push_size .., And.intro rfl seg⟩
    refine gz_mono (fun ws s' ho => ?_) _ _ gz
    obtain ⟨Hq, q1, q2, q3, q4, q5, q6, q7, q8⟩ := ho
    exact ⟨Hq, I3.call' (ch := fp) q1 q3 q4 q2 fun b hb => ⟨(f3 b hb).1.2.2.2.1, (f3 b hb).1.2.1, (f3 b hb).1.2.2.2.2.1, (f3 b hb).1.2.2.2.2.2⟩, q6, x3.trans q7, q8, q5⟩
  cases hf : codeAmong gpos ps.toList with
  | none =>
    refine wpAny_genexprCodeX hcode (cd.code hPs ht) (cd.tab hPs) hf fun c' h' tk hx hge hlt hco' _ htab' _ => ?_
    obtain ⟨o1, vs, f1, tf, fl, tg, inF, tx, tt, op, _, _, _, _, _, _, _, _, _, htr, _⟩ := hco'
    exact cont _ h' tk _ hx (Nat.le_trans hge (Nat.le_of_lt hlt)) htab'.2 htr
  | some cv =>
    refine wpAny_genexprCode_hit hcode (cd.code hPs ht) hf ?_
    have := cont cv s1.heap s1.toks #[] (Heap.ExtBut.refl _ _) (Nat.le_refl _) (by simpa using hPs) (by simpa using ht)
    exact this
end
end QD
set_option maxHeartbeats 4000000
/-! The walk over data: generator expressions, 5: any, sum, tuple. -/
namespace QD
open PySem PySem.Spec PyProof.Rows L2 GenW

section
variable {P : Program} {w : World} {A : Around} {a : Addr} {N : Nat} {O : List V → Shared → Prop} {R : Result → Shared → Prop}
theorem lkT (s : Shared) (v : Value) (hb : AllBare s.gens) : Woke [] (fun _ _ => True) v s s := ⟨rfl, hb, fun _ _ _ e => e, fun b hb => by simp at hb, fun _ _ _ _ => trivial⟩
theorem any_gz (tr : Nat → Bool) (hO : ∀ ws x s, O (ws ++ [x]) s → ws.length < N → x = .bl (tr ws.length)) : ∀ (m : Nat) (s : Shared), m ≤ N → Gz (model P w) A.in1 a [] (fun _ _ => True) N O m s →
    (∀ ws s', O ws s' → R (.ok (.ret (.bool (((List.range N).drop (N - m)).any tr)))) s') → codeAny (model P w) A (.builtin "any.loop" ⟨[.ref a], []⟩) R s := by
  intro m
  induction m with
  | zero =>
    intro s hm hz hR
    unfold Gz at hz
    refine codeAny_builtin F.entry_any_loop ?_
    rw [Around.under_plainId F.plain_any_loop _]
    show wpAny _ A.in1 (pyNext (.ref a) >>= _) _ _ s
    refine wpAny_bind (thnF hz fun r s' ⟨hr, ws, _, _, ho⟩ => ?_)
    subst hr
    refine wpAny_bind (wpAny_rule (wpAny_pure ?_))
    have := hR ws s' ho
    rw [List.drop_of_length_le (by simp)] at this
    exact this
  | succ m ih =>
    intro s hm hz hR
    unfold Gz at hz
    have hd : (List.range N).drop (N - (m + 1)) = (N - (m + 1)) :: (List.range N).drop (N - m) := by
      have e : N - m = N - (m + 1) + 1 := by omega
      rw [List.drop_eq_getElem_cons (by rw [List.length_range]; omega), e]; simp
    refine codeAny_builtin F.entry_any_loop ?_
    rw [Around.under_plainId F.plain_any_loop _]
    show wpAny _ A.in1 (pyNext (.ref a) >>= _) _ _ s
    refine wpAny_bind (thnF hz fun r s' ⟨v, ws, x, hr, rv, _, hl, ho, hb, _, go⟩ => ?_)
    subst hr
    have ei : ws.length = N - (m + 1) := by omega
    have ex := hO ws x s' ho (by omega)
    subst ex
    obtain rfl : v = Value.bool (tr ws.length) := rv
    refine wpAny_bind (wpAny_holding (wpAny_truthy_bool ?_))
    refine wpAny_bind (wpAny_letGo ?_)
    cases hbt : tr ws.length with
    | false =>
      simp only [Bool.false_eq_true, if_false]
      refine wpAny_pure ⟨plainId_quiet F.plain_any_loop _, ih s' (by omega) (go s' rfl (lkT s' _ hb)) fun ws' s'' ho' => ?_⟩
      have := hR ws' s'' ho'
      rw [hd, List.any_cons, ← ei, hbt, Bool.false_or] at this
      exact this
    | true =>
      simp only [if_true]
      refine wpAny_bind (wpAny_rule (wpAny_pure ?_))
      have := hR _ s' ho
      rw [hd, List.any_cons, ← ei, hbt, Bool.true_or] at this
      exact this
/-- the list that a consumer keeps its sum in -/
abbrev sumObj (i : Int) (t : Tok) (c : Nat) : Obj := { cls := .type "list", dict := none, data := .seq #[.int i t] c, slots := #[] }
def vI : V → Int
  | .int i => i
  | _ => 0
def isum (ws : List V) : Int := (ws.map vI).sum
theorem isum_snoc (ws : List V) (x : V) : isum (ws ++ [x]) = isum ws + vI x := by
  unfold isum
  rw [List.map_append, List.sum_append]
  simp
def LkS (S : Addr) : List V → Heap → Prop := fun ws h => ∃ t c, h.get? S = some (sumObj (isum ws) t c)
theorem lkS_ok (S : Addr) : LkOk [S] (LkS S) := fun ws h h' _ k ⟨t, c, e⟩ => ⟨t, c, k S (by simp) _ e⟩
theorem lkS_push {S : Addr} {s : Shared} {ws : List V} {t t2 : Tok} {c tk : Nat} {v : Value} {y : V} (e : s.heap.get? S = some (sumObj (isum ws) t c)) (r : RelV y v) (hb : AllBare s.gens) :
    Woke [S] (LkS S) v s { s with heap := s.heap.update S (Obj.mapSeq (fun _ => #[.int (isum ws + vI y) t2])), toks := tk } := by
  have e2 := Heap.get?_update_self (Obj.mapSeq (fun _ => (#[.int (isum ws + vI y) t2] : Array Value))) e rfl
  refine ⟨rfl, hb, fun b o hn q => (Heap.get?_update_other _ _ (fun z : S = b => hn (by rw [z]; simp))).trans q, fun b hb => ?_, fun ws' x rx ⟨t', c', e'⟩ => ?_⟩
  · have : b = S := by simpa using hb
    subst this
    exact ⟨_, e2, fun v q => by cases q⟩
  · rw [e] at e'
    have q : sumObj (isum ws) t c = sumObj (isum ws') t' c' := Option.some.inj e'
    have q2 : isum ws = isum ws' := by
      have := congrArg Obj.data q
      simp at this
      exact this.1.1
    have q3 : y = x := r.inj rx
    rw [← q3]
    have e3 : (s.heap.update S (Obj.mapSeq fun x => #[Value.int (isum ws' + vI y) t2])).get? S = some (Obj.mapSeq (fun x => #[Value.int (isum ws' + vI y) t2]) (sumObj (isum ws) t c)) := by rw [← q2]; exact e2
    show ∃ t3 c3, (s.heap.update S (Obj.mapSeq fun x => #[Value.int (isum ws + vI y) t2])).get? S = some (sumObj (isum (ws' ++ [y])) t3 c3)
    rw [isum_snoc, q2]
    exact ⟨t2, _, e3⟩
theorem lkS_go (S : Addr) : LkGo [S] (LkS S) := fun ws v s ⟨t, c, e⟩ hb _ => by
  cases ha : absV v with
  | some y =>
    by_cases hr : RelV y v
    · exact ⟨_, lkS_push (t2 := 0) (tk := 0) e hr hb⟩
    · refine ⟨s, rfl, hb, fun _ _ _ q => q, fun b hb => ?_, fun ws' x rx _ => ?_⟩
      · have : b = S := by simpa using hb
        subst this
        exact ⟨_, e, fun v q => by cases q⟩
      · have := rx.abs
        rw [ha] at this
        cases this
        exact absurd rx hr
  | none =>
    refine ⟨s, rfl, hb, fun _ _ _ q => q, fun b hb => ?_, fun ws' x rx _ => ?_⟩
    · have : b = S := by simpa using hb
      subst this
      exact ⟨_, e, fun v q => by cases q⟩
    · have := rx.abs
      rw [ha] at this
      cases this
theorem sum_gz (ns : List Int) (hO : ∀ ws s, O ws s → ws = (ns.take ws.length).map V.int) (hN : ns.length = N) (hfit : ∀ j, j < N → InLong (ns[j]?.getD 0) ∧ InLong (ns.take (j + 1)).sum) (S : Addr) : ∀ (m : Nat) (s : Shared), m ≤ N → Gz (model P w) A.in1 a [S] (LkS S) N O m s → LkS S ((ns.take (N - m)).map V.int) s.heap →
    (∀ ws s' t', O ws s' → ws.length = N → R (.ok (.ret (.int ns.sum t'))) s') → codeAny (model P w) A (.builtin "sum.loop" ⟨[.ref a, .ref S, rawInt 0, rawInt 0], []⟩) R s := by
  have is_ : ∀ k, isum ((ns.take k).map V.int) = (ns.take k).sum := fun k => by
    unfold isum
    rw [List.map_map]
    have : (vI ∘ V.int) = id := rfl
    rw [this, List.map_id]
  intro m
  induction m with
  | zero =>
    intro s hm hz ⟨tA, c, hS⟩ hR
    unfold Gz at hz
    rw [is_, Nat.sub_zero, List.take_of_length_le (by omega)] at hS
    refine codeAny_builtin F.entry_sum_loop ?_
    rw [Around.under_plainId F.plain_sum_loop _]
    show wpAny _ A.in1 (seqItems? (.ref S) >>= _) _ _ s
    refine wpAny_bind (wpAny_seqItems hS rfl ?_)
    show wpAny _ A.in1 (tryCatch (pyNext (.ref a)) _ >>= _) _ _ s
    refine wpAny_bind (wpAny_tryCatch (thnF hz fun r s' ⟨hr, ws, _, hl, ho⟩ => ?_))
    subst hr
    exact wpAny_pure (hR ws s' tA ho hl)
  | succ m ih =>
    intro s hm hz ⟨tA, c, hS⟩ hR
    unfold Gz at hz
    rw [is_] at hS
    generalize hT : (ns.take (N - (m + 1))).sum = T at hS
    refine codeAny_builtin F.entry_sum_loop ?_
    rw [Around.under_plainId F.plain_sum_loop _]
    show wpAny _ A.in1 (seqItems? (.ref S) >>= _) _ _ s
    refine wpAny_bind (wpAny_seqItems hS rfl ?_)
    show wpAny _ A.in1 (tryCatch (pyNext (.ref a)) _ >>= _) _ _ s
    refine wpAny_bind (wpAny_tryCatch (thnF hz fun r s' ⟨v, ws, x, hr, rv, ⟨t2, c2, hS2⟩, hl, ho, hb, _, go⟩ => ?_))
    subst hr
    have ei : ws.length = N - (m + 1) := by omega
    have hlt : ws.length < ns.length := by omega
    have ex := hO _ s' ho
    rw [List.length_append, List.length_singleton, List.take_succ, List.getElem?_eq_getElem hlt, List.map_append] at ex
    have ex2 := List.append_inj' ex rfl
    have e1 : ws = (ns.take ws.length).map V.int := ex2.1
    have e2 : x = V.int ns[ws.length] := by
      have := ex2.2
      simpa using this
    subst e2
    obtain ⟨t, rfl⟩ := id rv
    have fit := hfit ws.length (by omega)
    rw [List.getElem?_eq_getElem hlt, List.take_succ, List.getElem?_eq_getElem hlt, List.sum_append] at fit
    obtain ⟨⟨f1, f2⟩, f3, f4⟩ := fit
    have f3 : -(2 ^ 63) ≤ (ns.take ws.length).sum + ns[ws.length] := by simpa using f3
    have f4 : (ns.take ws.length).sum + ns[ws.length] < 2 ^ 63 := by simpa using f4
    have f1 : -(2 ^ 63) ≤ ns[ws.length] := by simpa using f1
    have f2 : ns[ws.length] < 2 ^ 63 := by simpa using f2
    rw [← ei] at hT
    rw [hT] at f3 f4
    have hc : ((decide (-(2 ^ 63) ≤ ns[ws.length]) && decide (ns[ws.length] < 2 ^ 63)) && (decide (-(2 ^ 63) ≤ T + ns[ws.length]) && decide (T + ns[ws.length] < 2 ^ 63))) = true := by
      simp only [Bool.and_eq_true, decide_eq_true_eq]
      exact ⟨⟨f1, f2⟩, f3, f4⟩
    show wpAny _ A.in1 (if (_ : Bool) = true then (mkInt (T + ns[ws.length]) >>= _) else _) _ _ _
    split
    · refine wpAny_bind (wpAny_mkInt ?_)
      show wpAny _ A.in1 (updateSeq S (fun _ => #[.int (T + ns[ws.length]) s'.toks]) >>= _) _ _ _
      refine wpAny_bind ?_
      have ews : isum ws = T := by rw [e1, is_]; simpa using hT
      refine wpAny_updateSeq hS2 rfl (wpAny_pure ⟨plainId_quiet F.plain_sum_loop _, ?_⟩)
      have wk := lkS_push (S := S) (s := s') (t2 := s'.toks) (tk := s'.toks + 1) (y := V.int ns[ws.length]) hS2 rv hb
      have eup : isum ws + vI (V.int ns[ws.length]) = T + ns[ws.length] := by rw [ews]; rfl
      rw [eup] at wk
      have lk2 := wk.lk ws _ rv ⟨t2, c2, hS2⟩
      have e3 : ws ++ [V.int ns[ws.length]] = (ns.take (N - m)).map V.int := by
        have : N - m = ws.length + 1 := by omega
        rw [this, List.take_succ, List.getElem?_eq_getElem hlt, List.map_append, ← e1]; rfl
      rw [e3] at lk2
      exact ih _ (by omega) (go _ rfl wk) lk2 hR
    · rename_i hneg
      exact absurd hc hneg
/-- the list that a consumer collects into -/
def LkL (S : Addr) : List V → Heap → Prop := fun ws h => ∃ acc c, h.get? S = some (lstObj acc c) ∧ Vals ws acc.toList
theorem lkL_ok (S : Addr) : LkOk [S] (LkL S) := fun ws h h' _ k ⟨t, c, e, r⟩ => ⟨t, c, k S (by simp) _ e, r⟩
theorem lkL_push {S : Addr} {s : Shared} {ws : List V} {acc : Array Value} {c : Nat} {v : Value} (e : s.heap.get? S = some (lstObj acc c)) (r : Vals ws acc.toList) (hb : AllBare s.gens) :
    Woke [S] (LkL S) v s { s with heap := s.heap.update S (Obj.mapSeq (·.push v)) } := by
  have e2 := Heap.get?_update_self (Obj.mapSeq (fun a : Array Value => a.push v)) e rfl
  refine ⟨rfl, hb, fun b o hn q => (Heap.get?_update_other _ _ (fun z : S = b => hn (by rw [z]; simp))).trans q, fun b hb => ?_, fun ws' x rx ⟨acc', c', e', r'⟩ => ?_⟩
  · have : b = S := by simpa using hb
    subst this
    exact ⟨_, e2, fun v q => by cases q⟩
  · rw [e] at e'
    have q : lstObj acc c = lstObj acc' c' := Option.some.inj e'
    have q2 : acc = acc' := by
      have := congrArg Obj.data q
      simp at this
      exact this.1
    subst q2
    refine ⟨acc.push v, _, e2, ?_⟩
    rw [Array.toList_push]
    exact r'.append (.cons rx .nil)
theorem lkL_go (S : Addr) : LkGo [S] (LkL S) := fun ws v s ⟨acc, c, e, r⟩ hb _ => ⟨_, lkL_push e r hb⟩
theorem extend_gz (hN : N ≤ sizeLine) (S : Addr) (res : Value) : ∀ (m : Nat) (s : Shared), m ≤ N → Gz (model P w) A.in1 a [S] (LkL S) N O m s →
    (∀ ws s' acc c, O ws s' → ws.length = N → s'.heap.get? S = some (lstObj acc c) → Vals ws acc.toList → R (.ok (.ret res)) s') → codeAny (model P w) A (.builtin "list.extend.loop" ⟨[.ref S, .ref a, res], []⟩) R s := by
  intro m
  induction m with
  | zero =>
    intro s hm hz hR
    unfold Gz at hz
    refine codeAny_builtin F.entry_extend_loop ?_
    rw [Around.under_plainId F.plain_extend_loop _]
    show wpAny _ A.in1 (pyNext (.ref a) >>= _) _ _ s
    refine wpAny_bind (thnF hz fun r s' ⟨hr, ws, ⟨acc, c, e, rv⟩, hl, ho⟩ => ?_)
    subst hr
    exact wpAny_pure (hR ws s' acc c ho hl e rv)
  | succ m ih =>
    intro s hm hz hR
    unfold Gz at hz
    refine codeAny_builtin F.entry_extend_loop ?_
    rw [Around.under_plainId F.plain_extend_loop _]
    show wpAny _ A.in1 (pyNext (.ref a) >>= _) _ _ s
    refine wpAny_bind (thnF hz fun r s' ⟨v, ws, x, hr, rv, ⟨acc, c, e, r⟩, hl, ho, hb, _, go⟩ => ?_)
    subst hr
    have hsz : acc.size = ws.length := by
      have e1 := r.length
      have e2 : acc.toList.length = acc.size := by simp
      omega
    show wpAny _ A.in1 (updateSeq S (·.push v) >>= _) _ _ _
    refine wpAny_bind ?_
    refine wpAny_updateSeq e rfl (wpAny_pure ⟨plainId_quiet F.plain_extend_loop _, ih _ (by omega) (go _ rfl (lkL_push e r hb)) hR⟩) (by rw [hsz]; omega) (by show (acc.push v).size ≤ sizeLine + 1; rw [Array.size_push, hsz]; omega)
end
end QD
set_option maxHeartbeats 4000000
/-! The walk over data: generator expressions, 6: any, sum, tuple, by data. -/
namespace QD
open PySem PySem.Spec PyProof.Rows L2 GenW

theorem repL_last {K : PySem.W.Frag} {S : Sto} {H : Hp} {ys : List D} {ws : List V} {x : V} {d : D} (r : RepL K S H (ys.take (ws ++ [x]).length) (ws ++ [x])) (h : ys[ws.length]? = some d) : Rep K S H d x := by
  have e : (ys.take (ws ++ [x]).length)[ws.length]? = some d := by
    rw [List.getElem?_take_of_lt (by rw [List.length_append]; simp), h]
  obtain ⟨v, e1, r1⟩ := r.get e
  rw [List.getElem?_append_right (Nat.le_refl _), Nat.sub_self] at e1
  cases e1
  exact r1
theorem near1 {F : Fix} {N : List Str} {sc : Scope} {k : Nat} {X : Cx} {W : WX} {pins : List (Addr × Obj)} {σ : L2.St} {H : Hp} {s : Shared} (c : XC F N sc k X W) (I : Inv X pins σ H s) : Near X X.A.in1 :=
  ⟨c.room.hd, rfl, by show X.A.units + 1 ≤ _; omega, I.ok.frames⟩
section
variable {F : Fix} {X : Cx} {pins : List (Addr × Obj)} {σ : L2.St} {S : Sto} {H1 : Hp} {ys : List D} {a : Addr} {s : Shared}
theorem collect_gz {A : Around} {Q : List Value → Shared → Prop} {E : Value → Shared → Prop} (nr : Near X A.in1) (hN : ys.length ≤ sizeLine) (mk : Made F X pins σ S H1 ys a s)
    (hQ : ∀ us ws s' H', Vals ws us → Inv X pins σ H' s' → EnvH F.M S H' → Ext S H1 S H' → RepL F.M.K S H' ys ws → Q us s') : wpAny (model X.prog X.w) A (collect (.ref a)) Q E s := by
  obtain ⟨⟨g, hg⟩, hb, ha, hc, _, mk⟩ := mk
  have hSI : s.heap.objs.size ≠ a := Nat.ne_of_gt ha
  unfold collect
  refine wpAny_bind (wpAny_runValue (codeAny_builtin PySem.F.entry_proto_collect ?_))
  rw [Around.under_plainId PySem.F.plain_proto_collect _]
  show wpAny _ A.in1 (newList [] >>= fun l => again (.builtin "list.__iadd__" ⟨[l, .ref a], []⟩)) _ _ s
  refine wpAny_bind (wpAny_newObj_type ?_)
  refine wpAny_pure ⟨plainId_quiet PySem.F.plain_list_iadd _, codeAny_builtin PySem.F.entry_list_iadd ?_⟩
  rw [Around.under_plainId PySem.F.plain_list_iadd _]
  have hg1 : (s.heap.push { cls := .type "list", data := .seq ([] : List Value).toArray }).IsGen a g := hg.push _
  show wpAny _ A.in1 (Builtin.List.listExtendWith (.ref s.heap.objs.size) (.ref a) (.ref s.heap.objs.size)) _ _ _
  unfold Builtin.List.listExtendWith
  refine wpAny_bind (wpAny_typeOf (Heap.IsGen.typeIs (s := { s with heap := _ }) hg1) ?_)
  have h1 : Builtin.List.listSameRef (.ref s.heap.objs.size) (.ref a) = false := by simp [Builtin.List.listSameRef, hSI]
  have h2 : (Value.type "generator" == Value.type "list") = false := by decide
  have h3 : (Value.type "generator" == Value.type "tuple") = false := by decide
  simp only [h1, h2, h3, Bool.or_false, Bool.false_eq_true, if_false]
  refine wpAny_bind (wpAny_pyIter_gen (s := { s with heap := _ }) hg1 ?_)
  refine wpAny_bind (wpAny_holding ?_)
  unfold Builtin.List.listLengthHint
  refine wpAny_bind (wpAny_specialOf (Heap.IsGen.typeIs (s := { s with heap := _ }) hg1) PySem.F.gen_no_len ?_)
  show wpAny _ A.in1 (specialOf (Value.ref a) (Str.ofString "__length_hint__") >>= _) _ _ _
  refine wpAny_bind (wpAny_specialOf (Heap.IsGen.typeIs (s := { s with heap := _ }) hg1) PySem.F.gen_no_hint ?_)
  refine wpAny_pure ?_
  show wpAny _ A.in1 (rule "list.extend.makes-room" >>= fun _ => Builtin.List.listTouch (.ref s.heap.objs.size) >>= fun _ =>
    again (.builtin "list.extend.loop" ⟨[.ref s.heap.objs.size, .ref a, .ref s.heap.objs.size], []⟩)) _ _ _
  refine wpAny_bind (wpAny_rule ?_)
  have hS₁ : (s.heap.push { cls := .type "list", data := .seq ([] : List Value).toArray }).get? s.heap.objs.size = some { cls := .type "list", data := .seq ([] : List Value).toArray } := Heap.get?_push_size _ rfl
  refine wpAny_bind ?_
  show wpAny _ A.in1 (updateSeq s.heap.objs.size (·.push .none) >>= fun _ => updateSeq s.heap.objs.size (·.pop)) _ _ _
  refine wpAny_bind (wpAny_updateSeq hS₁ rfl ?_)
  have hS₂ := Heap.get?_update_self (Obj.mapSeq (·.push Value.none)) hS₁ rfl
  refine wpAny_updateSeq hS₂ rfl ?_
  have hS₃ := Heap.get?_update_self (Obj.mapSeq (·.pop)) hS₂ rfl
  have kp : ∀ b o, s.heap.get? b = some o →
      (((s.heap.push { cls := .type "list", data := .seq ([] : List Value).toArray }).update s.heap.objs.size (Obj.mapSeq (·.push Value.none))).update s.heap.objs.size (Obj.mapSeq (·.pop))).get? b = some o :=
    fun b o e => by
      have hbne := Nat.ne_of_gt (Heap.lt_size e)
      exact (Heap.get?_update_other _ _ hbne).trans ((Heap.get?_update_other _ _ hbne).trans (Heap.get?_push_of_some _ e))
  refine wpAny_pure ⟨plainId_quiet PySem.F.plain_extend_loop _, extend_gz (A := A) hN s.heap.objs.size _ ys.length _ (Nat.le_refl _)
    (mk A.in1 [s.heap.objs.size] (LkL s.heap.objs.size) _ nr (fun b hb => by have : b = s.heap.objs.size := (by simpa using hb); rw [this]; exact Nat.le_refl _) (lkL_ok _) (lkL_go _) (fun ws h ⟨acc, cc, e, _⟩ b hb => by have : b = s.heap.objs.size := (by simpa using hb); rw [this]; exact ⟨_, e⟩) rfl rfl kp (fun b hb => by have : b = s.heap.objs.size := (by simpa using hb); rw [this]; exact ⟨_, hS₃, fun v q => by cases q⟩) ⟨_, _, hS₃, .nil⟩) fun ws s' acc cc ho hl e rv => ?_⟩
  show wpAny _ A (load s.heap.objs.size >>= _) _ _ s'
  refine wpAny_bind (wpAny_load e ?_)
  obtain ⟨H', I', E', x', r', _⟩ := ho
  refine wpAny_pure (hQ acc.toList ws s' H' rv I' E' x' ?_)
  rw [hl, List.take_length] at r'
  exact r'
end
section
variable {F : Fix} {N : List Str} {sc : Scope} {k : Nat} {X : Cx} {W : WX} {Γ : Ga} {S : Sto} {R : RK} {Z : ZK} {it elt tg : Expr} {ifs : List Expr} {scope : Scope} {gpos p pos : Pos}
theorem F_args : True := trivial
theorem ax_anyG (c : XC F N sc (k + 1) X W) (G : XG F X) (own : List (Str × Nat)) (ok : gxC N sc scope own = true) (hs : glB sc "any" = true) (hm : F.mg "any" = none)
    (h : AI F.M X W tg it Γ S (GxQ F X k elt tg ifs scope own Γ (fun ys S1 => ∃ bs : List Bool, ys = bs.map D.bl ∧ R (.bl (bs.any id)) S1)) Z) (hf : ∀ v, genFold it X.env v = pure v := by intro _; rfl)
    (he : starEach [.GeneratorExp elt [⟨tg, it, ifs, 0⟩] scope gpos] X.env = (false, eval (.GeneratorExp elt [⟨tg, it, ifs, 0⟩] scope gpos) X.env) :: starEach [] X.env := by rfl) :
    AX F.M X W (.Call (.Name "any" p) [.GeneratorExp elt [⟨tg, it, ifs, 0⟩] scope gpos] [] pos) Γ S R Z := fun σ H Q E q z => Bx.mk fun pins s I => by
  obtain ⟨h1, h2, h3⟩ := glB_gl hs
  refine wpAny_Call_Name_kw (ld_blt I (c.gl h1) (by rw [c.hm]; exact hm) boot_any ?_)
  refine PyProof.Rows.callWith_builtin1 ?_ he (by rfl)
  rw [he]
  show wpAny _ _ (spliced ((false, eval (.GeneratorExp elt [⟨tg, it, ifs, 0⟩] scope gpos) X.env) :: backTo pos (starEach [] X.env))) _ _ s
  refine Calls.spliced_cons (gx_make c G own ok I E z h hf fun ys S1 H1 a s5 ⟨bs, eb, hR⟩ x1 mk => ?_)
  refine Calls.spliced_nil ?_
  obtain ⟨⟨g, hg⟩, hb, ha, hc, ⟨_, I5, _⟩, mk⟩ := mk
  refine call_function_tree PySem.F.kind_any PySem.F.plain_any PySem.F.entry_any (PySem.F.args_any1 _) ?_
  unfold Builtin.«any»
  refine wpAny_bind (m := oneArg "any" _) (wpAny_pure ?_)
  refine wpAny_bind (wpAny_pyIter_gen hg ?_)
  have hO : ∀ ws x s', OutX F X pins σ [] S1 H1 ys (ws ++ [x]) s' → ws.length < ys.length → x = .bl (bs[ws.length]?.getD false) := fun ws x s' ⟨H', _, _, _, r, _⟩ hl => by
    rw [eb, List.length_map] at hl
    have e : ys[ws.length]? = some (.bl bs[ws.length]) := by rw [eb]; simp [hl]
    have := repL_last r e
    simp only [Rep] at this
    rw [this, List.getElem?_eq_getElem hl]
    rfl
  refine wpAny_pure ⟨plainId_quiet PySem.F.plain_any_loop _, any_gz (A := X.A) (fun j => bs[j]?.getD false) hO ys.length s5 (Nat.le_refl _)
    (mk X.A.in1 [] (fun _ _ => True) s5 (near1 c I) (fun b hb => by simp at hb) (fun _ _ _ _ _ _ => trivial) (fun ws v s' _ hb' _ => ⟨s', lkT s' v hb'⟩) (fun _ _ _ b hb => by simp at hb) rfl rfl (fun _ _ e => e) (fun b hb => by simp at hb) trivial) fun ws s' ho => ?_⟩
  obtain ⟨H', I', E', x', _, _⟩ := ho
  have e : ((List.range ys.length).drop (ys.length - ys.length)).any (fun j => bs[j]?.getD false) = bs.any id := by
    rw [Nat.sub_self, List.drop_zero, eb, List.length_map, Bool.eq_iff_iff, List.any_eq_true, List.any_eq_true]
    constructor
    · intro ⟨j, hj, hb⟩
      have hj' := List.mem_range.mp hj
      rw [List.getElem?_eq_getElem hj'] at hb
      exact ⟨bs[j], List.getElem_mem hj', hb⟩
    · intro ⟨b, hb, hb2⟩
      obtain ⟨j, hj, ej⟩ := List.getElem_of_mem hb
      refine ⟨j, List.mem_range.mpr hj, ?_⟩
      rw [List.getElem?_eq_getElem hj, ej]
      exact hb2
  rw [e]
  exact ⟨.bl (bs.any id), H', I', rfl, q _ _ H' S1 hR E' (x1.trans x') (by simp only [Rep])⟩
theorem ax_sumG (c : XC F N sc (k + 1) X W) (G : XG F X) (own : List (Str × Nat)) (ok : gxC N sc scope own = true) (hs : glB sc "sum" = true) (hm : F.mg "sum" = none) (hv : bootBuiltins "sum" = some (.builtin "sum"))
    (h : AI F.M X W tg it Γ S (GxQ F X k elt tg ifs scope own Γ (fun ys S1 => ∃ ns : List Int, ys = ns.map D.int ∧ (∀ j, j < ns.length → InLong (ns[j]?.getD 0) ∧ InLong (ns.take (j + 1)).sum) ∧ R (.int ns.sum) S1)) Z) (hf : ∀ v, genFold it X.env v = pure v := by intro _; rfl)
    (he : starEach [.GeneratorExp elt [⟨tg, it, ifs, 0⟩] scope gpos] X.env = (false, eval (.GeneratorExp elt [⟨tg, it, ifs, 0⟩] scope gpos) X.env) :: starEach [] X.env := by rfl) :
    AX F.M X W (.Call (.Name "sum" p) [.GeneratorExp elt [⟨tg, it, ifs, 0⟩] scope gpos] [] pos) Γ S R Z := fun σ H Q E q z => Bx.mk fun pins s I => by
  obtain ⟨h1, h2, h3⟩ := glB_gl hs
  refine wpAny_Call_Name_kw (ld_blt I (c.gl h1) (by rw [c.hm]; exact hm) hv ?_)
  refine PyProof.Rows.callWith_builtin1 ?_ he (by rfl)
  rw [he]
  show wpAny _ _ (spliced ((false, eval (.GeneratorExp elt [⟨tg, it, ifs, 0⟩] scope gpos) X.env) :: backTo pos (starEach [] X.env))) _ _ s
  refine Calls.spliced_cons (gx_make c G own ok I E z h hf fun ys S1 H1 a s5 ⟨ns, eb, hfit, hR⟩ x1 mk => ?_)
  refine Calls.spliced_nil ?_
  obtain ⟨⟨g, hg⟩, hb, ha, hc, ⟨_, I5, _⟩, mk⟩ := mk
  have hlen : ns.length = ys.length := by rw [eb, List.length_map]
  refine call_function_tree PySem.F.kind_sum PySem.F.plain_sum PySem.F.entry_sum (PySem.F.args_sum1 _) ?_
  unfold Builtin.«sum»
  simp only [List.length_cons, List.length_nil]
  rw [if_neg (by decide)]
  refine wpAny_bind (wpAny_of_eq (show Builtin.Builtins.bindParams "sum" ["start"] 0 { } = pure [none] from rfl) ?_)
  refine wpAny_bind (wpAny_pyIter_gen hg ?_)
  refine wpAny_bind (wpAny_mkInt ?_)
  refine wpAny_bind (wpAny_pure ?_)
  simp only [List.forIn_cons, List.forIn_nil]
  refine wpAny_bind (wpAny_bind (wpAny_bind (wpAny_isInstance (T := "int") (b := false) (typeIs_int _ _ _) PySem.sub_int_str ?_)))
  simp only [Bool.false_eq_true, if_false]
  refine wpAny_pure (wpAny_bind (wpAny_bind (wpAny_isInstance (T := "int") (b := false) (typeIs_int _ _ _) sub_int_bytes ?_)))
  simp only [Bool.false_eq_true, if_false]
  refine wpAny_pure (wpAny_bind (wpAny_bind (wpAny_isInstance (T := "int") (b := false) (typeIs_int _ _ _) sub_int_bytearray ?_)))
  simp only [Bool.false_eq_true, if_false]
  refine wpAny_pure (wpAny_pure ?_)
  refine wpAny_bind (wpAny_newObj_type ?_)
  have hO : ∀ ws s', OutX F X pins σ [s5.heap.objs.size] S1 H1 ys ws s' → ws = (ns.take ws.length).map V.int := fun ws s' ⟨H', _, _, _, r, _⟩ => by
    rw [eb, ← List.map_take] at r
    exact repL_ints r
  have hS0 : (s5.heap.push { cls := .type "list", data := .seq [Value.int 0 s5.toks].toArray }).get? s5.heap.objs.size = some { cls := .type "list", data := .seq [Value.int 0 s5.toks].toArray } := Heap.get?_push_size _ rfl
  refine wpAny_pure ⟨plainId_quiet PySem.F.plain_sum_loop _, sum_gz (A := X.A) ns hO hlen (fun j hj => hfit j (by omega)) s5.heap.objs.size ys.length _ (Nat.le_refl _)
    (mk X.A.in1 [s5.heap.objs.size] (LkS s5.heap.objs.size) _ (near1 c I) (fun b hb => by have : b = s5.heap.objs.size := (by simpa using hb); rw [this]; exact Nat.le_refl _) (lkS_ok _) (lkS_go _) (fun ws h ⟨t, cc, e⟩ b hb => by have : b = s5.heap.objs.size := (by simpa using hb); rw [this]; exact ⟨_, e⟩) rfl rfl (fun _ _ e => Heap.get?_push_of_some _ e) (fun b hb => by have : b = s5.heap.objs.size := (by simpa using hb); rw [this]; exact ⟨_, hS0, fun v q => by cases q⟩) ⟨_, _, hS0⟩) (by rw [Nat.sub_self, List.take_zero]; exact ⟨_, _, hS0⟩) fun ws s' t' ho hl => ?_⟩
  obtain ⟨H', I', E', x', _, _⟩ := ho
  exact ⟨.int ns.sum, H', I', ⟨t', rfl⟩, q _ _ H' S1 hR E' (x1.trans x') (by simp only [Rep])⟩
theorem ax_tupG (c : XC F N sc (k + 1) X W) (G : XG F X) (own : List (Str × Nat)) (ok : gxC N sc scope own = true) (hs : glB sc "tuple" = true) (hm : F.mg "tuple" = none) (hv : bootBuiltins "tuple" = some (.type "tuple"))
    (h : AI F.M X W tg it Γ S (GxQ F X k elt tg ifs scope own Γ (fun ys S1 => ys.length ≤ sizeLine ∧ R (.tup ys) S1)) Z) (hf : ∀ v, genFold it X.env v = pure v := by intro _; rfl)
    (he : starEach [.GeneratorExp elt [⟨tg, it, ifs, 0⟩] scope gpos] X.env = (false, eval (.GeneratorExp elt [⟨tg, it, ifs, 0⟩] scope gpos) X.env) :: starEach [] X.env := by rfl) :
    AX F.M X W (.Call (.Name "tuple" p) [.GeneratorExp elt [⟨tg, it, ifs, 0⟩] scope gpos] [] pos) Γ S R Z := fun σ H Q E q z => Bx.mk fun pins s I => by
  obtain ⟨h1, h2, h3⟩ := glB_gl hs
  refine wpAny_Call_Name_kw (ld_blt I (c.gl h1) (by rw [c.hm]; exact hm) hv ?_)
  refine PyProof.Rows.callWith_type1 ?_ he (by rfl)
  rw [he]
  show wpAny _ _ (spliced ((false, eval (.GeneratorExp elt [⟨tg, it, ifs, 0⟩] scope gpos) X.env) :: backTo pos (starEach [] X.env))) _ _ s
  refine Calls.spliced_cons (gx_make c G own ok I E z h hf fun ys S1 H1 a s5 ⟨hz, hR⟩ x1 mk => ?_)
  refine Calls.spliced_nil ?_
  obtain ⟨g, hg⟩ := mk.1
  have hT : s5.TypeIs (.ref a) "generator" := hg.typeIs
  refine callType_codes (Q₁ := fun obj s₁ => s₁.TypeIs obj "tuple" ∧ EP X pins σ Q obj s₁) PySem.F.called_tuple (PySem.F.typeCall_tuple_1 _) PySem.F.entry_object_init ?_ fun obj s₁ h₁ => ?_
  · refine codeAny_of_tree ?_
    show wpAny _ X.A.in1.in1 (do checkBuiltinCall "tuple.__new__" ⟨[.type "tuple", .ref a], []⟩; again (.builtin "tuple.__new__" ⟨[.type "tuple", .ref a], []⟩)) _ _ s5
    refine wpAny_bind (wpAny_of_eq (PySem.F.newCall_tuple_1 _) (wpAny_pure ⟨plainId_quiet PySem.F.plain_tuple_new _, codeAny_builtin PySem.F.entry_tuple_new ?_⟩))
    rw [Around.under_plainId PySem.F.plain_tuple_new _]
    have hsub := sub_tuple_self
    have hinit := init_tuple_lookup
    have hmh := madeHere_tuple
    have col : ∀ {Q' : List Value → Shared → Prop} {E' : Value → Shared → Prop}, (∀ us ws s' H', Vals ws us → Inv X pins σ H' s' → EnvH F.M S1 H' → Ext S1 H1 S1 H' → RepL F.M.K S1 H' ys ws → Q' us s') → wpAny (model X.prog X.w) X.A.in1.in1 (collect (.ref a)) Q' E' s5 := fun hq =>
      collect_gz (A := X.A.in1.in1) ⟨c.room.hd, rfl, by show X.A.units + 1 + 1 + 1 ≤ _; omega, I.ok.frames⟩ hz mk hq
    wp_walk using wpAny_typeOf hT, col
    intro us ws s' H' rv I' E' x' r'
    show wpAny _ _ (Builtin.Tuple.tupleExact us.toArray >>= fun v => ret v) _ _ _
    unfold Builtin.Tuple.tupleExact
    have hzu : us.length ≤ sizeLine := by rw [← rv.length, ← r'.length]; exact hz
    refine wpAny_bind (wpAny_newObj_type ?_ (by show us.toArray.size ≤ sizeLine; rw [List.size_toArray]; exact hzu))
    refine wpAny_pure ⟨⟨_, Heap.get?_push_size _ rfl, rfl⟩, ?_⟩
    have hp : H' s'.heap.objs.size = none := I'.hok.fresh (Nat.le_refl _)
    have I2 : Inv X pins σ (upd H' s'.heap.objs.size (.tup ws)) { s' with heap := s'.heap.push { cls := .type "tuple", data := .seq us.toArray } } :=
      I'.laid (t' := s'.toks) (fun b o e => Heap.get?_push_of_some _ e) (Nat.le_refl _) ⟨by rw [rv.length]; exact hzu, us, rv, ⟨_, Heap.get?_push_size _ rfl, rfl, _, rfl⟩⟩
    refine ⟨.ref s'.heap.objs.size, _, I2, rfl, q _ (.tup ys) _ S1 hR (E'.new hp) ((x1.trans x').trans (Ext.new hp)) ?_⟩
    simp only [Rep]
    exact ⟨_, ws, rfl, .inl (Im.new (E'.none hp)), r'.ext (Ext.new hp)⟩
  · exact ⟨h₁.1, PySem.F.args_object_init_2 obj _, object_init_meets PySem.F.called_tuple.init.lookup PySem.F.called_tuple.made (by decide) X.prog X.w X.A.in1 _ s₁ ⟨h₁.1, rfl, h₁.2⟩⟩
end
end QD
set_option maxHeartbeats 4000000
/-! The walk over data: lambdas without parameters. -/
namespace QD
open PySem PySem.Spec PyProof.Rows L2 GenW

/-- the running def's code object has a table that lambdas go into -/
structure XL (F : Fix) (X : Cx) : Prop where
  ex : ∃ c P, X.env.code = .ref c ∧ LamX.TabB F.base F.mg c P ∧ (P, X.env.qual ++ "<lambda>") ∈ F.M.tl ∧ ∀ p ∈ F.M.tl, p.1 = P → p.2 = X.env.qual ++ "<lambda>"
theorem EnvH.lam {M : Mo} {S : Sto} {H : Hp} {P c : Addr} {q : Str} {ps : Array Value} {pos : Pos} (E : EnvH M S H) (hP : H P = some (.tbl ps)) (ht : TriplesOk ps.toList) (hc : H c = Option.none) (hq : ∀ p ∈ M.tl, p.1 = P → p.2 = q) :
    EnvH M S (upd (upd H P (.tbl (ps ++ #[rawInt pos.line, rawInt pos.col, .ref c]))) c (LamX.CodeO c q)) ∧ Ext S H S (upd (upd H P (.tbl (ps ++ #[rawInt pos.line, rawInt pos.col, .ref c]))) c (LamX.CodeO c q)) := by
  have stay : ∀ b o, H b = some o → (∀ ps, o ≠ .tbl ps) → upd (upd H P (.tbl (ps ++ #[rawInt pos.line, rawInt pos.col, .ref c]))) c (LamX.CodeO c q) b = some o := fun b o e n => by
    rw [upd_ne (ne_of_none e hc), upd_ne (fun z => n ps (Option.some.inj (e.symm.trans (by rw [z]; exact hP))))]
    exact e
  have nt : ∀ u, isTb u = false → ∀ ps, u ≠ HO.tbl ps := fun u hu ps z => by rw [z] at hu; cases hu
  have hx : Ext S H S (upd (upd H P (.tbl (ps ++ #[rawInt pos.line, rawInt pos.col, .ref c]))) c (LamX.CodeO c q)) := fun b w hs hw hb => ⟨hs, .inl (stay b w hw (nt w hb))⟩
  have ht2 : TriplesOk (ps ++ #[rawInt pos.line, rawInt pos.col, .ref c]).toList := by
    have e : (ps ++ #[rawInt pos.line, rawInt pos.col, Value.ref c]).toList = ps.toList ++ [rawInt pos.line, rawInt pos.col, .ref c] := by simp
    rw [e]; exact PySem.TriplesOk_snoc _ _ _ _ ht
  refine ⟨⟨fun a cl e => ?_, fun Q hQ => ?_, fun p hp => ?_⟩, hx⟩
  · obtain ⟨u, h1, h2⟩ := E.cell a cl e
    exact ⟨u, stay a u h1 (nt u h2.noTb), h2.ext hx⟩
  · obtain ⟨ps', h1, h2⟩ := E.tg Q hQ
    by_cases e : Q = P
    · rw [e]
      exact ⟨_, by rw [upd_ne (ne_of_none hP hc), upd_same], ht2⟩
    · exact ⟨ps', by rw [upd_ne (ne_of_none h1 hc), upd_ne e]; exact h1, h2⟩
  · by_cases hb : p.1 = P
    · obtain ⟨ps0, a1, a2, a3⟩ := E.tl p hp
      rw [hq p hp hb] at a3 ⊢
      rw [hb] at a1 ⊢
      rw [hP] at a1
      cases a1
      refine ⟨_, by rw [upd_ne (ne_of_none hP hc), upd_same], ht2, fun p' cv hcv => ?_⟩
      have eL : (ps ++ #[rawInt pos.line, rawInt pos.col, Value.ref c]).toList = ps.toList ++ [rawInt pos.line, rawInt pos.col, .ref c] := by simp
      rw [eL] at hcv
      rcases LamX.among_app _ ht hcv with z | z
      · obtain ⟨c0, e1, e2⟩ := a3 p' cv z
        exact ⟨c0, e1, stay _ _ e2 fun ps => LamX.codeO_ne ps⟩
      · exact ⟨c, z, upd_same⟩
    · obtain ⟨ps', a1, a2, a3⟩ := E.tl p hp
      refine ⟨ps', by rw [upd_ne (ne_of_none a1 hc), upd_ne hb]; exact a1, a2, fun p' cv hcv => ?_⟩
      obtain ⟨c0, e1, e2⟩ := a3 p' cv hcv
      exact ⟨c0, e1, stay _ _ e2 fun ps => LamX.codeO_ne ps⟩
section
variable {F : Fix} {N : List Str} {sc : Scope} {k : Nat} {X : Cx} {W : WX} {Γ : Ga} {S : Sto} {R : RK} {Z : ZK} {pins : List (Addr × Obj)} {σ : L2.St} {H : Hp} {s : Shared} {params : Arguments} {body : Expr} {scope : Scope} {pos : Pos}
theorem lam_raw (c : XC F N sc k X W) (G : XL F X) (I : Inv X pins σ H s) (E : EnvH F.M S H) (L : LamX.LamS X.env.scope scope) (hdef : defaultsOf params X.env = ([], [])) {Q : Value → Shared → Prop} {EX : Value → Shared → Prop}
    (h : ∀ (c' : Addr) (pm ctv : Value) (H1 : Hp) (s1 : Shared), Inv X pins σ H1 s1 → EnvH F.M S H1 → Ext S H S H1 → H1 c' = some (LamX.CodeO c' (X.env.qual ++ "<lambda>")) → S c' = none →
      Q (.ref s1.heap.objs.size) { s1 with heap := s1.heap.push (PySem.W.kla_obj "<lambda>" (X.env.qual ++ "<lambda>") params body scope (cloFrom X.env.cells scope.names []) pm c' ctv) }) :
    wpAny (model X.prog X.w) X.A (eval (.Lambda params body scope pos) X.env) Q EX s := by
  obtain ⟨cc, P, hcode, TB, hm, hu⟩ := G.ex
  rw [← c.hb, ← c.hm] at TB
  obtain ⟨ps, hP, ht, ha⟩ := E.tl _ hm
  have hfree := L.has I.ok
  have notin : ∀ {H1 : Hp} {c' : Addr}, EnvH F.M S H1 → H1 c' = some (LamX.CodeO c' (X.env.qual ++ "<lambda>")) → S c' = none := fun {H1 c'} E1 h1 => by
    cases e : S c' with
    | none => rfl
    | some cl => exact absurd h1 ((E1.noTb e).2 _)
  refine PySem.W.kla_eval hdef ?_
  have bP : s.heap.BuiltinsAt X.mg P := TB.bm.keeps I.bk
  have hP' : s.heap.get? P = some { cls := .none, data := .fields ps } := I.hok P _ hP
  cases hc : codeAmong pos ps.toList with
  | none =>
    refine PySem.W.kla_makeFunction (mg := X.mg) (c := cc) (P := P) (ps := ps) (closure_ok hfree) I.ok.glob (I.mod.glob.keeps I.bk) hcode (TB.code.keeps I.bk) hP' ht hc TB.gP bP fun c' ctv h' tk hx hge hlt hrec htb => ?_
    obtain ⟨c2, oc, vs, t, e2, hoc, hd, hv⟩ := hrec
    cases e2
    have I1 := LamX.inv_table (t' := tk) (more := #[rawInt pos.line, rawInt pos.col, .ref c']) (h' := h') I hP (fun b o hb e => hx b o hb e) htb hge ⟨oc, vs, t, hoc, hd, hv⟩
    obtain ⟨E1, x1⟩ := E.lam (pos := pos) hP ht (I.hok.fresh hge) hu
    exact h c' _ ctv _ _ I1 E1 x1 upd_same (notin E1 upd_same)
  | some cv =>
    obtain ⟨c', e, hco⟩ := ha pos cv hc
    subst e
    refine PySem.W.kla_makeFunctionHit (mg := X.mg) (c := cc) (P := P) (ps := ps) (closure_ok hfree) I.ok.glob (I.mod.glob.keeps I.bk) hcode (TB.code.keeps I.bk) hP' ht hc bP fun ctv h' tk hx hsz => ?_
    have I1 : Inv X pins σ H { s with heap := h', toks := tk } := I.kept fun b o e => hx b o e
    exact h c' _ ctv H _ I1 E Ext.refl hco (notin E hco)
/-- a lambda, kept -/
theorem ax_lam (c : XC F N sc k X W) (G : XL F X) (L : LamX.lamSB sc scope = true) (hdef : defaultsOf params X.env = ([], [])) (h : R (.fnc (X.env.qual ++ "<lambda>") params body scope (cloFrom X.env.cells scope.names [])) S) : AX F.M X W (.Lambda params body scope pos) Γ S R Z := fun σ H Q E q z => Bx.mk fun pins s I => by
  refine lam_raw c G I E.hp (by rw [c.hs]; exact LamX.lamS_by L) hdef fun c' pm ctv H1 s1 I1 E1 x1 hco hsc => ?_
  have hn : H1 s1.heap.objs.size = none := I1.hok.fresh (Nat.le_refl _)
  have I2 : Inv X pins σ (upd H1 s1.heap.objs.size (.ext (FunO s1.heap.objs.size (X.env.qual ++ "<lambda>") params body scope (cloFrom X.env.cells scope.names []) c'))) { s1 with heap := s1.heap.push (PySem.W.kla_obj "<lambda>" (X.env.qual ++ "<lambda>") params body scope (cloFrom X.env.cells scope.names []) pm c' ctv) } :=
    I1.laid (t' := s1.toks) (fun b o e => Heap.get?_push_of_some _ e) (Nat.le_refl _) ⟨⟨pm, ctv, Heap.get?_push_size _ rfl⟩, ⟨_, Heap.get?_push_size _ rfl⟩, fun h1 h2 ⟨pm, ctv, e⟩ st => ⟨pm, ctv, st _ e⟩⟩
  refine ⟨.ref s1.heap.objs.size, _, I2, rfl, q _ _ _ S h (E1.new hn) (x1.trans (Ext.new hn)) ?_⟩
  simp only [Rep]
  exact ⟨_, c', rfl, E1.none hn, upd_same, hsc, by rw [upd_ne (ne_of_none hco hn)]; exact hco⟩
end
end QD
set_option maxHeartbeats 4000000
/-! The walk over data: lambdas called; told. -/
namespace QD
open PySem PySem.Spec PyProof.Rows L2 GenW

abbrev fncEnv (q : Str) (scope : Scope) (L f : Addr) (cd : Value) : PySem.Env := PySem.W.envX q scope L f cd []
/-- the context of the body of a lambda that has captured nothing -/
def fncCx (X : Cx) (A : Around) (outer : List PySem.Env) (s : Shared) (H : Hp) (E : XK) (q : Str) (scope : Scope) (f : Addr) (cd : Value) : Cx where
  prog := X.prog
  w := X.w
  K := X.K
  mg := X.mg
  base := X.base
  A := A.deeper (fncEnv q scope s.heap.objs.size f cd)
  N := []
  s_0 := s
  H_0 := H
  env := fncEnv q scope s.heap.objs.size f cd
  outer := outer
  stack := fncEnv q scope s.heap.objs.size f cd :: outer
  ex := []
  fn := fun _ => false
  calm := true
  pn := []
  xe := fun e s' => wpAny (model X.prog X.w) (A.deeper (fncEnv q scope s.heap.objs.size f cd)) (leaving (fncEnv q scope s.heap.objs.size f cd) e) (fun _ s'' => L2.CX X.prog X.w outer H s E e s'') (fun e' s'' => L2.CX X.prog X.w outer H s E e' s'') s'
/-- its names: globals alone -/
structure FncS (scope : Scope) : Prop where
  kind : scope.kind = .function
  co : scope.isCoroutine = false
  gen : scope.isGenerator = false
  glob : ∀ y ∈ scope.names, y.2 ≠ .local ∧ y.2 ≠ .cell ∧ y.2 ≠ .free
def fncSB (scope : Scope) : Bool := decide (scope.kind = .function) && !scope.isCoroutine && !scope.isGenerator && scope.names.all fun y => !decide (y.2 = .local) && !decide (y.2 = .cell) && !decide (y.2 = .free)
theorem fncS_by {scope : Scope} (h : fncSB scope = true) : FncS scope := by
  unfold fncSB at h
  simp only [Bool.and_eq_true, Bool.not_eq_true', decide_eq_true_eq, decide_eq_false_iff_not, List.all_eq_true] at h
  obtain ⟨⟨⟨h1, h2⟩, h3⟩, h4⟩ := h
  exact ⟨h1, h2, h3, fun y hy => ⟨(h4 y hy).1.1, (h4 y hy).1.2, (h4 y hy).2⟩⟩
theorem fncS_lam {sc scope : Scope} (h : fncSB scope = true) : LamX.lamSB sc scope = true := by
  have F := fncS_by h
  unfold LamX.lamSB
  simp only [Bool.and_eq_true, Bool.or_eq_true, Bool.not_eq_true', decide_eq_true_eq, decide_eq_false_iff_not, List.all_eq_true]
  exact ⟨⟨⟨F.kind, F.co⟩, F.gen⟩, fun y hy => ⟨⟨(F.glob y hy).1, (F.glob y hy).2.1⟩, .inl (.inl (F.glob y hy).2.2)⟩⟩
theorem fncS_clo {scope : Scope} (h : fncSB scope = true) (cells : List (Str × Addr)) : cloFrom cells scope.names [] = [] := by
  have F := fncS_by h
  have key : ∀ p ∈ cloFrom cells scope.names [], False := fun p hp => by
    rcases cloFrom_mem (show (p.1, p.2) ∈ cloFrom cells scope.names [] from hp) with z | ⟨h1, _⟩
    · cases z
    · exact (F.glob _ h1).2.2 rfl
  cases e : cloFrom cells scope.names [] with
  | nil => rfl
  | cons p l => exact (key p (by rw [e]; exact List.mem_cons_self)).elim
theorem fnc_start {X : Cx} {pins : List (Addr × Obj)} {σ : L2.St} {HZ : Hp} {s1 : Shared} {A : Around} {outer : List PySem.Env} {E : XK} {q : Str} {scope : Scope} {f : Addr} {cd : Value} {h₁ : Heap} {tk : Nat} (L : FncS scope) (e0 : Env0 X.prog X.w X.K X.mg X.base A outer s1 HZ) (hd : A.handled = none)
    (hns : h₁.Ns s1.heap.objs.size fun y => ([] : List (Str × Value)).reverse.lookup y) (kp : ∀ b o, s1.heap.get? b = some o → h₁.get? b = some o) :
    Inv (fncCx X A outer s1 HZ E q scope f cd) [] [] HZ { s1 with heap := h₁, toks := tk } := by
  have noA : ∀ b : Addr, b ∉ (fncCx X A outer s1 HZ E q scope f cd).ex := fun b z => absurd (show b ∈ ([] : List Addr) from z) (by simp)
  have noc : ∀ {y : Str} {c : Addr}, (fncCx X A outer s1 HZ E q scope f cd).env.cells.lookup y = some c → False := fun {y c} e => by
    have e : ([] : List (Str × Addr)).lookup y = some c := e
    cases e
  refine ⟨⟨e0.mod, L.kind, rfl, rfl, Nat.le_refl _, fun y z c e1 _ => (noc e1).elim, fun y hy => ?_, fun y c z _ => ?_, fun _ => hd, Around.frames_deeper e0.frames, .inr ⟨rfl, rfl⟩, fun b z => absurd z (noA b), e0.bs, e0.bsz, fun b _ _ => noA b,
      fun b z => absurd z (noA b), e0.funs, e0.frf⟩,
    rfl, e0.bare, Un.kept kp, ⟨_, hns, fun i y v e1 e2 e3 => ?_⟩, fun y c e => (noc e).elim, e0.hok.fresh (Nat.le_refl _), fun y c e => (noc e).elim, fun q hq => absurd (show q ∈ ([] : List (Addr × Obj)) ++ [] from hq) (by simp), e0.hok.kept kp, rfl⟩
  · have hy : scope.names.lookup y = some .cell ∨ scope.names.lookup y = some .free := hy
    rcases hy with hy | hy
    · exact absurd rfl (L.glob _ (PySem.mem_of_lookup hy)).2.1
    · exact absurd rfl (L.glob _ (PySem.mem_of_lookup hy)).2.2
  · have z : false = true := z
    cases z
  · have e1 : ([] : List Str)[i]? = some y := e1
    simp at e1
/-- where the body of such a lambda stands -/
def IsFnc (F : Fix) (k : Nat) (scope : Scope) (Y : Cx) (WY : WX) : Prop := XC F [] scope k Y WY
section
variable {F : Fix} {N : List Str} {sc : Scope} {k : Nat} {X : Cx} {W : WX} {Γ : Ga} {S : Sto} {R : RK} {Z : ZK} {p pos : Pos}
theorem XC.fnc (c : XC F N sc (k + 1) X W) {A : Around} {outer : List PySem.Env} {s : Shared} {H : Hp} {E : XK} {q : Str} {scope : Scope} {f : Addr} {cd : Value} (hr : Room k (A.deeper (fncEnv q scope s.heap.objs.size f cd))) :
    XC F [] scope k (fncCx X A outer s H E q scope f cd) (fun cls d _ H' => E cls d H') :=
  ⟨c.hP, c.hw, c.hK, c.hm, c.hb, rfl, List.nodup_nil, rfl, rfl, hr, takes_of rfl rfl rfl rfl, passes_of rfl⟩
/-- a() of such a lambda -/
theorem ax_callF (c : XC F N sc (k + 1) X W) {a q : Str} {ps : Arguments} {body : Expr} {scope : Scope} (i : Nat) (hs : slotB N sc i a = true) (hi : Γ[i]? = some (some (.fnc q ps body scope []))) (L : fncSB scope = true)
    (hb : ∀ (pm cv ctv : Value), bindArgs (PySem.W.kla_fn "<lambda>" q ps body scope [] pm cv ctv) ⟨[], []⟩ = pure [])
    (h : ∀ Y WY, IsFnc F k scope Y WY → AX F.M Y WY body [] S R Z) : AX F.M X W (.Call (.Name a p) [] [] pos) Γ S R Z := fun σ H Q E qq z => Bx.mk fun pins s I => by
  have FS := fncS_by L
  refine wpAny_Call_Name_kw (thn (((ax_var (R := fun d S' => d = .fnc q ps body scope [] ∧ S' = S) (Z := Z) (pos := p) (W := W) c i hs hi ⟨rfl, rfl⟩) σ H (fun v H1 => EnvH F.M S H1 ∧ Ext S H S H1 ∧ Rep F.M.K S H1 (.fnc q ps body scope []) v) E (fun v d H1 S1 ⟨e1, e2⟩ E1 x1 r1 => by subst e1 e2; exact ⟨E1, x1, r1⟩) z).run pins s I) fun u s1 ⟨v, H1, I1, r1, E1, x1, rv⟩ => ?_)
  simp only [Rep] at rv
  obtain ⟨f, c', rfl, sf, hf, sc', hc'⟩ := rv
  obtain rfl : u = Value.ref f := r1
  obtain ⟨⟨pm, ctv, of1⟩, _, _⟩ := I1.hok f _ hf
  obtain ⟨⟨oc, vs, t, hoc, hdc, hvc⟩, _, _⟩ := I1.hok c' _ hc'
  refine PySem.W.callWith_F0 ⟨_, _, _, _, of1⟩ ?_
  have hx : Passes (L2.CX X.prog X.w) X (fun cls d H' => ∀ σ', W cls d σ' H') := c.pass
  have rc : codeAny (model X.prog X.w) X.A (.call (.ref f) ⟨[], []⟩) (CR (L2.CX X.prog X.w) X.stack X.prog X.w H1 s1 Q (fun cls d H' => ∀ σ', W cls d σ' H')) s1 := by
    refine PySem.W.kla_callFunE c.room.depth of1 rfl FS.co FS.gen rfl ⟨c', oc, vs, t, rfl, hoc, hdc, hvc⟩ ?_
    rw [hb]
    refine wpAny_pure (wpAny_newFunctionEnv (fun y hy => (FS.glob y hy).2.1) (fun y hy => absurd hy (by simp)) (fun h₁ hns hsb => ⟨I1.nolimit.fresh _ hsb, ?_⟩) FS.kind)
    show codeAny _ _ (.expr body (fncEnv q scope s1.heap.objs.size f (.ref c'))) _ _
    have kp : ∀ b o, s1.heap.get? b = some o → h₁.get? b = some o := fun b o e => hsb.extBut b o (Nat.ne_of_lt (Heap.lt_size e)) (Heap.get?_push_of_some _ e)
    have J : Inv (fncCx X X.A X.stack s1 H1 (fun cls d H' => ∀ σ', W cls d σ' H') q scope f (.ref c')) [] [] H1 { s1 with heap := h₁, toks := s1.toks + ([] : List (Str × Value)).length } :=
      fnc_start (pins := pins) (σ := σ) FS I1.env0 c.room.hd hns kp
    have cY := c.fnc (A := X.A) (outer := X.stack) (s := s1) (H := H1) (E := fun cls d H' => ∀ σ', W cls d σ' H') (q := q) (scope := scope) (f := f) (cd := .ref c') (c.room.deeper _)
    refine PySem.W.kla_codeExpr (wpAny_mono ((h _ _ cY [] H1 Q ⟨E1, rfl, fun i d hd => by simp at hd⟩ (qq.ext x1) (fun C H' S' _ hz E' x' σ' => z C H' S' σ' hz E' (x1.trans x'))).run [] _ J) (fun v s' hq => ?_) fun e s' hq => hq)
    obtain ⟨w', H', J', rv, hQ⟩ := hq
    exact ⟨w', H', J'.os, J'.bare, J'.base, J'.hok, rv, hQ⟩
  refine wpAny_call (codeAny_mono rc fun r s' hq => ?_)
  cases r with
  | error e => exact hx pins σ H1 s1 e s' I1 hq
  | ok fl =>
    cases fl with
    | ret u => exact I1.after hq
    | next => exact False.elim hq
    | brk => exact False.elim hq
    | cont => exact False.elim hq
end
/-! ### told -/
/-- the law's own catcher of the errors of the class at CS -/
structure Told (F : Fix) (nm cls ret : Str) (CS : Addr) : Prop where
  ex : ∃ g fd st, F.mg nm = some (.ref g) ∧ PySem.W.keepIn F.M.K (.ref g) = true ∧ L2.Fun F.M.K nm nm st g fd ∧ L2.Binds F.M.K fd ["what"] [] ∧ L2.FnScope ["what"] ["what"] (defScope st) ∧ (defScope st).names.lookup cls = some .globalImplicit ∧ Vis (defScope st) "what" ∧
    ∃ p1 p2 p3 p4 p5 p6 p7 p8 j, defBody st = [.Try [.Return (some (.Call (.Name "what" p1) [] [] p2)) p3] [.ExceptHandler (some (.Name cls p4)) none [.Return (some (.Constant (.str ret) j p5)) p6] p7] [] [] p8]
  ge : F.mg cls = some (.ref CS)
  db : (cls == ("__debug__" : Str)) = false
/-- the contexts of a lambda's body that told calls -/
def IsLam (X : Cx) (F : Fix) (k : Nat) (scope : Scope) (Y : Cx) (WY : WX) : Prop := XC F X.N scope k Y WY ∧ ∃ A outer s H E f c', Y = LamX.lamCx X A outer s H E scope f c' ∧ WY = fun cls d _ H' => E cls d H'
section
variable {F : Fix} {N : List Str} {sc : Scope} {k : Nat} {X : Cx} {W : WX} {Γ : Ga} {S : Sto} {R : RK} {Z : ZK} {p lpos pos : Pos}
/-- told(lambda: body) -/
theorem ax_told {nm cls ret : Str} {CS : Addr} {params : Arguments} {body : Expr} {scope : Scope} (c : XC F N sc (k + 2) X W) (GL : XL F X) (T : Told F nm cls ret CS) (hs : glB sc nm = true) (L : LamX.lamSB sc scope = true) (hdef : defaultsOf params X.env = ([], []))
    (hbind : ∀ (q : Str) (cl : List (Str × Addr)) (pm cv ctv : Value), bindArgs (PySem.W.kla_fn "<lambda>" q params body scope cl pm cv ctv) ⟨[], []⟩ = pure [])
    (h : ∀ Y WY, IsLam X F k scope Y WY → AX F.M Y WY body Γ S R (fun C S' => PySem.W.exmOne F.M.K (.ref C) (.ref CS) = some true ∧ R (.str ret) S')) : AX F.M X W (.Call (.Name nm p) [.Lambda params body scope lpos] [] pos) Γ S R Z := fun σ H Q E q z => Bx.mk fun pins s I => by
  obtain ⟨g, fd, st, hm, hk, U, hb, Sg, hge, hva, p1, p2, p3, p4, p5, p6, p7, p8, jj, hbd⟩ := T.ex
  obtain ⟨h1, h2, h3⟩ := glB_gl hs
  obtain ⟨oc, od, kV, doc, pm0, an, cdv, ct, osl, rfl, lk, hcg⟩ := U.ex
  have Ls : LamX.LamS X.env.scope scope := by rw [c.hs]; exact LamX.lamS_by L
  refine wpAny_Call_Name_kw (ld_glob I (c.gl h1) (by rw [c.hm]; exact hm) ?_ h2)
  refine PySem.W.callWith_K (h₀ := X.base) I.ok.mod.kin (by rw [c.hK]; exact hk) ?_ (by rfl) (by rfl)
  show wpAny _ _ (spliced ((false, eval (.Lambda params body scope lpos) X.env) :: backTo pos (starEach [] X.env))) _ _ s
  refine Calls.spliced_cons (lam_raw c GL I E.hp Ls hdef fun c' pm' ctv H1 s1 I1 E1 x1 hco hsc => ?_)
  refine Calls.spliced_nil ?_
  have hf : (s1.heap.push (PySem.W.kla_obj "<lambda>" (X.env.qual ++ "<lambda>") params body scope (cloFrom X.env.cells scope.names []) pm' c' ctv)).get? s1.heap.objs.size = some (PySem.W.kla_obj "<lambda>" (X.env.qual ++ "<lambda>") params body scope (cloFrom X.env.cells scope.names []) pm' c' ctv) := Heap.get?_push_size _ rfl
  have hfn : H1 s1.heap.objs.size = none := I1.hok.fresh (Nat.le_refl _)
  have hfr : s1.heap.objs.size ∉ frs X.stack := fun z => by
    rcases List.mem_cons.mp (I1.stkSub _ z) with e | e
    · have h1 := I1.lt
      rw [← e] at h1
      exact Nat.lt_irrefl _ h1
    · exact I1.nofs (Nat.le_refl _) e
  have I2 : Inv X pins σ H1 { s1 with heap := s1.heap.push (PySem.W.kla_obj "<lambda>" (X.env.qual ++ "<lambda>") params body scope (cloFrom X.env.cells scope.names []) pm' c' ctv) } := I1.kept (t' := s1.toks) fun b o e => Heap.get?_push_of_some _ e
  generalize hs2 : ({ s1 with heap := s1.heap.push (PySem.W.kla_obj "<lambda>" (X.env.qual ++ "<lambda>") params body scope (cloFrom X.env.cells scope.names []) pm' c' ctv) } : Shared) = s2 at I2
  have hf2 : s2.heap.get? s1.heap.objs.size = some (PySem.W.kla_obj "<lambda>" (X.env.qual ++ "<lambda>") params body scope (cloFrom X.env.cells scope.names []) pm' c' ctv) := by rw [← hs2]; exact hf
  refine ⟨I2.kIn, ?_⟩
  have rc : codeAny (model X.prog X.w) X.A (.call (.ref g) ⟨[.ref s1.heap.objs.size], []⟩) (CR C8.CX0 X.stack X.prog X.w H1 s2 Q C8.E0) s2 := by
    refine LamX.run_ofS (N := ["what"]) (ps := ["what"]) (us := [.ref s1.heap.objs.size]) (vs := [.ref s1.heap.objs.size]) (by rw [c.hK]; exact lk) (by rw [c.hK]; exact hcg) Sg c.room I2.env0 (hb s2 [.ref s1.heap.objs.size] (by rw [← c.hK]; exact I2.kIn) rfl) (.cons rfl .nil) rfl fun hr' => ?_
    rw [hbd]
    refine Exists.elim (LamX.told_gives (X := X) (Ng := ["what"]) (x := nm) (a := "what") (e := cls) (q := X.env.qual ++ "<lambda>") (ret := ret) (sg := defScope st) (g := g) (CS := CS) (cdg := cdv) (j := jj) (p1 := p1) (p2 := p2) (p3 := p3) (p4 := p4) (p5 := p5) (p6 := p6) (p7 := p7) (p8 := p8) hge (by rw [c.hm]; exact T.ge) T.db (fun _ => rfl)
      s1.heap.objs.size c' s2 H1 Q (fun E' H' Q' => ∀ Y WY, IsLam X F k scope Y WY → (WY = fun cls d _ H' => E' cls d H') → wpE Y body σ H' Q') (fun W' pn xe E' q1 q2 tk hW => ?_) hco ?_) fun t' ⟨ht', hq'⟩ => ⟨t', ht'.nox, hq'⟩
    · refine LamX.pe_act (i := 0) (tb := fun σ4 H4 Q4 => ∀ Y WY, IsLam X F k scope Y WY → (WY = fun cls d _ H' => E' cls d H') → wpE Y body σ4 H4 Q4) I2 Ls hf2 hfn hfr (hbind _ _ _ _ _) tk hW hr' (fun A outer s' H' hr2 => ?_) rfl hva
      have cY : XC F X.N scope k (LamX.lamCx X A outer s' H' E' scope s1.heap.objs.size c') (fun cls d _ H' => E' cls d H') := ⟨c.hP, c.hw, c.hK, c.hm, c.hb, rfl, by rw [c.hN]; exact c.nd, rfl, rfl, hr2, takes_of rfl rfl rfl rfl, passes_of rfl⟩
      exact ⟨fun pins3 s3 σ3 H3 Q3 I3 h3 => (h3 _ _ ⟨cY, A, outer, s', H', E', _, c', rfl, rfl⟩ rfl).run pins3 s3 I3⟩
    · intro Y WY hY hW
      refine h Y WY hY σ H1 Q (E.ext E1 x1) (q.ext x1) fun C H' S' σ' ⟨hz1, hz2⟩ E' x' => ?_
      rw [hW]
      exact ⟨true, by rw [c.hK]; exact hz1, fun _ => q _ _ H' S' hz2 E' (x1.trans x') (by simp only [Rep]), fun z => by cases z⟩
  rw [← hs2] at rc ⊢
  rw [← hs2] at I2
  refine wpAny_call (codeAny_mono rc fun r s3 hq => ?_)
  cases r with
  | error e => exact (show False from hq).elim
  | ok fl =>
    cases fl with
    | ret u => exact I2.after hq
    | next => exact False.elim hq
    | brk => exact False.elim hq
    | cont => exact False.elim hq
/-- told of a lambda that has captured nothing -/
def aTold (F : Fix) (k : Nat) (ret : Str) (CS : Addr) : ASp := fun ds S R _ => ∃ q ps body scope, ds = [.fnc q ps body scope []] ∧ fncSB scope = true ∧ (∀ (pm cv ctv : Value), bindArgs (PySem.W.kla_fn "<lambda>" q ps body scope [] pm cv ctv) ⟨[], []⟩ = pure []) ∧
  ∀ Y WY, IsFnc F k scope Y WY → AX F.M Y WY body [] S R (fun C S' => PySem.W.exmOne F.M.K (.ref C) (.ref CS) = some true ∧ R (.str ret) S')
theorem told_fn {nm cls ret : Str} {CS : Addr} (T : Told F nm cls ret CS) (k : Nat) : FOk F (k + 2) nm (aTold F k ret CS) := by
  obtain ⟨g, fd, st, hm, hk, U, hb, Sg, hge, hva, p1, p2, p3, p4, p5, p6, p7, p8, jj, hbd⟩ := T.ex
  refine ⟨g, fd, ["what"], hm, hk, ?_, hb⟩
  refine U.okX Sg (fun vs H Q E ⟨ds, S0, R, Z, _, r, ⟨q, ps, body, scope, e, _⟩, _⟩ => by rw [← r.length, e]; rfl) (fun cdv Ar outer s H vs Q E hr ⟨ds, S0, R, Z, EH, r, ⟨q0, ps, body, scope, e, hL, hbi, h⟩, q, z⟩ => ?_)
  subst e
  simp only [RepL] at r
  obtain ⟨v, ws, rfl, r1, rfl⟩ := r
  rw [hbd]
  have c0 : XC F ["what"] (defScope st) (k + 1) (cxOf (L2.CX F.P F.w) F.P F.w F.M.K F.mg F.base ["what"] nm (defScope st) g cdv Ar outer s H E) (fun cls d _ H => E cls d H) :=
    ⟨rfl, rfl, rfl, rfl, rfl, rfl, Sg.nd, rfl, rfl, hr, takes_of rfl rfl rfl rfl, passes_of rfl⟩
  have hsl : slotB ["what"] (defScope st) 0 "what" = true := by
    unfold slotB
    rcases hva with k | k | k <;> rw [k] <;> decide +kernel
  have EΓ : Env F.M (L2.start ["what"] [v]) H [some (.fnc q0 ps body scope [])] S0 := ⟨EH, rfl, fun i d hd => by
    cases i with
    | zero => simp at hd; subst hd; exact ⟨v, rfl, r1⟩
    | succ n => simp at hd⟩
  have hcall : ∀ (W' : WX) (pn : List (Addr × Obj)) (xe : Value → Shared → Prop), Takes ((cxOf (L2.CX F.P F.w) F.P F.w F.M.K F.mg F.base ["what"] nm (defScope st) g cdv Ar outer s H E).tr pn xe) W' → PassesOwn (model F.P F.w) (cxOf (L2.CX F.P F.w) F.P F.w F.M.K F.mg F.base ["what"] nm (defScope st) g cdv Ar outer s H E).A (cxOf (L2.CX F.P F.w) F.P F.w F.M.K F.mg F.base ["what"] nm (defScope st) g cdv Ar outer s H E).env xe →
      ZQ F.M S0 H (fun C S' => PySem.W.exmOne F.M.K (.ref C) (.ref CS) = some true ∧ R (.str ret) S') W' → wpE ((cxOf (L2.CX F.P F.w) F.P F.w F.M.K F.mg F.base ["what"] nm (defScope st) g cdv Ar outer s H E).tr pn xe) (.Call (.Name "what" p1) [] [] p2) (L2.start ["what"] [v]) H Q := fun W' pn xe tk own hz => by
    have c1 : XC F ["what"] (defScope st) (k + 1) ((cxOf (L2.CX F.P F.w) F.P F.w F.M.K F.mg F.base ["what"] nm (defScope st) g cdv Ar outer s H E).tr pn xe) W' := ⟨rfl, rfl, rfl, rfl, rfl, rfl, Sg.nd, rfl, rfl, hr, tk, own⟩
    exact ax_callF c1 0 hsl rfl hL hbi h _ H Q EΓ q hz
  refine ⟨_, pss_one (ps_try_only (c := .ref CS) (tb := fun W D σ H1 => ∀ (pn : List (Addr × Obj)) (xe : Value → Shared → Prop), Takes ((cxOf (L2.CX F.P F.w) F.P F.w F.M.K F.mg F.base ["what"] nm (defScope st) g cdv Ar outer s H E).tr pn xe) W → PassesOwn (model F.P F.w) (cxOf (L2.CX F.P F.w) F.P F.w F.M.K F.mg F.base ["what"] nm (defScope st) g cdv Ar outer s H E).A (cxOf (L2.CX F.P F.w) F.P F.w F.M.K F.mg F.base ["what"] nm (defScope st) g cdv Ar outer s H E).env xe →
      wpE ((cxOf (L2.CX F.P F.w) F.P F.w F.M.K F.mg F.base ["what"] nm (defScope st) g cdv Ar outer s H E).tr pn xe) (.Call (.Name "what" p1) [] [] p2) σ H1 D.rt) (Wout := fun _ _ _ _ => False) rfl rfl ⟨hge, T.db, .inl T.ge⟩ L2.takes0 (fun W pn xe tk own => ⟨fun pins s' σ H' D I h' => (pss_one (ps_ret (pos := p3) pe_wp)).run pins s' σ H' D I (h' pn xe tk own)⟩) (fun a oe cls d pn _ _ => pss_one (ps_ret pe_str))), ?_⟩
  intro pn xe tk own
  refine hcall _ pn xe tk own fun C H' S' σ' ⟨hz1, hz2⟩ E' x' => ⟨true, hz1, fun _ a _ => ?_, fun z => by cases z⟩
  exact q _ _ H' S' hz2 E' x' (by simp only [Rep])
end
end QD
set_option maxHeartbeats 4000000
/-! The walk over data: methods, dicts, comparisons of data. -/
namespace QD
open PySem PySem.Spec PyProof.Rows L2 GenW

/-! ### dicts by pairs -/
def putP {κ : Type} [DecidableEq κ] (m : List (κ × D)) (k : κ) (d : D) : List (κ × D) :=
  if (m.any fun p => decide (p.1 = k)) = true then m.map (fun p => if p.1 = k then (p.1, d) else p) else m ++ [(k, d)]
def mrgP {κ : Type} [DecidableEq κ] (m more : List (κ × D)) : List (κ × D) := more.foldl (fun acc p => putP acc p.1 p.2) m
/-- the dict of pairs -/
def dctP (m : List (Key × D)) : D := .dct (m.map (·.1)) (m.map (·.2))
def RepM {κ : Type} (K : PySem.W.Frag) (S : Sto) (H : Hp) : List (κ × D) → List (κ × V) → Prop := Paired fun p q => p.1 = q.1 ∧ Rep K S H p.2 q.2
section
variable {K : PySem.W.Frag} {S : Sto} {H : Hp} {κ : Type}
theorem repM_of : ∀ {ks : List κ} {ds : List D} {vs : List V}, ks.length = ds.length → RepL K S H ds vs → RepM K S H (ks.zip ds) (ks.zip vs)
  | [], [], vs, _, r => .nil
  | [], d :: ds, vs, hl, r => by simp at hl
  | k :: ks, [], vs, hl, r => by simp at hl
  | k :: ks, d :: ds, vs, hl, r => by
    simp only [RepL] at r
    obtain ⟨v, ws, rfl, r1, r2⟩ := r
    exact .cons ⟨rfl, r1⟩ (repM_of (by simpa using hl) r2)
theorem repM_to : ∀ {m : List (κ × D)} {n : List (κ × V)}, RepM K S H m n → (m.map (·.1)).zip (n.map (·.2)) = n ∧ RepL K S H (m.map (·.2)) (n.map (·.2))
  | [], [], _ => ⟨rfl, repL_nil⟩
  | p :: m, q :: n, .cons h t => by
    obtain ⟨h1, h2⟩ := repM_to t
    obtain ⟨e, r⟩ := h
    refine ⟨?_, ?_⟩
    · rw [List.map_cons, List.map_cons, List.zip_cons_cons, h1, e]
    · rw [List.map_cons, List.map_cons]; exact repL_cons r h2
theorem RepM.any [DecidableEq κ] {k : κ} : ∀ {m : List (κ × D)} {n : List (κ × V)}, RepM K S H m n → (m.any fun p => decide (p.1 = k)) = (n.any fun p => decide (p.1 = k))
  | _, _, .nil => rfl
  | _, _, .cons h t => by rw [List.any_cons, List.any_cons, RepM.any t, h.1]
theorem RepM.snoc {k : κ} {d : D} {v : V} (r : Rep K S H d v) : ∀ {m : List (κ × D)} {n : List (κ × V)}, RepM K S H m n → RepM K S H (m ++ [(k, d)]) (n ++ [(k, v)])
  | _, _, .nil => .cons ⟨rfl, r⟩ .nil
  | _, _, .cons h t => .cons h (RepM.snoc r t)
theorem RepM.mapPut [DecidableEq κ] {k : κ} {d : D} {v : V} (r : Rep K S H d v) : ∀ {m : List (κ × D)} {n : List (κ × V)}, RepM K S H m n → RepM K S H (m.map fun p => if p.1 = k then (p.1, d) else p) (n.map fun p => if p.1 = k then (p.1, v) else p)
  | _, _, .nil => .nil
  | _, _, .cons (a := p) (b := q) h t => by
    refine .cons ?_ (RepM.mapPut r t)
    by_cases e : p.1 = k
    · have e2 : q.1 = k := h.1 ▸ e
      show (if p.1 = k then (p.1, d) else p).1 = (if q.1 = k then (q.1, v) else q).1 ∧ Rep K S H (if p.1 = k then (p.1, d) else p).2 (if q.1 = k then (q.1, v) else q).2
      rw [if_pos e, if_pos e2]
      exact ⟨h.1, r⟩
    · have e2 : ¬ q.1 = k := fun z => e (h.1.trans z)
      show (if p.1 = k then (p.1, d) else p).1 = (if q.1 = k then (q.1, v) else q).1 ∧ Rep K S H (if p.1 = k then (p.1, d) else p).2 (if q.1 = k then (q.1, v) else q).2
      rw [if_neg e, if_neg e2]
      exact h
theorem RepM.put [DecidableEq κ] {k : κ} {d : D} {v : V} {m : List (κ × D)} {n : List (κ × V)} (h : RepM K S H m n) (r : Rep K S H d v) : RepM K S H (putP m k d) (putK n k v) := by
  unfold putP putK
  rw [h.any]
  split
  · exact h.mapPut r
  · exact RepM.snoc r h
theorem RepM.mrg [DecidableEq κ] : ∀ {more : List (κ × D)} {nore : List (κ × V)} {m : List (κ × D)} {n : List (κ × V)}, RepM K S H m n → RepM K S H more nore → RepM K S H (mrgP m more) (nore.foldl (fun acc p => putK acc p.1 p.2) n)
  | _, _, m, n, h, .nil => h
  | _, _, m, n, h, .cons (a := p) (b := q) g t => by
    have := RepM.mrg (h.put (k := p.1) g.2) t
    show RepM K S H (mrgP (putP m p.1 p.2) _) (List.foldl _ (putK n q.1 q.2) _)
    rw [← g.1]
    exact this
theorem RepM.ext {S1 : Sto} {H1 : Hp} (e : Ext S H S1 H1) : ∀ {m : List (κ × D)} {n : List (κ × V)}, RepM K S H m n → RepM K S1 H1 m n
  | _, _, .nil => .nil
  | _, _, .cons h t => .cons ⟨h.1, h.2.ext e⟩ (RepM.ext e t)
theorem RepM.keys : ∀ {m : List (κ × D)} {n : List (κ × V)}, RepM K S H m n → m.map (·.1) = n.map (·.1)
  | _, _, .nil => rfl
  | _, _, .cons h t => by rw [List.map_cons, List.map_cons, RepM.keys t, h.1]
theorem RepM.len {m : List (κ × D)} {n : List (κ × V)} (h : RepM K S H m n) : m.length = n.length := by have := congrArg List.length h.keys; simpa using this
theorem putP_len [DecidableEq κ] (m : List (κ × D)) (k : κ) (d : D) : (putP m k d).length ≤ m.length + 1 := by
  unfold putP
  split <;> simp
theorem mrgP_len [DecidableEq κ] : ∀ (more m : List (κ × D)), (mrgP m more).length ≤ m.length + more.length
  | [], m => Nat.le_refl _
  | p :: more, m => by
    have h1 := mrgP_len more (putP m p.1 p.2)
    have h2 := putP_len m p.1 p.2
    show (mrgP (putP m p.1 p.2) more).length ≤ _
    rw [List.length_cons]
    omega
/-- pairs (k, d) as data -/
def prD (p : Key × D) : D := .tup [kD p.1, p.2]
theorem repL_pairs : ∀ {m : List (Key × D)} {vs : List V}, RepL K S H (m.map prD) vs → ∃ (as : List Addr) (n : List (Key × V)), vs = as.map V.ref ∧ RepM K S H m n ∧ Paired (fun p kv => SqT K H p [kV kv.1, kv.2]) as n
  | [], vs, r => by
    simp only [List.map_nil, RepL] at r
    exact ⟨[], [], r, .nil, .nil⟩
  | p :: m, vs, r => by
    simp only [List.map_cons, RepL] at r
    obtain ⟨v, ws, rfl, r1, r2⟩ := r
    obtain ⟨as, n, rfl, h1, h2⟩ := repL_pairs r2
    unfold prD at r1
    simp only [Rep] at r1
    obtain ⟨a, us, rfl, hq, l⟩ := r1
    simp only [RepL] at l
    obtain ⟨x, us1, rfl, rk, l2⟩ := l
    obtain ⟨y, us2, rfl, rd, l3⟩ := l2
    subst l3
    have ek := rep_kD rk
    subst ek
    exact ⟨a :: as, (p.1, y) :: n, rfl, .cons ⟨rfl, rd⟩ h1, .cons (hq.imp (fun z => z.2) id) h2⟩
end
section
variable {M : Mo} {X : Cx} {S : Sto} {R : RK}
theorem RQ.newD {H : Hp} {Q : VK} (q : RQ M S H R Q) (E : EnvH M S H) {m : List (Key × D)} {n : List (Key × V)} (h : R (dctP m) S) (r : RepM M.K S H m n) : ∀ p, H p = none → Q (.ref p) (upd H p (.dK n)) := fun p hp =>
  q _ _ _ S h (E.new hp) (Ext.new hp) (by
    unfold dctP
    simp only [Rep]
    obtain ⟨h1, h2⟩ := repM_to r
    exact ⟨p, n.map (·.2), rfl, by rw [h1]; exact Im.new (E.none hp), by rw [List.length_map, List.length_map], h2.ext (Ext.new hp)⟩)
theorem RQ.newDM {H : Hp} {Q : VK} (q : RQ M S H R Q) (E : EnvH M S H) {m : List (Key × D)} {n : List (Key × V)} (h : ∀ p, S p = none → R (.ref p) (S.put p (.dct (m.map (·.1)) (m.map (·.2))))) (r : RepM M.K S H m n) : ∀ p, H p = none → Q (.ref p) (upd H p (.dK n)) := fun p hp => by
  obtain ⟨h1, h2⟩ := repM_to r
  exact q _ _ _ _ (h p (E.none hp)) (E.new2 hp ⟨n.map (·.2), by rw [h1], by rw [List.length_map, List.length_map], h2.ext (Ext.new2 hp)⟩) (Ext.new2 hp) (by simp only [Rep])
/-- dict(pairs) of a list -/
theorem cd_dictP (hk : X.K = M.K) (hc : X.calm = true) {d : D} {m : List (Key × D)} (hd : S.view d = .lst (m.map prD)) (h : R (dctP (mrgP [] m)) S) : CD M X (.type "dict") [d] S R := fun H vs Q E r q => by
  simp only [RepL] at r
  obtain ⟨v, ws, rfl, r1, rfl⟩ := r
  obtain ⟨a, vs, e1, h1, l1⟩ := rep_lst E r1 hd
  obtain ⟨as, n, rfl, rm, pr⟩ := repL_pairs l1
  exact (call_dictP hc).wp ⟨a, as, n, by rw [e1], SqL.of h1, by rw [hk]; exact pr, q.newD E h (RepM.mrg .nil rm)⟩
/-- a list that a tuple is made of -/
theorem cd_tupleF (hk : X.K = M.K) {d : D} {ds : List D} (hd : S.view d = .lst ds) (h : R (.tupf ds) S) : CD M X (.type "tuple") [d] S R := fun H vs Q E r q => Bx.mk fun pins s σ us I ru => by
  simp only [RepL] at r
  obtain ⟨v, ws, rfl, r1, rfl⟩ := r
  obtain ⟨a, vs, rfl, h1, l1⟩ := rep_lst E r1 hd
  obtain ⟨u, rfl, ru'⟩ := vals1 ru
  obtain rfl : u = Value.ref a := ru'
  obtain ⟨its, r', pl, hz⟩ := I.list (show SqL X.K H a vs from SqL.of h1)
  have hlen := r'.length
  refine call_tuple_list pl.isList (fun h' kp => ?_) (by simp only [List.size_toArray] <;> omega)
  have I1 : Inv X pins σ H { s with heap := h' } := I.kept (t' := s.toks) kp
  have hp : H h'.objs.size = none := I1.hok.fresh (Nat.le_refl _)
  have I2 : Inv X pins σ (upd H h'.objs.size (.frz { cls := .type "tuple", data := .seq its.toArray } (.tup vs))) { s with heap := h'.push { cls := .type "tuple", data := .seq its.toArray } } :=
    I1.laid (t' := s.toks) (fun b o e => Heap.get?_push_of_some _ e) (Nat.le_refl _) ⟨Heap.get?_push_size _ rfl, hz, its, r', IsTup.new _ _⟩
  refine ⟨.ref h'.objs.size, _, I2, rfl, q _ (.tupf ds) _ S h (E.new hp) (Ext.new hp) ?_⟩
  simp only [Rep]
  exact ⟨_, vs, _, rfl, E.none hp, upd_same, rfl, l1.ext (Ext.new hp)⟩
theorem pairs_ps {pins : List (Addr × Obj)} {σ : L2.St} {H : Hp} {s : Shared} (I : Inv X pins σ H s) : ∀ {as : List Addr} {n : List (Key × V)}, Paired (fun p kv => SqT X.K H p [kV kv.1, kv.2]) as n →
    ∃ (prs : List (Key × Value)) (ps : List (Value × Value)), KV n prs ∧ ps.length = as.length ∧ prs.length = as.length ∧ ∀ (j : Nat) (k v : Value), ps[j]? = some (k, v) → ∃ b q, as[j]? = some b ∧ IsTup s.heap b #[k, v] ∧ prs[j]? = some (q, v) ∧ keyIs q k = true
  | _, _, .nil => ⟨[], [], .nil, rfl, rfl, fun j k v e => by simp at e⟩
  | _, _, .cons (a := p) (b := kv) h t => by
    obtain ⟨prs, ps, r, hl, hl2, hp⟩ := pairs_ps I t
    obtain ⟨its, rv, ht, _⟩ := I.tuple h
    obtain ⟨u, y, ei, ru, ry⟩ := vals2 rv
    subst ei
    refine ⟨(kv.1, y) :: prs, (u, y) :: ps, .cons ⟨rfl, ry⟩ r, by rw [List.length_cons, List.length_cons, hl], by rw [List.length_cons, List.length_cons, hl2], fun j k v e => ?_⟩
    cases j with
    | zero =>
      have e' : (u, y) = (k, v) := Option.some.inj e
      cases e'
      exact ⟨p, kv.1, rfl, ht, rfl, kV_is (P := X.prog) (w := X.w) ru⟩
    | succ j =>
      obtain ⟨b, qq, e1, e2, e3, e4⟩ := hp j k v (by simpa using e)
      exact ⟨b, qq, by simpa using e1, e2, by simpa using e3, e4⟩
/-- dict(pairs) of a tuple -/
theorem cd_dictT (hk : X.K = M.K) (hc : X.calm = true) {m : List (Key × D)} (h : R (dctP (mrgP [] m)) S) : CD M X (.type "dict") [.tupf (m.map prD)] S R := fun H vs Q E r q => Bx.mk fun pins s σ us I ru => by
  simp only [RepL] at r
  obtain ⟨v, ws, rfl, r1, rfl⟩ := r
  simp only [Rep] at r1
  obtain ⟨a, vs, o, rfl, sa, ha, od, l1⟩ := r1
  obtain ⟨as, n, rfl, rm, pr⟩ := repL_pairs l1
  obtain ⟨u, rfl, ru'⟩ := vals1 ru
  obtain rfl : u = Value.ref a := ru'
  obtain ⟨go, hz, its, rv, ⟨o', go', oc, nn, odat⟩⟩ := I.hok a _ ha
  rw [go] at go'
  cases go'
  have ei := refs_at rv
  subst ei
  rw [List.length_map] at hz
  obtain ⟨prs, ps, rel, hl1, hl2, hpr⟩ := pairs_ps (X := X) I (by rw [hk]; exact pr)
  refine PySem.call_dict_pairs (knd := mixKind X.prog X.w) (kvs := prs) (PySem.PairArg.tuple a (as.map Value.ref).toArray (fun j => as.getD j 0) ps) (I.ok.hd hc) ⟨⟨_, nn, go, oc, od, odat⟩, by simp [hl1], fun j k v e => ?_⟩ ⟨by rw [hl2, hl1], fun i key v e => ?_⟩ (by rw [hl1]; exact hz) fun h' tk hd' k => ?_
  · obtain ⟨b, qq, e1, e2, e3, e4⟩ := hpr j k v e
    have eb : as.getD j 0 = b := by rw [List.getD_eq_getElem?_getD, e1]; rfl
    show (List.map Value.ref as).toArray[j]? = some (Value.ref (as.getD j 0)) ∧ PySem.PairAt s.heap (as.getD j 0) k v
    rw [eb]
    exact ⟨by simp [e1], .inl e2⟩
  · obtain ⟨b, qq, e1, e2, e3, e4⟩ := hpr i key v e
    exact ⟨qq, e3, e4⟩
  · have hm : (s.heap.objs.size == sysModules) = false := beq_eq_false_iff_ne.mpr (Nat.ne_of_gt I.big)
    have hlen : (mergeK [] n).length ≤ sizeLine := by
      refine Nat.le_trans (length_mergeK n []) ?_
      rw [List.length_nil, Nat.zero_add, rel.length, hl2]
      exact hz
    have hp : H s.heap.objs.size = none := I.hok.fresh (Nat.le_refl _)
    refine ⟨.ref s.heap.objs.size, upd H s.heap.objs.size (.dK (mergeK [] n)), I.laid (t' := tk) (fun b o e => k b o (by simp) e) (Nat.le_refl _) (show ObjOk X.prog X.w _ _ _ (.dK (mergeK [] n)) from ⟨hlen, hm, merged [] prs, KV.merge rel .nil, hd'⟩), rfl, q.newD E h (RepM.mrg .nil rm) _ hp⟩
end
end QD
set_option maxHeartbeats 4000000
/-! The walk over data: methods of lists and texts, dict displays, comparisons, max, sorted, slices. -/
namespace QD
open PySem PySem.Spec PyProof.Rows L2 GenW

theorem Sto.del_put2 {S : Sto} {a : Addr} {c : Cell} : (S.put a c).del a = S.del a := by
  funext b
  by_cases e : b = a
  · subst e; rw [Sto.del_same, Sto.del_same]
  · rw [Sto.del_ne e, Sto.del_ne e, Sto.put_ne e]
section
variable {F : Fix} {N : List Str} {sc : Scope} {k : Nat} {X : Cx} {W : WX} {Γ : Ga} {S : Sto} {R : RK} {Z : ZK} {a b e o : Expr} {pos pos' apos p : Pos} {M : Mo}
/-- o.append(e) as a value -/
theorem ax_append (h : AX F.M X W o Γ S (fun d S1 => (∃ l ds, d = .ref l ∧ S1 l = some (.lst ds)) ∧ AX F.M X W e Γ S1 (fun y S2 => ∃ l ds, d = .ref l ∧ S2 l = some (.lst ds) ∧ ds.length < sizeLine ∧ R .non (S2.put l (.lst (ds ++ [y])))) Z) Z)
    (hbase : attributeBase o "append" X.env (eval o X.env) = eval o X.env := by rfl) (hst : starEach (e :: []) X.env = (false, eval e X.env) :: starEach [] X.env := by rfl)
    (hfew : ((backTo pos (starEach (e :: []) X.env)).all (fun x => !x.1) && (backToKw pos (keywordEach [] X.env)).all (fun x => x.1.isSome)
      && decide ((e :: []).length + ([] : List Keyword).length + (if ([] : List Keyword).isEmpty then 0 else 1) < 30)) = true := by rfl) (hline : (apos.endLine == pos.line) = true := by rfl) (hpl : (backTo pos (starEach [] X.env)).any (·.1) = false := by rfl) :
    AX F.M X W (.Call (.Attribute o "append" apos) [e] [] pos) Γ S R Z := fun σ H Q E q z =>
  (pe_bm PySem.F.plainAttrs_list PySem.F.slot_list_append PySem.F.type_list_append mt_append pe_wp (pa_cons pe_wp pa_nil hst) hbase hfew hline hst hpl).wp
    (h σ H _ E (fun v d H1 S1 ⟨⟨l, ds, ed, hl⟩, h1⟩ E1 x1 r1 => by
      subst ed
      simp only [Rep] at r1
      obtain ⟨u, hu, vs, rfl, lv⟩ := E1.cell l _ hl
      refine ⟨by rw [r1]; exact .inl ⟨rfl, vs, SqL.of hu⟩, ?_⟩
      refine h1 σ H1 _ (E.ext E1 x1) (fun w y H2 S2 ⟨l2, ds2, e2, hl2, hz, hR⟩ E2 x2 r2 => ?_) (z.ext x1)
      cases e2
      obtain ⟨u2, hu2, vs2, rfl, lv2⟩ := E2.cell l _ hl2
      refine ⟨l, vs2, w, r1, rfl, hu2, by rw [← lv2.length]; exact hz, ?_⟩
      exact q _ _ _ _ hR (E2.set hl2 ⟨_, rfl, (lv2.append (repL_cons r2 repL_nil)).ext (Ext.set hl2)⟩) ((x1.trans x2).trans (Ext.set hl2)) (by simp only [Rep])) z)
/-- sep.join(list) -/
theorem ax_join (h : AX F.M X W o Γ S (fun d S1 => ∃ s, d = .str s ∧ AX F.M X W e Γ S1 (fun y S2 => ∃ ys : List Str, S2.view y = .lst (ys.map D.str) ∧ (ys.map (·.length)).sum + ys.length * s.length ≤ 16777216 ∧ R (.str (Txt.join s ys)) S2) Z) Z)
    (hs : starEach [e] X.env = [(false, eval e X.env)] := by rfl) (hbase : attributeBase o "join" X.env (eval o X.env) = eval o X.env := by rfl) (hline : (apos.endLine == pos.line) = true := by rfl) :
    AX F.M X W (.Call (.Attribute o "join" apos) [e] [] pos) Γ S R Z := fun σ H Q E q z =>
  (pe_join pe_wp pe_wp hs hbase hline).wp (h σ H _ E (fun v d H1 S1 ⟨s, ed, h1⟩ E1 x1 r1 => by
    subst ed
    simp only [Rep] at r1
    refine ⟨⟨s, r1⟩, h1 σ H1 _ (E.ext E1 x1) (fun w y H2 S2 ⟨ys, hv, hz, hR⟩ E2 x2 r2 => ?_) (z.ext x1)⟩
    obtain ⟨l, vs, ew, hl, lv⟩ := rep_lst E2 r2 hv
    rw [repL_strs lv] at hl
    exact ⟨s, l, ys, r1, by rw [ew], .inl (SqL.of hl), hz, q _ _ H2 S2 hR E2 (x1.trans x2) (by simp only [Rep])⟩) z)
/-- x.split(sep) -/
theorem ax_split (h : AX F.M X W o Γ S (fun d S1 => ∃ s, d = .str s ∧ AX F.M X W e Γ S1 (fun y S2 => ∃ t : Str, y = .str t ∧ (t.length == 0) = false ∧ s.length + 2 ≤ sizeLine ∧ R (.lst ((Txt.split s t).map D.str)) S2) Z) Z)
    (hs : starEach [e] X.env = [(false, eval e X.env)] := by rfl) (hbase : attributeBase o "split" X.env (eval o X.env) = eval o X.env := by rfl) (hline : (apos.endLine == pos.line) = true := by rfl) :
    AX F.M X W (.Call (.Attribute o "split" apos) [e] [] pos) Γ S R Z := fun σ H Q E q z =>
  (pe_split pe_wp pe_wp hs hbase hline).wp (h σ H _ E (fun v d H1 S1 ⟨s, ed, h1⟩ E1 x1 r1 => by
    subst ed
    simp only [Rep] at r1
    refine ⟨⟨s, r1⟩, h1 σ H1 _ (E.ext E1 x1) (fun w y H2 S2 ⟨t, ey, h0, hz, hR⟩ E2 x2 r2 => ?_) (z.ext x1)⟩
    subst ey
    simp only [Rep] at r2
    refine ⟨s, t, r1, by rw [r2], h0, hz, fun l hl => ?_⟩
    exact (q.ext (x1.trans x2)).newL E2 hR (repL_of fun y _ => by simp only [Rep]) l hl) z)
/-! ### dict displays -/
def APs (M : Mo) (X : Cx) (W : WX) (Γ : Ga) (Z : ZK) : List (Expr × Expr) → Sto → (List (D × D) → Sto → Prop) → Prop
  | [], S, R => R [] S
  | (ke, ve) :: r, S, R => AX M X W ke Γ S (fun d1 S1 => AX M X W ve Γ S1 (fun d2 S2 => APs M X W Γ Z r S2 fun ps S3 => R ((d1, d2) :: ps) S3) Z) Z
def wpTr (X : Cx) (es : List (Expr × Expr)) : List (TE × TE) := es.map fun q => (wpE X q.1, wpE X q.2)
theorem pps_wp (X : Cx) (pos : Pos) : ∀ es : List (Expr × Expr), PPs X pos (es.map fun q => some q.1) (es.map (·.2)) (wpTr X es)
  | [] => pps_nil
  | (a, b) :: es => pps_cons pe_wp pe_wp (pps_wp X pos es)
theorem aps_go : ∀ {es : List (Expr × Expr)} {S : Sto} {R : List (D × D) → Sto → Prop} {σ : L2.St} {H : Hp} {Q : List (V × V) → Hp → Prop}, APs M X W Γ Z es S R → Env M σ H Γ S → ZQ M S H Z W →
    (∀ ps vs H' S', R ps S' → EnvH M S' H' → Ext S H S' H' → Paired (fun (d : D × D) (v : V × V) => Rep M.K S' H' d.1 v.1 ∧ Rep M.K S' H' d.2 v.2) ps vs → Q vs H') → tPairs (wpTr X es) σ H Q
  | [], S, R, σ, H, Q, h, E, z, q => q [] [] H S h E.hp Ext.refl .nil
  | (a, b) :: es, S, R, σ, H, Q, h, E, z, q => by
    show wpE X a σ H _
    refine h σ H _ E (fun v1 d1 H1 S1 h1 E1 x1 r1 => ?_) z
    show wpE X b σ H1 _
    refine h1 σ H1 _ (E.ext E1 x1) (fun v2 d2 H2 S2 h2 E2 x2 r2 => ?_) (z.ext x1)
    refine aps_go h2 ((E.ext E1 x1).ext E2 x2) ((z.ext x1).ext x2) fun ps vs H' S' hr E' x' pr => ?_
    exact q _ _ H' S' hr E' ((x1.trans x2).trans x') (.cons ⟨(r1.ext x2).ext x', r2.ext x'⟩ pr)
theorem pairs_kD {K : PySem.W.Frag} {S : Sto} {H : Hp} : ∀ {m : List (Key × D)} {vs : List (V × V)}, Paired (fun (d : D × D) (v : V × V) => Rep K S H d.1 v.1 ∧ Rep K S H d.2 v.2) (m.map fun p => (kD p.1, p.2)) vs → ∃ n : List (Key × V), vs = n.map (fun kv => (kV kv.1, kv.2)) ∧ RepM K S H m n
  | [], vs, h => by
    rw [List.map_nil] at h
    cases h
    exact ⟨[], rfl, .nil⟩
  | p :: m, vs, h => by
    rw [List.map_cons] at h
    cases h with
    | cons h t =>
      obtain ⟨n, rfl, r⟩ := pairs_kD t
      obtain ⟨h1, h2⟩ := h
      refine ⟨(p.1, _) :: n, ?_, .cons ⟨rfl, h2⟩ r⟩
      rw [List.map_cons, ← rep_kD h1]
/-- {k: v, ..}, at most fifteen -/
theorem ax_disp (es : List (Expr × Expr)) (h0 : es ≠ []) (h15 : es.length ≤ 15) (h : ∀ l, S l = none → APs F.M X W Γ Z es (S.put l (.dct [] [])) (fun ps S' => S' l = some (.dct [] []) ∧ ∃ m : List (Key × D), ps = m.map (fun p => (kD p.1, p.2)) ∧ m.length ≤ 15 ∧ R (dctP (mrgP [] m)) (S'.del l))) :
    AX F.M X W (.Dict (es.map fun q => some q.1) (es.map (·.2)) pos) Γ S R Z := fun σ H Q E q z =>
  (pe_disp (pps_wp X pos es) (by rw [List.all_map]; simp) (by rw [List.length_map, List.length_map]) (by simpa using h0) (by rw [List.length_map]; exact h15)).wp (by
    intro l hl
    have xp : Ext S H (S.put l (.dct [] [])) (upd H l (.dK [])) := Ext.new2 hl
    have Ep : EnvH F.M (S.put l (.dct [] [])) (upd H l (.dK [])) := E.hp.new2 hl ⟨[], rfl, rfl, repL_nil⟩
    refine aps_go (h l (E.hp.none hl)) (E.ext Ep xp) (z.ext xp) fun ps vs H' S' ⟨hs, m, ep, h15', hR⟩ E' x' pr => ?_
    subst ep
    obtain ⟨n, rfl, rm⟩ := pairs_kD pr
    obtain ⟨u, hu, ws, rfl, _, lw⟩ := E'.cell l _ hs
    have el : ws = [] := by simpa only [RepL] using lw
    subst el
    refine ⟨hu, n, rfl, ?_, ?_⟩
    · rw [← rm.len]; exact h15'
    · obtain ⟨g1, g2⟩ := repM_to (RepM.mrg .nil rm)
      have x2 : Ext S' H' (S'.put l (.dct ((mrgP [] m).map (·.1)) ((mrgP [] m).map (·.2)))) (upd H' l (.dK (mergeK [] n))) := Ext.set hs
      have E2 : EnvH F.M (S'.put l (.dct ((mrgP [] m).map (·.1)) ((mrgP [] m).map (·.2)))) (upd H' l (.dK (mergeK [] n))) := E'.set hs ⟨_, by rw [g1]; rfl, by rw [List.length_map, List.length_map], g2.ext x2⟩
      have E3 := E2.del l
      have x3 := ((xp.trans x').trans x2).trans (Ext.del (H := upd H' l (.dK (mergeK [] n))) l)
      rw [Sto.del_put2] at E3 x3
      refine q _ _ _ _ hR E3 x3 ?_
      unfold dctP
      simp only [Rep]
      refine ⟨l, _, rfl, ⟨Sto.del_same, .inl (by rw [g1]; exact upd_same)⟩, by rw [List.length_map, List.length_map], ?_⟩
      have x4 := x2.trans (Ext.del (H := upd H' l (.dK (mergeK [] n))) l)
      rw [Sto.del_put2] at x4
      exact g2.ext x4)
end
end QD
set_option maxHeartbeats 4000000
/-! The walk over data: comparisons of data. -/
namespace QD
open PySem PySem.Spec PyProof.Rows L2 GenW

mutual
/-- data as one compares it -/
def toP : D → Option PyData
  | .non => some .none
  | .bl b => some (.bool b)
  | .int i => some (.int i)
  | .str x => some (.str x)
  | .lst ds => (toPs ds).map .list
  | .tup ds => (toPs ds).map .tuple
  | .tupf ds => (toPs ds).map .tuple
  | _ => none
def toPs : List D → Option (List PyData)
  | [] => some []
  | d :: ds => (toP d).bind fun p => (toPs ds).map fun ps => p :: ps
end
theorem toPs_map {α : Type} {f : α → D} {g : α → PyData} (h : ∀ x, toP (f x) = some (g x)) : ∀ xs : List α, toPs (xs.map f) = some (xs.map g)
  | [] => rfl
  | x :: xs => by
    simp only [List.map_cons, toPs, h x, toPs_map h xs]
    rfl
theorem canAll_map {α : Type} {g : α → PyData} : ∀ (xs : List α), (∀ x ∈ xs, (g x).canLay0 = true) → PyData.canLayAll0 (xs.map g) = true
  | [], _ => rfl
  | x :: xs, h => by
    simp only [List.map_cons, PyData.canLayAll0, h x List.mem_cons_self, canAll_map xs fun y hy => h y (List.mem_cons_of_mem _ hy), Bool.and_self]
theorem depAll_map {α : Type} {g : α → PyData} {n : Nat} : ∀ (xs : List α), (∀ x ∈ xs, (g x).depth ≤ n) → PyData.depthAll (xs.map g) ≤ n
  | [], _ => Nat.zero_le _
  | x :: xs, h => by
    have h1 := h x List.mem_cons_self
    have h2 := depAll_map xs fun y hy => h y (List.mem_cons_of_mem _ hy)
    show max (g x).depth (PyData.depthAll (xs.map g)) ≤ n
    omega
theorem shaped_list {α : Type} {g : α → PyData} {n : Nat} {xs : List α} (h : ∀ x ∈ xs, (g x).canLay0 = true ∧ (g x).depth ≤ n) (hn : n + 1 ≤ 64) : SeqAt.shaped (.list (xs.map g)) = true := by
  have h1 := canAll_map xs fun x hx => (h x hx).1
  have h2 := depAll_map xs fun x hx => (h x hx).2
  have e1 : (PyData.list (xs.map g)).canLay0 = true := h1
  have e2 : (PyData.list (xs.map g)).depth = PyData.depthAll (xs.map g) + 1 := rfl
  unfold SeqAt.shaped
  rw [e1, e2]
  simpa using by omega
theorem shaped_tup {α : Type} {g : α → PyData} {n : Nat} {xs : List α} (h : ∀ x ∈ xs, (g x).canLay0 = true ∧ (g x).depth ≤ n) (hn : n + 1 ≤ 64) : SeqAt.shaped (.tuple (xs.map g)) = true := by
  have h1 := canAll_map xs fun x hx => (h x hx).1
  have h2 := depAll_map xs fun x hx => (h x hx).2
  have e1 : (PyData.tuple (xs.map g)).canLay0 = true := h1
  have e2 : (PyData.tuple (xs.map g)).depth = PyData.depthAll (xs.map g) + 1 := rfl
  unfold SeqAt.shaped
  rw [e1, e2]
  simpa using by omega
theorem toPs_mapM {α : Type} {f : α → D} {g : α → PyData} : ∀ (xs : List α), (∀ x ∈ xs, toP (f x) = some (g x)) → toPs (xs.map f) = some (xs.map g)
  | [], _ => rfl
  | x :: xs, h => by
    simp only [List.map_cons, toPs, h x List.mem_cons_self, toPs_mapM xs fun y hy => h y (List.mem_cons_of_mem _ hy)]
    rfl
section
variable {M : Mo} {S : Sto} {H : Hp}
mutual
theorem dp_of (E : EnvH M S H) : ∀ {d : D} {v : V} {p : PyData}, toP d = some p → Rep M.K S H d v → Dp M.K H v p
  | .non, v, p, h, r => by simp only [toP, Option.some.injEq] at h; simp only [Rep] at r; rw [← h, r]; exact .non
  | .bl b, v, p, h, r => by simp only [toP, Option.some.injEq] at h; simp only [Rep] at r; rw [← h, r]; exact .bl b
  | .int b, v, p, h, r => by simp only [toP, Option.some.injEq] at h; simp only [Rep] at r; rw [← h, r]; exact .int b
  | .str b, v, p, h, r => by simp only [toP, Option.some.injEq] at h; simp only [Rep] at r; rw [← h, r]; exact .str b
  | .lst ds, v, p, h, r => by
    simp only [toP, Option.map_eq_some_iff] at h
    obtain ⟨ps, h1, rfl⟩ := h
    simp only [Rep] at r
    obtain ⟨a, vs, rfl, _, h2, h3⟩ := r
    exact .lst (SqL.of h2) (dpl_of E h1 h3)
  | .tup ds, v, p, h, r => by
    simp only [toP, Option.map_eq_some_iff] at h
    obtain ⟨ps, h1, rfl⟩ := h
    simp only [Rep] at r
    obtain ⟨a, vs, rfl, h2, h3⟩ := r
    exact .tup (h2.imp (fun z => z.2) id) (dpl_of E h1 h3)
  | .tupf ds, v, p, h, r => by
    simp only [toP, Option.map_eq_some_iff] at h
    obtain ⟨ps, h1, rfl⟩ := h
    simp only [Rep] at r
    obtain ⟨a, vs, o, rfl, _, h2, _, h3⟩ := r
    exact .tup (.inl (.inr ⟨o, h2⟩)) (dpl_of E h1 h3)
  | .dct _ _, v, p, h, r => by simp only [toP] at h; cases h
  | .dcu _ _, v, p, h, r => by simp only [toP] at h; cases h
  | .obj _ _ _, v, p, h, r => by simp only [toP] at h; cases h
  | .ref _, v, p, h, r => by simp only [toP] at h; cases h
  | .scr _, v, p, h, r => by simp only [toP] at h; cases h
  | .fnc _ _ _ _ _, v, p, h, r => by simp only [toP] at h; cases h
theorem dpl_of (E : EnvH M S H) : ∀ {ds : List D} {vs : List V} {ps : List PyData}, toPs ds = some ps → RepL M.K S H ds vs → DpAll M.K H vs ps
  | [], vs, ps, h, r => by
    simp only [toPs, Option.some.injEq] at h
    simp only [RepL] at r
    rw [← h, r]
    exact .nil
  | d :: ds, vs, ps, h, r => by
    simp only [toPs, Option.bind_eq_some_iff, Option.map_eq_some_iff] at h
    obtain ⟨p, h1, qs, h2, rfl⟩ := h
    simp only [RepL] at r
    obtain ⟨v, ws, rfl, r1, r2⟩ := r
    exact .cons (dp_of E h1 r1) (dpl_of E h2 r2)
end
theorem dp_view (E : EnvH M S H) {d : D} {v : V} {p : PyData} (h : toP (S.view d) = some p) (r : Rep M.K S H d v) : Dp M.K H v p := by
  rcases view_cases (S := S) (d := d) rfl with (e | ⟨ds, e1, e2⟩) | ⟨a, c, e1, e2, e3⟩
  · rw [← e] at h; exact dp_of E h r
  · rw [e2] at h
    subst e1
    exact dp_of E (d := .tupf ds) h r
  · cases hc : S.view d with
    | lst ds =>
      rw [hc] at h
      obtain ⟨l, vs, rfl, hl, lv⟩ := rep_lst E r hc
      simp only [toP, Option.map_eq_some_iff] at h
      obtain ⟨ps, h1, rfl⟩ := h
      exact .lst (SqL.of hl) (dpl_of E h1 lv)
    | tup ds =>
      rw [hc] at h
      obtain ⟨l, vs, rfl, hl, lv⟩ := rep_tup E r hc
      simp only [toP, Option.map_eq_some_iff] at h
      obtain ⟨ps, h1, rfl⟩ := h
      exact .tup hl (dpl_of E h1 lv)
    | _ =>
      rw [hc] at e3
      cases c with
      | frz o c => cases c <;> cases e3 <;> (rw [hc] at h; simp only [toP] at h; cases h)
      | _ => cases e3 <;> (rw [hc] at h; simp only [toP] at h; cases h)
variable {X : Cx} {R : RK}
theorem bd_eqP (hk : X.K = M.K) (hu : X.A.units + 64 < cLine) {d e : D} {p q : PyData} (hd : toP (S.view d) = some p) (he : toP (S.view e) = some q) (h1 : SeqAt.shaped p = true) (h2 : SeqAt.shaped q = true) (h : R (.bl (PyData.eqv p q)) S) : BD M X (compareOp .Eq) d e S R := fun H v1 v2 Q E r1 r2 qq =>
  (op_eqD hu).wp ⟨p, q, by rw [hk]; exact dp_view E hd r1, by rw [hk]; exact dp_view E he r2, h1, h2, qq.now E h (by simp only [Rep])⟩
theorem bd_neP (hk : X.K = M.K) (hu : X.A.units + 64 < cLine) {d e : D} {p q : PyData} (hd : toP (S.view d) = some p) (he : toP (S.view e) = some q) (h1 : SeqAt.shaped p = true) (h2 : SeqAt.shaped q = true) (h : R (.bl (!PyData.eqv p q)) S) : BD M X (compareOp .NotEq) d e S R := fun H v1 v2 Q E r1 r2 qq =>
  (op_neD hu).wp ⟨p, q, by rw [hk]; exact dp_view E hd r1, by rw [hk]; exact dp_view E he r2, h1, h2, qq.now E h (by simp only [Rep])⟩
/-- a tuple, and the empty one -/
theorem bd_neT0 (hk : X.K = M.K) (hu : X.A.units < cLine) {d e : D} {ds : List D} (hd : S.view d = .tup ds) (he : S.view e = .tup []) (h : R (.bl (!ds.isEmpty)) S) : BD M X (compareOp .NotEq) d e S R := fun H v1 v2 Q E r1 r2 qq => Bx.mk fun pins s σ u1 u2 I q1 q2 => by
  obtain ⟨a, vs, rfl, ha, la⟩ := rep_tup E r1 hd
  obtain ⟨b, ws, rfl, hb, lb⟩ := rep_tup E r2 he
  simp only [RepL] at lb
  subst lb
  obtain rfl : u1 = Value.ref a := q1
  obtain rfl : u2 = Value.ref b := q2
  obtain ⟨its, rv, pa, _⟩ := I.tuple (by rw [hk]; exact ha)
  obtain ⟨its2, rv2, pb, _⟩ := I.tuple (by rw [hk]; exact hb)
  cases rv2
  refine SeqAt.RcNeAt.tuples (e := fun _ => true) pa pb hu (fun j h1 h2 => by simp at h2) X.prog X.w _ _ ?_
  have e : (!((List.range (min its.toArray.size ([] : List Value).toArray.size)).all (fun _ => true) && its.toArray.size == ([] : List Value).toArray.size)) = !ds.isEmpty := by
    have hl : its.length = ds.length := by rw [← rv.length, ← la.length]
    cases ds with
    | nil =>
      have : its = [] := List.length_eq_zero_iff.mp (by simpa using hl)
      subst this
      rfl
    | cons d ds =>
      cases its with
      | nil => simp at hl
      | cons i its => simp
  rw [e]
  exact ⟨.bl _, H, I, rfl, qq.now E h (by simp only [Rep])⟩
/-- a dict, and an empty one -/
theorem bd_eqD0 (hu : X.A.units < cLine) {d e : D} {ks : List Key} {ds : List D} (hd : S.view d = .dct ks ds) (he : S.view e = .dct [] []) (h : R (.bl ks.isEmpty) S) : BD M X (compareOp .Eq) d e S R := fun H v1 v2 Q E r1 r2 qq => Bx.mk fun pins s σ u1 u2 I q1 q2 => by
  obtain ⟨a, vs, rfl, ha, h0, la⟩ := rep_dct E r1 hd
  obtain ⟨b, ws, rfl, hb, h1, lb⟩ := rep_dct E r2 he
  obtain rfl : u1 = Value.ref a := q1
  obtain rfl : u2 = Value.ref b := q2
  obtain ⟨_, ya, va, ra, da⟩ := ha.ok I.hok
  obtain ⟨_, yb, vb, rb, db⟩ := hb.ok I.hok
  have hl : va.length = ks.length := by
    have := ra.length
    rw [List.length_zip, ← la.length, h0, Nat.min_self] at this
    omega
  have hl2 : vb.length = 0 := by
    have := rb.length
    simpa using this.symm
  refine PySem.W.keq_eq (knd := mixKind X.prog X.w) (r := true) ya yb da db hu (fun q => ?_) ?_
  · have : va = [] := List.length_eq_zero_iff.mp (by rw [q, hl2])
    rw [this]
    exact .nil
  · have e : (va.length == vb.length && true) = ks.isEmpty := by
      rw [hl, hl2]
      cases ks <;> rfl
    rw [e]
    exact ⟨.bl _, H, I, rfl, qq.now E h (by simp only [Rep])⟩
end
end QD
set_option maxHeartbeats 4000000
/-! The walk over data: an object beside a text, max of a dict, sorted, slices. -/
namespace QD
open PySem PySem.Spec PyProof.Rows L2 GenW

section
variable {M : Model} {prog : Program} {w : World} {A : Around} {E : Value → Shared → Prop} {s : Shared} {K : PySem.W.Frag} {x C : Addr} {ox : Obj} {od : Option Obj} {z : Str} {t : Tok}
theorem os_same {R : Bool → Shared → Prop} (h : R false s) : wpAny M A (isSame (.ref x) (.str z t)) R E s := wpAny_of_eq (rfl : isSame (.ref x) (.str z t) = pure false) h
theorem os_entry {Q : Fin → Shared → Prop} (hq : Q (.done (.ret .notImplemented)) s) : wpAny M A (Builtin.«object.__eq__» ⟨[.ref x, .str z t], []⟩) Q E s := by
  unfold Builtin.«object.__eq__»
  repeat (first | with_reducible refine os_same ?_ | wp_step)
  exact hq
theorem os_call {Q : Value → Shared → Prop} (X : K.In s.heap) (I : PySem.W.InstAt s.heap x ox C od) (hm : PySem.W.mroIn K C (.type "object") = some true) (hq : Q .notImplemented s) :
    wpAny (model prog w) A (call (.builtin "object.__eq__") [.ref x, .str z t]) Q E s :=
  wpAny_call (codeAny_call_builtin PySem.F.cmp_object.eq.plain PySem.F.cmpEntry_eq (PySem.W.check_slot PySem.F.cmpKind_eq PySem.F.cmpSplit_eq (I.type.andThen (PySem.W.looks_mroIn X hm)) (PySem.F.cmpArgs_eq _ _) (os_entry hq)))
theorem os_sub : PySem.W.subIn K (.type "str") (.ref C) = some false := by
  have e : fastBuiltinMro "str" = some [.type "str", .type "object"] := by decide +kernel
  show (fastBuiltinMro "str").map (·.contains (.ref C)) = some false
  rw [e]
  first
    | rfl
    | simp
theorem os_str {o : Obj} (hx : s.heap.get? x = some o) (hd : ∀ a b, o.data ≠ .prim (.str a b)) {Q : Fin → Shared → Prop} (hq : Q (.done (.ret .notImplemented)) s) : wpAny M A (Builtin.«str.__eq__» ⟨[.str z t, .ref x], []⟩) Q E s := by
  obtain ⟨hp, g, d, tk, os⟩ := s
  have ha : ∀ {Q' : Option Str → Shared → Prop}, Q' none ⟨hp, g, d, tk, os⟩ → wpAny M A (asStr? (.ref x)) Q' E ⟨hp, g, d, tk, os⟩ := fun {Q'} h => by
    unfold asStr?
    refine wpAny_bind (wpAny_load hx ?_)
    split
    · rename_i e
      exact absurd e (hd _ _)
    · exact wpAny_pure h
  wp_walk using ha
  split
  · rename_i e
    exact absurd e (hd _ _)
  · refine wpAny_pure ?_
    refine wpAny_bind (wpAny_rule (wpAny_pure ?_))
    exact hq
theorem os_rc (hu : A.units < cLine) (X : K.In s.heap) (I : PySem.W.InstAt s.heap x ox C od) (hx : s.heap.get? x = some ox) (hd : ∀ a b, ox.data ≠ .prim (.str a b)) (hm : PySem.W.mroIn K C (.type "object") = some true) (hs : PySem.W.findIn K (.ref C) "__eq__" = some (some (.builtin "object.__eq__")))
    {Q : Value → Shared → Prop} (h : Q (.bool false) s) : wpAny (model prog w) A (compareOp .Eq (.ref x) (.str z t)) Q E s := by
  have one : wpAny (model prog w) A (tryCompare (.ref x) "__eq__" (.str z t)) (fun r s' => r = none ∧ s' = s) E s := by
    unfold tryCompare
    exact wpAny_bind (HN.ifBound_objEq X I hs (os_call X I hm (wpAny_pure ⟨rfl, rfl⟩)))
  have two : wpAny (model prog w) A (tryCompare (.str z t) "__eq__" (.ref x)) (fun r s' => r = none ∧ s' = s) E s :=
    wpAny_tryCompare_declines (typeIs_str s z t) PySem.F.slot_str_eq_refl (wpAny_call_entry PySem.F.slot_str_eq_refl (typeIs_str s z t) PySem.F.entry_str_eq (os_str hx hd ⟨_, rfl, rfl, rfl, rfl⟩) (PySem.F.args_str_eq_2 _ _))
  show wpAny _ A (richCompare .Eq (.ref x) (.str z t)) Q E s
  simp only [richCompare, cmpInfo_Eq, oneThing_ref]
  refine wpAny_holding (wpAny_bind (wpAny_cRoomFor hu ?_))
  refine wpAny_bind (I.type.here ?_)
  refine wpAny_bind (wpAny_typeOf (typeIs_str s z t) ?_)
  split
  · refine wpAny_bind ((PySem.W.looks_subIn X os_sub).here ?_)
    simp only [Bool.false_eq_true, if_false, Bool.not_false, if_true]
    refine wpAny_bind (m := tryCompare (.ref x) _ (.str z t)) (wpAny_mono one (fun r s1 z => ?_) fun _ _ e => e)
    obtain ⟨z1, z2⟩ := z
    subst z1
    subst z2
    refine wpAny_bind (m := tryCompare (.str _ t) _ (.ref x)) (wpAny_mono two (fun r s2 z => ?_) fun _ _ e => e)
    obtain ⟨z1, z2⟩ := z
    subst z1
    subst z2
    exact wpAny_bind (wpAny_rule (wpAny_bind (os_same (wpAny_pure h))))
  · rename_i q
    exact absurd (by simp) q
end
end QD
set_option maxHeartbeats 4000000
/-! The walk over data: an object beside a text, max of a dict, sorted, slices, by data. -/
namespace QD
open PySem PySem.Spec PyProof.Rows L2 GenW

/-- the class has no == of its own -/
structure NoEq (K : PySem.W.Frag) (C : Addr) : Prop where
  mro : PySem.W.mroIn K C (.type "object") = some true
  eq : PySem.W.findIn K (.ref C) "__eq__" = some (some (.builtin "object.__eq__"))
section
variable {M : Mo} {X : Cx} {S : Sto} {R : RK}
theorem bd_eqO (hk : X.K = M.K) (hu : X.A.units < cLine) {d : D} {C : Addr} {ns : List Str} {ds : List D} {z : Str} (hd : S.view d = .obj C ns ds) (ne : NoEq M.K C) (h : R (.bl false) S) : BD M X (compareOp .Eq) d (.str z) S R := fun H v1 v2 Q E r1 r2 qq => Bx.mk fun pins s σ u1 u2 I q1 q2 => by
  obtain ⟨a, dx, vs, rfl, ha, h0, la⟩ := rep_obj E r1 hd
  simp only [Rep] at r2
  subst r2
  obtain rfl : u1 = Value.ref a := q1
  obtain ⟨t, rfl⟩ := q2
  obtain ⟨mA, O, _⟩ := ins_get I.hok ha
  obtain ⟨od, J, _⟩ := O.look
  have hx : s.heap.get? a = some (PySem.W.instObj C dx) := (I.hok a _ ha).2.2.2.1
  exact os_rc hu I.kIn J hx (fun _ _ e => by cases e) (by rw [hk]; exact ne.mro) (by rw [hk]; exact ne.eq) ⟨.bl false, H, I, rfl, qq.now E h (by simp only [Rep])⟩
/-- max of a dict whose keys are ints -/
theorem cd_maxK (hc : X.calm = true) {d : D} {ns : List Int} {ds : List D} (hd : S.view d = .dct (ns.map .inl) ds) (hne : ns ≠ []) (h : ∀ m, m ∈ ns → (∀ y ∈ ns, y ≤ m) → R (.int m) S) : CD M X (.builtin "max") [d] S R := fun H vs Q E r q => Bx.mk fun pins s σ us I ru => by
  simp only [RepL] at r
  obtain ⟨v, ws, rfl, r1, rfl⟩ := r
  obtain ⟨a, vs, rfl, ha, h0, la⟩ := rep_dct E r1 hd
  obtain ⟨u, rfl, ru'⟩ := vals1 ru
  obtain rfl : u = Value.ref a := ru'
  obtain ⟨_, hsm, kvs, kv, dd⟩ := dk_rd I.hok ha
  obtain ⟨ep, hat⟩ := dd.dictAt
  have hlen : kvs.length = ns.length := by
    have := kv.length
    rw [List.length_zip, ← la.length, h0, Nat.min_self] at this
    rw [← this]
    have h2 := h0
    rw [List.length_map] at h2
    exact h2.symm
  have hkey : ∀ (i : Nat) (k : Key) (x : Value), kvs[i]? = some (k, x) → ns[i]? = (match k with | Sum.inl z => some z | Sum.inr _ => none) ∧ ∃ z, k = Sum.inl z := by
    have gen : ∀ (ns : List Int) (vs : List V) (kvs : List (Key × Value)), vs.length = ns.length → KV ((ns.map (Sum.inl : Int → Key)).zip vs) kvs → ∀ (i : Nat) (k : Key) (x : Value), kvs[i]? = some (k, x) → ns[i]? = (match k with | Sum.inl z => some z | Sum.inr _ => none) ∧ ∃ z, k = Sum.inl z := by
      intro ns
      induction ns with
      | nil =>
        intro vs kvs _ kv i k x e
        rw [List.map_nil, List.zip_nil_left] at kv
        cases kv
        simp at e
      | cons n ns ih =>
        intro vs kvs hl kv i k x e
        cases vs with
        | nil => simp at hl
        | cons v vs =>
          rw [List.map_cons, List.zip_cons_cons] at kv
          cases kv with
          | cons g t =>
            cases i with
            | zero =>
              simp at e
              subst e
              have : (Sum.inl n : Key) = k := g.1
              subst this
              exact ⟨rfl, n, rfl⟩
            | succ i => exact ih vs _ (by simpa using hl) t i k x (by simpa using e)
    refine gen ns vs kvs ?_ kv
    have h2 := h0
    rw [List.length_map] at h2
    rw [← la.length]
    exact h2.symm
  have hlt : a < s.heap.objs.size := by
    obtain ⟨o, es, ho, _⟩ := hat
    exact Heap.lt_size ho
  refine call_max_walk (wpAny_pyIter_dict (knd := mixKind X.prog X.w) hsm hat ?_)
  have hne' : a ≠ s.heap.objs.size := Nat.ne_of_lt hlt
  refine ⟨s.heap.objs.size, _, _, _, _, _, _, rfl, Walks.dictKeys (knd := mixKind X.prog X.w) (A := X.A.in1) (I.ok.hd hc) s.heap.objs.size a hne' kvs ep, ⟨⟨_, Heap.get?_push_size _ rfl, rfl, rfl⟩, hat.at' fun o e => Heap.get?_push_of_some _ e⟩, fun b hb => ?_, ?_, CmpOf.ints_gt (fun i => ns.getD i 0) (fun i v ⟨k, x, e, hk⟩ => ?_), fun v h' tk hP hk => ?_⟩
  · show b < (s.heap.push _).objs.size
    rw [Heap.size_push]
    rcases List.mem_cons.mp hb with rfl | hb
    · exact Nat.lt_succ_self _
    · rw [List.mem_singleton.mp hb]
      exact Nat.lt_succ_of_lt hlt
  · rw [hlen]
    exact List.length_pos_iff.mpr hne
  · obtain ⟨h1, z, rfl⟩ := hkey i k x e
    have e2 : ns.getD i 0 = z := by rw [List.getD_eq_getElem?_getD, h1]; rfl
    obtain ⟨t, rfl⟩ := Value.isInt_shape (k := z) (v := v) hk
    rw [e2]
    exact ⟨t, rfl⟩
  · obtain ⟨k, x, e, hkk⟩ := hP
    obtain ⟨h1, z, rfl⟩ := hkey _ k x e
    obtain ⟨t, rfl⟩ := Value.isInt_shape (k := z) (v := v) hkk
    obtain ⟨g1, g2⟩ := argBest_gt (fun i => ns.getD i 0) (kvs.length - 1)
    have e2 : ns.getD (argBest (fun i j => decide (ns.getD i 0 > ns.getD j 0)) (kvs.length - 1)) 0 = z := by rw [List.getD_eq_getElem?_getD, h1]; rfl
    rw [e2] at g2
    have I1 : Inv X pins σ H { s with heap := h', toks := tk } := I.kept (t' := tk) fun b o eb => hk b o (fun hb => by
      have := List.mem_singleton.mp hb
      rw [this] at eb
      exact absurd (Heap.lt_size eb) (Nat.lt_irrefl _)) (Heap.get?_push_of_some _ eb)
    refine ⟨.int z, H, I1, ⟨t, rfl⟩, q.now E (h z (List.mem_of_getElem? h1) fun y hy => ?_) (by simp only [Rep])⟩
    obtain ⟨j, hj, ej⟩ := List.getElem_of_mem hy
    have := g2 j (by omega)
    rw [List.getD_eq_getElem?_getD, List.getElem?_eq_getElem hj, ej] at this
    exact this
/-- sorted of ints, below 64 -/
theorem cd_sorted (hk : X.K = M.K) {d : D} {ns : List Int} (hd : S.view d = .lst (ns.map D.int)) (hl : ns.length < 64) (h : ∀ ms : List Int, ms.Perm ns → ms.Pairwise (· ≤ ·) → R (.lst (ms.map D.int)) S) : CD M X (.builtin "sorted") [d] S R := fun H vs Q E r q => by
  simp only [RepL] at r
  obtain ⟨v, ws, rfl, r1, rfl⟩ := r
  obtain ⟨a, vs, e1, h1, l1⟩ := rep_lst E r1 hd
  rw [repL_ints l1] at h1
  exact cr_sorted.wp ⟨a, ns, by rw [e1], SqL.of h1, hl, fun ms p g1 g2 hp => q.newL E (h ms g1 g2) (repL_of fun y _ => by simp only [Rep]) p hp⟩
end
/-! ### slices -/
theorem cutV_take {xs : List V} {i : Int} (hi : 0 ≤ i) : cutV xs none (some i) = xs.take i.toNat := by
  unfold cutV
  have e1 : HT.sIx xs.length 0 none = 0 := rfl
  have e2 : HT.sIx xs.length xs.length (some i) = min i.toNat xs.length := by
    show (if i < 0 then (i + (xs.length : Int)).toNat else min i.toNat xs.length) = _
    rw [if_neg (by omega)]
  rw [e1, e2, List.drop_zero, Nat.sub_zero]
  rw [List.take_eq_take_iff]
  simp
section
variable {F : Fix} {N : List Str} {sc : Scope} {k : Nat} {X : Cx} {W : WX} {Γ : Ga} {S : Sto} {R : RK} {Z : ZK} {a b e o : Expr} {pos p2 p3 p4 pos' apos p : Pos} {M : Mo}
/-- the script's head -/
theorem ax_scrTo (c : XC F N sc k X W) (h : AX F.M X W a Γ S (fun d S1 => ∃ ns, d = .scr ns ∧ AX F.M X W b Γ S1 (fun y S2 => ∃ i : Int, y = .int i ∧ 0 ≤ i ∧ R (.lst ((ns.take i.toNat).map D.int)) S2) Z) Z) : AX F.M X W (.Subscript a (.Slice none (some b) none p2) pos) Γ S R Z := fun σ H Q E q z =>
  (pe_slice sl_list pe_wp po_none (po_some pe_wp)).wp (h σ H _ E (fun v d H1 S1 ⟨ns, ed, h1⟩ E1 x1 r1 => by
    subst ed
    show tPart (wpE X b) σ H1 (fun u H3 => rSlL X.K v none u H3 Q)
    refine h1 σ H1 _ (E.ext E1 x1) (fun w y H2 S2 ⟨i, ey, hi, hR⟩ E2 x2 r2 => ?_) (z.ext x1)
    subst ey
    simp only [Rep] at r2
    have r1' := r1.ext x2
    simp only [Rep] at r1'
    obtain ⟨l, rfl, hl⟩ := r1'
    refine ⟨i, r2, l, ns.map V.int, rfl, ?_, fun p hp => ?_⟩
    · rcases hl with ⟨_, hl⟩ | ⟨o, its, n, g1, g2, g3, g4, g5, g6⟩
      · exact .inl hl
      · exact .inr ⟨o, its, n, by rw [c.hK]; exact g1, g2, g3, g4, g5, g6⟩
    · rw [cutV_take hi, ← List.map_take]
      exact (q.ext (x1.trans x2)).newL E2 hR (repL_of fun y _ => by simp only [Rep]) p hp) z)
/-- e[:b] of a list -/
theorem ax_slTo (h : AX F.M X W a Γ S (fun d S1 => AX F.M X W b Γ S1 (fun y S2 => ∃ (ds : List D) (i : Int), S2.view d = .lst ds ∧ y = .int i ∧ 0 ≤ i ∧ R (.lst (ds.take i.toNat)) S2) Z) Z) : AX F.M X W (.Subscript a (.Slice none (some b) none p2) pos) Γ S R Z := fun σ H Q E q z =>
  (pe_slice sl_list pe_wp po_none (po_some pe_wp)).wp (h σ H _ E (fun v d H1 S1 h1 E1 x1 r1 => by
    show tPart (wpE X b) σ H1 (fun u H3 => rSlL X.K v none u H3 Q)
    refine h1 σ H1 _ (E.ext E1 x1) (fun w y H2 S2 ⟨ds, i, hv, ey, hi, hR⟩ E2 x2 r2 => ?_) (z.ext x1)
    subst ey
    simp only [Rep] at r2
    obtain ⟨l, vs, rfl, hl, lv⟩ := rep_lst E2 (r1.ext x2) hv
    refine ⟨i, r2, l, vs, rfl, SqL.of hl, fun p hp => ?_⟩
    rw [cutV_take hi]
    exact (q.ext (x1.trans x2)).newL E2 hR (lv.take _) p hp) z)
/-- e[::-1] of a list -/
theorem ax_rev {j : Nat} (h : AX F.M X W a Γ S (fun d S1 => ∃ ds, S1.view d = .lst ds ∧ R (.lst ds.reverse) S1) Z) : AX F.M X W (.Subscript a (.Slice none none (some (.UnaryOp .USub (.Constant (.int 1) j p2) p3)) p4) pos) Γ S R Z := fun σ H Q E q z =>
  (pe_revL pe_wp).wp (h σ H _ E (fun v d H1 S1 ⟨ds, hv, hR⟩ E1 x1 r1 => by
    obtain ⟨l, vs, rfl, hl, lv⟩ := rep_lst E1 r1 hv
    refine ⟨l, vs, rfl, SqL.of hl, fun p hp => (q.ext x1).newL E1 hR ?_ p hp⟩
    have key : ∀ {ds : List D} {vs : List V}, RepL F.M.K S1 H1 ds vs → RepL F.M.K S1 H1 ds.reverse vs.reverse := by
      intro ds
      induction ds with
      | nil => intro vs r; simp only [RepL] at r; subst r; exact repL_nil
      | cons d ds ih =>
        intro vs r
        simp only [RepL] at r
        obtain ⟨v, ws, rfl, r1, r2⟩ := r
        rw [List.reverse_cons, List.reverse_cons]
        exact (ih r2).append (repL_cons r1 repL_nil)
    exact key lv) z)
end
end QD
set_option maxHeartbeats 4000000
/-! The walk over data: what a def leaves behind of its own is forgotten; defs with tables. -/
namespace QD
open PySem PySem.Spec PyProof.Rows L2 GenW

/-- a store that knows less -/
def Sub (S S' : Sto) : Prop := ∀ a c, S a = some c → S' a = some c
theorem Sub.refl {S : Sto} : Sub S S := fun _ _ h => h
theorem Sub.trans {S S1 S2 : Sto} (a : Sub S S1) (b : Sub S1 S2) : Sub S S2 := fun x c h => b x c (a x c h)
theorem Sub.put {S S' : Sto} {p : Addr} {c : Cell} (h : Sub S S') (hp : S p = none) : Sub S (S'.put p c) := fun a d e => by
  have ne : a ≠ p := fun z => by rw [z, hp] at e; cases e
  rw [Sto.put_ne ne]; exact h a d e
theorem Sub.put2 {S S' : Sto} {p : Addr} {c : Cell} (h : Sub S S') : Sub (S.put p c) (S'.put p c) := fun a d e => by
  by_cases ne : a = p
  · subst ne; rw [Sto.put_same] at e ⊢; exact e
  · rw [Sto.put_ne ne] at e ⊢; exact h a d e
theorem Sub.del {S S' : Sto} {p : Addr} (h : Sub S S') (hp : S p = none) : Sub S (S'.del p) := fun a d e => by
  have ne : a ≠ p := fun z => by rw [z, hp] at e; cases e
  rw [Sto.del_ne ne]; exact h a d e
theorem Ext.sub {S S' : Sto} {H : Hp} (h : Sub S S') : Ext S' H S H := Ext.sto fun a e => by
  cases q : S a with
  | none => rfl
  | some c => rw [h a c q] at e; cases e
theorem EnvH.sub {M : Mo} {S S' : Sto} {H : Hp} (E : EnvH M S' H) (h : Sub S S') : EnvH M S H where
  cell := fun a c e => by
    obtain ⟨u, h1, h2⟩ := E.cell a c (h a c e)
    exact ⟨u, h1, h2.ext (Ext.sub h)⟩
  tg := E.tg
  tl := E.tl
/-- so in a store that knows less -/
def SR (R : RK) : RK := fun d S' => ∃ S'', Sub S'' S' ∧ R d S''
def SZ (Z : ZK) : ZK := fun C S' => ∃ S'', Sub S'' S' ∧ Z C S''
theorem SR.of {R : RK} {d : D} {S : Sto} (h : R d S) : SR R d S := ⟨S, Sub.refl, h⟩
theorem SZ.of {Z : ZK} {C : Addr} {S : Sto} (h : Z C S) : SZ Z C S := ⟨S, Sub.refl, h⟩
section
variable {M : Mo} {S S1 : Sto} {H H1 : Hp}
theorem RQ.sub {R : RK} {Q : VK} (q : RQ M S H R Q) : RQ M S H (SR R) Q := fun v d H' S' ⟨S'', hs, r⟩ E x p => q v d H' S'' r (E.sub hs) (x.trans (Ext.sub hs)) (p.ext (Ext.sub hs))
theorem ZQ.sub {Z : ZK} {W : WX} (q : ZQ M S H Z W) : ZQ M S H (SZ Z) W := fun C H' S' σ' ⟨S'', hs, z⟩ E x => q C H' S'' σ' z (E.sub hs) (x.trans (Ext.sub hs))
theorem AX.sub {X : Cx} {W : WX} {e : Expr} {Γ : Ga} {R : RK} {Z : ZK} (h : AX M X W e Γ S (SR R) (SZ Z)) : AX M X W e Γ S R Z := fun σ H Q E q z => h σ H Q E q.sub z.sub
end
/-- a def by its body: what it made is forgotten; its code object -/
theorem fn_asS {F : Fix} {x qual : Str} {st : Stmt} {f : Addr} {fd : FuncData} {N ps : List Str} {k : Nat} {A : ASp} (U : Fun F.M.K x qual st f fd) (S : FnScope N ps (defScope st)) (len : ∀ ds S R Z, A ds S R Z → ds.length = ps.length)
    (hb : ∀ (X : Cx) (W : WX), XC F N (defScope st) k X W → (∀ x, X.fn x = true) → (X.stack = X.env :: X.outer ∧ X.env.frame = some X.env.locals) → ∀ ds S0 R Z, A ds S0 R Z → AB F.M X W (defBody st) (ds.map some ++ List.replicate (N.length - ds.length) none) S0 { nx := fun _ S' => SR R .non S', rt := SR R } (SZ Z)) :
    FnOk F.P F.w F.M.K F.mg F.base (L2.CX F.P F.w) (k + 1) f fd ps (spOf F.M A) := by
  have h2 := fn_as (A := fun ds S R Z => ∃ R' Z', A ds S R' Z' ∧ R = SR R' ∧ Z = SZ Z') U S (fun ds S R Z ⟨R', Z', h, _⟩ => len ds S R' Z' h) (fun X W c hf hst ds S0 R Z ⟨R', Z', h, e1, e2⟩ => by subst e1 e2; exact hb X W c hf hst ds S0 R' Z' h)
  refine ⟨fun vs H Q E ⟨ds, S0, R, Z, EH, r, h, q, z⟩ => h2.len vs H Q E ⟨ds, S0, SR R, SZ Z, EH, r, ⟨R, Z, h, rfl, rfl⟩, q.sub, fun C H' S' ⟨S'', hs, hz⟩ E' x' => z C H' S'' hz (E'.sub hs) (x'.trans (Ext.sub hs))⟩,
    fun A' outer s H args us vs Q E hr e0 hb' r ⟨ds, S0, R, Z, EH, r', h, q, z⟩ => h2.run A' outer s H args us vs Q E hr e0 hb' r ⟨ds, S0, SR R, SZ Z, EH, r', ⟨R, Z, h, rfl, rfl⟩, q.sub, fun C H' S' ⟨S'', hs, hz⟩ E' x' => z C H' S'' hz (E'.sub hs) (x'.trans (Ext.sub hs))⟩⟩
/-- the code object of a def, as it stands behind the top -/
structure CodeAt (F : Fix) (st : Stmt) (qual : Str) (f c : Addr) (fd : FuncData) : Prop where
  ex : ∃ (oc : Value) (od : Option Addr) (kV doc pm : Value) (an : Option Addr) (ct : Value) (osl : Array (Option Value)) (x : Str),
    fd = PySem.W.fnOf x qual (defArgs st) (defBody st) (defScope st) .none kV doc pm an (.ref c) ct ∧ F.M.K.lookup f = some ⟨oc, od, .func fd, osl⟩ ∧ PySem.W.codeIn F.M.K (.ref c) qual = true
theorem fn_asC {F : Fix} {qual : Str} {st : Stmt} {f cd : Addr} {fd : FuncData} {N ps : List Str} {k : Nat} {A : ASp} (U : CodeAt F st qual f cd fd) (S : FnScope N ps (defScope st)) (len : ∀ ds S R Z, A ds S R Z → ds.length = ps.length)
    (hb : ∀ (X : Cx) (W : WX), XC F N (defScope st) k X W → (∀ x, X.fn x = true) → (X.stack = X.env :: X.outer ∧ X.env.frame = some X.env.locals) → X.env.code = .ref cd → X.env.qual = qual ++ ".<locals>." → ∀ ds S0 R Z, A ds S0 R Z → AB F.M X W (defBody st) (ds.map some ++ List.replicate (N.length - ds.length) none) S0 { nx := fun _ S' => SR R .non S', rt := SR R } (SZ Z)) :
    FnOk F.P F.w F.M.K F.mg F.base (L2.CX F.P F.w) (k + 1) f fd ps (spOf F.M A) := by
  obtain ⟨oc, od, kV, doc, pm, an, ct, osl, x, rfl, lk, hcd⟩ := U.ex
  refine fn_of lk hcd S (fun vs H Q E ⟨ds, S0, R, Z, _, r, h, _⟩ => ?_) fun Ar outer s H vs Q E hr ⟨ds, S0, R, Z, EH, r, h, q, z⟩ => ?_
  · rw [← r.length]
    exact len ds S0 R Z h
  · refine ⟨_, pb_wp, ?_⟩
    have hn := len ds S0 R Z h
    have hpl : ps.length ≤ N.length := by have := congrArg List.length S.pre; rw [List.length_take] at this; omega
    refine hb _ (fun cls d _ H => E cls d H) ⟨rfl, rfl, rfl, rfl, rfl, rfl, S.nd, rfl, rfl, hr, takes_of rfl rfl rfl rfl, passes_of rfl⟩ (fun _ => rfl) ⟨rfl, rfl⟩ rfl rfl ds S0 R Z h (L2.start N vs) H _ ⟨EH, ?_, fun i d hi => ?_⟩
      ⟨fun Γ' S' σ' H' ⟨S'', hs, hk⟩ E' x' => q _ _ H' S'' hk (E'.hp.sub hs) (x'.trans (Ext.sub hs)) (by simp only [Rep]), q.sub, fun _ _ _ _ hk => hk.elim, fun _ _ _ _ hk => hk.elim⟩ (fun C H' S' σ' ⟨S'', hs, hz⟩ E' x' => z C H' S'' hz (E'.sub hs) (x'.trans (Ext.sub hs)))
    · unfold L2.start
      rw [List.length_append, List.length_append, List.length_map, List.length_map, List.length_replicate, List.length_replicate, r.length]
    · have hi' : i < ds.length := by
        refine Nat.lt_of_not_le fun hle => ?_
        rw [List.getElem?_append_right (by rw [List.length_map]; exact hle), List.getElem?_replicate] at hi
        split at hi <;> cases hi
      rw [List.getElem?_append_left (by rw [List.length_map]; exact hi'), List.getElem?_map] at hi
      have hd : ds[i]? = some d := by
        cases e : ds[i]? with
        | none => rw [e] at hi; cases hi
        | some y => rw [e] at hi; cases hi; rfl
      obtain ⟨v, hv, rv⟩ := r.get hd
      refine ⟨v, ?_, rv⟩
      unfold L2.start
      have hvl : i < vs.length := by rw [← r.length]; exact hi'
      rw [List.getElem?_append_left (by rw [List.length_map]; exact hvl), List.getElem?_map, hv]
      rfl
end QD
set_option maxHeartbeats 4000000
/-! The walk over data: comprehensions that leave the store as it is. -/
namespace QD
open PySem PySem.Spec PyProof.Rows L2 GenW

section
variable {F : Fix} {N : List Str} {sc : Scope} {k : Nat} {X : Cx} {W : WX} {Γ : Ga} {S : Sto} {R : RK} {Z : ZK} {it elt tg : Expr} {ifs : List Expr} {scope : Scope}
/-- one turn: what becomes of the item d at place i -/
def LcS (F : Fix) (X : Cx) (elt tg : Expr) (ifs : List Expr) (scope : Scope) (vs : List Nat) (Γ : Ga) (S : Sto) (d : D) (o : Option D) : Prop :=
  ∀ Y, IsBlk X scope Y → AO F.M Y vs tg d (wipeG Γ vs) S (fun Γ2 S2 => S2 = S ∧ ∀ Y, IsBlk X scope Y → ATs F.M Y ifs Γ2 S (fun b S3 => S3 = S ∧ if b = true then ∀ Y, IsBlk X scope Y → AX F.M Y W0 elt Γ2 S (fun y S4 => S4 = S ∧ o = some y) Z0 else o = none))
theorem lcq_pure {own : List (Str × Nat)} {ds : List D} {al : Sto → Prop} (fs : List (Option D)) (hl : fs.length = ds.length) (hz : ds.length < sizeLine) (hal : ∀ S', Sub S S' → al S')
    (step : ∀ (i : Nat) (d : D) (o : Option D), ds[i]? = some d → fs[i]? = some o → ∀ S', Sub S S' → LcS F X elt tg ifs scope (own.map (·.2)) Γ S' d o) (h : R (.lst (fs.filterMap id)) S) : LcQ F X elt tg ifs scope own Γ R ds al S := by
  refine ⟨hz, fun p hp => ⟨fun i acc S' => acc = gxPre fs i ∧ S' = S.put p (.lst acc), ⟨rfl, rfl⟩, fun i d acc S' hd ⟨e1, e2⟩ hacc => ?_, fun acc S' ⟨e1, e2⟩ => ?_⟩⟩
  · have hs : Sub S S' := by rw [e2]; exact Sub.refl.put hp
    have hi : i < ds.length := (List.getElem?_eq_some_iff.mp hd).1
    have hf : fs[i]? = some fs[i] := List.getElem?_eq_getElem (by omega)
    refine ⟨hal S' hs, fun Y hY => ?_⟩
    intro σ H v Q E r q
    refine step i d _ hd hf S' hs Y hY σ H v Q E r fun Γ2 S2 σ2 H2 ⟨e3, h2⟩ E2 x2 w2 => ?_
    subst e3
    refine q Γ2 S2 σ2 H2 (fun Y2 hY2 => ?_) E2 x2 w2
    intro σ3 H3 Q3 E3 q3
    refine h2 Y2 hY2 σ3 H3 Q3 E3 fun b H4 S4 ⟨e4, h4⟩ E4 x4 => ?_
    subst e4
    refine q3 b H4 S4 ?_ E4 x4
    cases b with
    | false =>
      have h4 : fs[i] = none := h4
      rw [h4] at hf
      rw [if_neg Bool.false_ne_true]
      exact ⟨by rw [e1, gxPre_none hf], e2⟩
    | true =>
      rw [if_pos rfl] at h4 ⊢
      intro Y3 hY3
      refine (h4 Y3 hY3).mono fun y S5 ⟨e5, h5⟩ => ?_
      subst e5
      rw [h5] at hf
      exact ⟨by rw [e2, Sto.put_same], by rw [e1, gxPre_some hf], by rw [e2, Sto.put_put]⟩
  · have e3 : acc = fs.filterMap id := by rw [e1, gxPre_end (by omega)]
    refine ⟨hal S' (by rw [e2]; exact Sub.refl.put hp), .inr ⟨by rw [e2, Sto.put_same], ?_⟩⟩
    rw [e2, Sto.del_put hp, e3]
    exact h
theorem filterMap_some {α : Type} (f : α → D) (xs : List α) : (xs.map fun x => some (f x)).filterMap id = xs.map f := by
  induction xs with
  | nil => rfl
  | cons x xs ih => rw [List.map_cons, List.filterMap_cons, ih]; rfl
/-- one turn of a generator expression -/
def GxS1 (F : Fix) (X : Cx) (k : Nat) (elt tg : Expr) (ifs : List Expr) (scope : Scope) (vs : List Nat) (Γ : Ga) (S : Sto) (d : D) (o : Option D) : Prop :=
  ∀ Y, IsGx X k scope Y → AO F.M Y vs tg d (wipeG Γ vs) S (fun Γ2 S2 => S2 = S ∧ ATs F.M Y ifs Γ2 S (fun b S3 => S3 = S ∧ if b = true then AX F.M Y W0 elt Γ2 S (fun y S4 => S4 = S ∧ o = some y) Z0 else o = none))
theorem gxq_pure {own : List (Str × Nat)} {R : List D → Sto → Prop} {ds : List D} {al : Sto → Prop} (fs : List (Option D)) (hl : fs.length = ds.length) (hal : al S)
    (step : ∀ (i : Nat) (d : D) (o : Option D), ds[i]? = some d → fs[i]? = some o → GxS1 F X k elt tg ifs scope (own.map (·.2)) Γ S d o) (h : R (fs.filterMap id) S) : GxQ F X k elt tg ifs scope own Γ R ds al S := by
  refine ⟨hal, fs, hl, fun Y hY i d hd => ?_, h⟩
  have hi : i < ds.length := (List.getElem?_eq_some_iff.mp hd).1
  have hf : fs[i]? = some fs[i] := List.getElem?_eq_getElem (by omega)
  intro σ H v Q E r q
  refine step i d _ hd hf Y hY σ H v Q E r fun Γ2 S2 σ2 H2 ⟨e3, h2⟩ E2 x2 w2 => ?_
  subst e3
  refine q Γ2 S2 σ2 H2 ⟨rfl, ?_⟩ E2 x2 w2
  intro σ3 H3 Q3 E3 q3
  refine h2 σ3 H3 Q3 E3 fun b H4 S4 ⟨e4, h4⟩ E4 x4 => ?_
  subst e4
  refine q3 b H4 S4 ⟨rfl, ?_⟩ E4 x4
  cases b with
  | false =>
    rw [if_neg Bool.false_ne_true] at h4 ⊢
    rw [hf, h4]
  | true =>
    rw [if_pos rfl] at h4 ⊢
    exact h4.mono fun y S5 ⟨e5, h5⟩ => ⟨e5, by rw [hf, h5]⟩
end
end QD
set_option maxHeartbeats 4000000
/-! The walk over data: globals that are ints, one value cut out. -/
namespace QD
open PySem PySem.Spec PyProof.Rows L2 GenW

section
variable {F : Fix} {N : List Str} {sc : Scope} {k : Nat} {X : Cx} {W : WX} {Γ : Ga} {S : Sto} {R : RK} {Z : ZK} {e t : Expr} {pos : Pos}
theorem ax_gl (c : XC F N sc k X W) {x : Str} {i : Int} (hs : glB sc x = true) (hm : ∃ t, F.mg x = some (.int i t)) (h : R (.int i) S) : AX F.M X W (.Name x pos) Γ S R Z := by
  obtain ⟨t, hm⟩ := hm
  exact ax_glob c hs hm (v := .int i) ⟨t, rfl⟩ (fun S H => by simp only [Rep]) h
/-- a value that is told ahead -/
theorem ax_is (d : D) (h : AX F.M X W e Γ S (fun d' S' => d' = d ∧ S' = S) Z) (hr : R d S) : AX F.M X W e Γ S R Z := h.mono fun d' S' ⟨h1, h2⟩ => by subst h1 h2; exact hr
theorem at_is (b : Bool) {R : Bool → Sto → Prop} (h : AT F.M X W t Γ S (fun b' S' => b' = b ∧ S' = S) Z) (hr : R b S) : AT F.M X W t Γ S R Z := h.mono fun d' S' ⟨h1, h2⟩ => by subst h1 h2; exact hr
end
theorem log_lt {i : Int} (h1 : -(2 ^ 64) < i) (h2 : i < 2 ^ 64) : i.natAbs.log2 < 1920 := by
  have h : i.natAbs < 2 ^ 1920 := Nat.lt_of_lt_of_le (show i.natAbs < 2 ^ 64 by omega) (Nat.pow_le_pow_right (by decide) (by decide))
  by_cases h0 : i.natAbs = 0
  · rw [h0]; decide
  · exact (Nat.log2_lt h0).mpr h
end QD
namespace QD
open PySem PySem.Spec PyProof.Rows L2 GenW
section
variable {M : Mo} {X : Cx} {W : WX} {Γ : Ga} {Z : ZK} {S : Sto} {ke ve : Expr} {r : List (Expr × Expr)} {R : List (D × D) → Sto → Prop}
theorem aps_nil (h : R [] S) : APs M X W Γ Z [] S R := h
theorem aps_cons (h : AX M X W ke Γ S (fun d1 S1 => AX M X W ve Γ S1 (fun d2 S2 => APs M X W Γ Z r S2 fun ps S3 => R ((d1, d2) :: ps) S3) Z) Z) : APs M X W Γ Z ((ke, ve) :: r) S R := h
end
end QD
set_option maxHeartbeats 4000000
/-! The walk over data: x op= e. -/
namespace QD
open PySem PySem.Spec PyProof.Rows L2 GenW
section
variable {M : Mo} {X : Cx} {S : Sto} {R : RK}
theorem ip_add {i j : Int} (h : R (.int (i + j)) S) : IPD M X .Add (.int i) (.int j) S R := fun H v1 v2 Q E r1 r2 q => by
  simp only [Rep] at r1 r2
  exact iop_add.wp ⟨i, j, r1, r2, q.now E h (by simp only [Rep])⟩
theorem ip_sub {i j : Int} (h : R (.int (i - j)) S) : IPD M X .Sub (.int i) (.int j) S R := fun H v1 v2 Q E r1 r2 q => by
  simp only [Rep] at r1 r2
  exact iop_sub.wp ⟨i, j, r1, r2, q.now E h (by simp only [Rep])⟩
theorem ip_mul {i j : Int} (hc : CMul i j) (h : R (.int (i * j)) S) : IPD M X .Mult (.int i) (.int j) S R := fun H v1 v2 Q E r1 r2 q => by
  simp only [Rep] at r1 r2
  exact iop_mul.wp ⟨i, j, r1, r2, hc, q.now E h (by simp only [Rep])⟩
end
end QD
set_option maxHeartbeats 4000000
/-! The end: facts of the head, the law's row. -/
namespace QD
open PySem PySem.Spec PyProof.Rows L2
theorem fun_of {K : PySem.W.Frag} {x qual : Str} {st : Stmt} {f : Addr} {fd : FuncData} (F : FunD K x qual (defArgs st) (defBody st) (defScope st) [] [] f fd) : L2.Fun K x qual st f fd := by
  obtain ⟨oc, od, dV, kV, doc, pm, an, cdv, ct, osl, e, lk, hcd, hD, hK⟩ := F.ex
  rcases hD with ⟨_, rfl⟩ | ⟨z, _⟩
  · exact ⟨⟨oc, od, kV, doc, pm, an, cdv, ct, osl, e, lk, hcd⟩, F.kp⟩
  · exact absurd rfl z
/-- a def of the top, a method: how the head tells it -/
def dFn (x : Str) (st : Stmt) : He.DefD := ⟨(x, none), x, x, defArgs st, defBody st, defScope st, [], []⟩
def dMe (C m : Str) (st : Stmt) : He.DefD := ⟨(C, some m), m, C ++ "." ++ m, defArgs st, defBody st, defScope st, [], []⟩
theorem codeAt_of {F : Fix} {x qual : Str} {st : Stmt} {p : He.Defn} {fd : FuncData} (U : L2.Fun F.M.K x qual st (He.fAd F.M.K p) fd) : CodeAt F st qual (He.fAd F.M.K p) (He.codeOf F.M.K p) fd := by
  obtain ⟨oc, od, kV, doc, pm, an, cdv, ct, osl, rfl, lk, hcd⟩ := U.ex
  obtain ⟨c, rfl⟩ := He.codeIn_ref hcd
  have e : He.codeOf F.M.K p = c := He.codeOf_eq lk rfl
  rw [e]
  exact ⟨oc, od, kV, doc, pm, an, ct, osl, x, rfl, lk, hcd⟩
section
variable {fa : List He.Fa} {fn : List He.DefD} {K : PySem.W.Frag}
theorem def_fn (c : He.SaysD fa fn K) {x : Str} {st : Stmt} (h : dFn x st ∈ fn) : ∃ fd, L2.Fun K x x st (He.ga K x) fd := by
  obtain ⟨fd, F⟩ := c.defs h
  exact ⟨fd, fun_of F⟩
theorem def_me (c : He.SaysD fa fn K) {C m : Str} {st : Stmt} (h : dMe C m st ∈ fn) : ∃ fd, L2.Fun K m (C ++ "." ++ m) st (He.ma K (He.ga K C) m) fd := by
  obtain ⟨fd, F⟩ := c.defs h
  exact ⟨fd, fun_of F⟩
end
/-! ### what is fixed -/
/-- the tables: of generator expressions, of lambdas (with their names) -/
structure Tb where
  gx : List He.Defn
  lm : List (He.Defn × Str)
def Tb.all (T : Tb) : List He.Defn := T.gx ++ T.lm.map (·.1)
def Tb.mo (T : Tb) (K : PySem.W.Frag) : Mo := ⟨K, T.gx.map fun p => (He.cT K p).2, T.lm.map fun p => ((He.cT K p.1).2, p.2)⟩
/-- no table is of both; each table of lambdas has one name -/
def Tb.apart (T : Tb) (K : PySem.W.Frag) : Bool := (T.gx.all fun g => T.lm.all fun l => !(decide ((He.cT K l.1).2 = (He.cT K g).2))) && T.lm.all fun l => T.lm.all fun m => !(decide ((He.cT K l.1).2 = (He.cT K m.1).2)) || decide (l.2 = m.2)
def GxTab (F : Fix) (cd : Addr) : Prop := ∃ P, GxR.TabB F.base F.mg cd P ∧ P ∈ F.M.tg ∧ ∀ q ∈ F.M.tl, q.1 ≠ P
def LamTab (F : Fix) (cd : Addr) (q : Str) : Prop := ∃ P, LamX.TabB F.base F.mg cd P ∧ (P, q) ∈ F.M.tl ∧ ∀ p ∈ F.M.tl, p.1 = P → p.2 = q
theorem xg_of {F : Fix} {X : Cx} {cd : Addr} (h : GxTab F cd) (hc : X.env.code = .ref cd) : XG F X := let ⟨P, h1, h2, h3⟩ := h; ⟨cd, P, hc, h1, h2, h3⟩
theorem xl_of {F : Fix} {X : Cx} {cd : Addr} {q : Str} (h : LamTab F cd q) (hc : X.env.code = .ref cd) (hq : X.env.qual ++ "<lambda>" = q) : XL F X := by
  subst hq
  exact let ⟨P, h1, h2, h3⟩ := h; ⟨cd, P, hc, h1, h2, h3⟩
section
variable {T : Tb} {K : PySem.W.Frag}
theorem Tb.gxTab (ap : T.apart K = true) {P : Program} {w : World} {mg : Str → Option Value} {base : Heap} (hb : ∀ p ∈ T.all.map (He.cT K), LamX.TabB base mg p.1 p.2) {p : He.Defn} (hp : p ∈ T.gx) : GxTab ⟨P, w, T.mo K, mg, base⟩ (He.codeOf K p) := by
  have h := hb (He.cT K p) (List.mem_map.mpr ⟨p, List.mem_append.mpr (.inl hp), rfl⟩)
  refine ⟨(He.cT K p).2, ⟨h.code, h.bm, h.gP⟩, List.mem_map.mpr ⟨p, hp, rfl⟩, fun q hq e => ?_⟩
  obtain ⟨l, hl, rfl⟩ := List.mem_map.mp (show q ∈ T.lm.map fun p => ((He.cT K p.1).2, p.2) from hq)
  have h1 := (He.ba ap).1
  have h2 := List.all_eq_true.mp (List.all_eq_true.mp h1 p hp) l hl
  rw [decide_eq_true (show (He.cT K l.1).2 = (He.cT K p).2 from e)] at h2
  cases h2
theorem Tb.lamTab (ap : T.apart K = true) {P : Program} {w : World} {mg : Str → Option Value} {base : Heap} (hb : ∀ p ∈ T.all.map (He.cT K), LamX.TabB base mg p.1 p.2) {p : He.Defn} {q : Str} (hp : (p, q) ∈ T.lm) : LamTab ⟨P, w, T.mo K, mg, base⟩ (He.codeOf K p) q := by
  have h := hb (He.cT K p) (List.mem_map.mpr ⟨p, List.mem_append.mpr (.inr (List.mem_map.mpr ⟨_, hp, rfl⟩)), rfl⟩)
  refine ⟨(He.cT K p).2, h, List.mem_map.mpr ⟨_, hp, rfl⟩, fun r hr e => ?_⟩
  obtain ⟨l, hl, rfl⟩ := List.mem_map.mp (show r ∈ T.lm.map fun p => ((He.cT K p.1).2, p.2) from hr)
  have h1 := (He.ba ap).2
  have h2 := List.all_eq_true.mp (List.all_eq_true.mp h1 l hl) _ hp
  rw [decide_eq_true (show (He.cT K l.1).2 = (He.cT K p).2 from e)] at h2
  exact of_decide_eq_true h2
end
/-! ### promises by the head's facts -/
section
variable {F : Fix} {k : Nat} {A : ASp} {fd : FuncData} {ps : List Str} {st : Stmt} {x qual : Str} {f C : Addr}
theorem fok_of (g : F.mg x = some (.ref f)) (U : L2.Fun F.M.K x x st f fd) (O : FnOk F.P F.w F.M.K F.mg F.base (L2.CX F.P F.w) k f fd ps (spOf F.M A))
    (b : ∀ (kV doc pm : Value) (an : Option Addr) (cdv ct : Value) (us : List Value), us.length = ps.length → bindArgs (PySem.W.fnOf x x (defArgs st) (defBody st) (defScope st) .none kV doc pm an cdv ct) ⟨us, []⟩ = pure (ps.zip us)) : FOk F k x A :=
  ⟨f, fd, ps, g, U.kp, O, U.binds b⟩
theorem mok_of {m : Str} (c : Cls F.M.K C) (g : Meth F.M.K C m f) (U : L2.Fun F.M.K m qual st f fd) (O : FnOk F.P F.w F.M.K F.mg F.base (L2.CX F.P F.w) k f fd ps (spOf F.M A))
    (b : ∀ (kV doc pm : Value) (an : Option Addr) (cdv ct : Value) (us : List Value), us.length = ps.length → bindArgs (PySem.W.fnOf m qual (defArgs st) (defBody st) (defScope st) .none kV doc pm an cdv ct) ⟨us, []⟩ = pure (ps.zip us)) : MOk F k C m A :=
  ⟨f, fd, ps, c, g, O, U.binds b⟩
theorem cok_of {m : Str} (g : F.mg x = some (.ref C)) (mk : Mk F.M.K C f) (U : L2.Fun F.M.K m qual st f fd) (O : FnOk F.P F.w F.M.K F.mg F.base (L2.CX F.P F.w) k f fd ps (spOf F.M A))
    (b : ∀ (kV doc pm : Value) (an : Option Addr) (cdv ct : Value) (us : List Value), us.length = ps.length → bindArgs (PySem.W.fnOf m qual (defArgs st) (defBody st) (defScope st) .none kV doc pm an cdv ct) ⟨us, []⟩ = pure (ps.zip us)) : COk F k x C A :=
  ⟨f, fd, ps, g, mk, O, U.binds b⟩
end
/-! ### the law's row -/
/-- the law answers True, of every script -/
def aLaw : ASp := fun ds S R _ => ∃ ns, ds = [.scr ns] ∧ R (.bl true) S
theorem law_sp {T : Tb} {K : PySem.W.Frag} {H : Hp} {a : Addr} {ns : List Int} (hT : ∀ p ∈ T.all.map (He.cT K), H p.2 = some (.tbl #[])) (hS : SqL K H a (ns.map V.int)) :
    spOf (T.mo K) aLaw [.ref a] H (fun v _ => v = .bl true) fun _ _ _ => False := by
  refine ⟨[.scr ns], fun _ => none, fun d _ => d = .bl true, fun _ _ => False, ⟨fun a c e => (by cases e), fun P hP => ?_, fun q hq => ?_⟩, ?_, ⟨ns, rfl, rfl⟩, fun v d H' S' hd _ _ r => ?_, fun C H' S' z => z.elim⟩
  · obtain ⟨p, hp, rfl⟩ := List.mem_map.mp (show P ∈ T.gx.map fun p => (He.cT K p).2 from hP)
    exact ⟨#[], hT (He.cT K p) (List.mem_map.mpr ⟨p, List.mem_append.mpr (.inl hp), rfl⟩), trivial⟩
  · obtain ⟨p, hp, rfl⟩ := List.mem_map.mp (show q ∈ T.lm.map fun p => ((He.cT K p.1).2, p.2) from hq)
    refine ⟨#[], hT (He.cT K p.1) (List.mem_map.mpr ⟨p.1, List.mem_append.mpr (.inr (List.mem_map.mpr ⟨_, hp, rfl⟩)), rfl⟩), trivial, fun pos cv h => ?_⟩
    cases h
  · refine repL_cons ?_ repL_nil
    simp only [Rep]
    refine ⟨a, rfl, ?_⟩
    rcases hS with h | h
    · exact .inl ⟨rfl, h⟩
    · exact .inr h
  · subst hd
    simpa only [Rep] using r
theorem cx_false {P : Program} {w : World} {H : Hp} {s : Shared} {e : Value} {s' : Shared} (h : L2.CX P w [] H s (fun _ _ _ => False) e s') : False := by
  obtain ⟨_, _, _, _, _, _, _, _, _, _, _, _, z⟩ := h
  exact z
/-- from the promise of the law's def to the row -/
theorem law_at {l : PySem.W.OpenLaw} {w : World} {T : Tb} {fa : List He.Fa} {fn : List He.DefD} {ts : List He.Tab} {ex : PySem.W.Frag → Bool} {h : Heap} {K : PySem.W.Frag} {k n : Nat} {mg : Str → Option Value} {x : Str} {f : Addr} {fd : FuncData} {st : Stmt}
    (c : He.SaysX fa fn ts T.all ex w h K) (KX : K.In h) (hf : f = He.ga K x) (U : L2.Fun K x x st (He.ga K x) fd)
    (b : ∀ (kV doc pm : Value) (an : Option Addr) (cdv ct : Value) (us : List Value), us.length = (["script"] : List Str).length → bindArgs (PySem.W.fnOf x x (defArgs st) (defBody st) (defScope st) .none kV doc pm an cdv ct) ⟨us, []⟩ = pure ((["script"] : List Str).zip us))
    (hF : ∀ base : Heap, K.In base → base.Ns mainGlobals mg → (∀ p ∈ T.all.map (He.cT K), LamX.TabB base mg p.1 p.2) → FnOk l.prog w K mg base (L2.CX l.prog w) k (He.ga K x) fd ["script"] (spOf (T.mo K) aLaw)) :
    LamX.LawAtS l w K (L2.CX l.prog w) k n "script" mg f h := by
  subst hf
  refine ⟨fd, T.all.map (He.cT K), spOf (T.mo K) aLaw, fun p hp => ?_, fun p hp => ?_, fun p hp => ?_, fun s u => ?_, fun H a ns _ _ hT hS => law_sp hT hS, hF⟩
  · obtain ⟨q, hq, rfl⟩ := List.mem_map.mp hp
    exact c.empty q hq
  · obtain ⟨q, hq, rfl⟩ := List.mem_map.mp hp
    exact c.out q hq
  · obtain ⟨q, hq, rfl⟩ := List.mem_map.mp hp
    exact PySem.W.codeHd_of_K KX (c.hd q hq)
  · obtain ⟨oc, od, kV, doc, pm, an, cdv, ct, osl, rfl, _, _⟩ := U.ex
    exact .of_eq (b kV doc pm an cdv ct [u] rfl)
end QD
set_option maxHeartbeats 4000000
namespace QD
open PySem PySem.Spec PyProof.Rows L2 GenW
set_option hygiene false
theorem iteB {x : Bool} {A B : Prop} (h1 : x = true → A) (h2 : x = false → B) : if x = true then A else B := by
  cases x with
  | true => exact h1 rfl
  | false => exact h2 rfl
theorem iteY {x : Bool} {A B : Prop} (h : x = true) (a : A) : if x = true then A else B := by rw [if_pos h]; exact a
theorem iteN {x : Bool} {A B : Prop} (h : x = false) (a : B) : if x = true then A else B := by rw [if_neg (by rw [h]; decide)]; exact a
local macro_rules | `(tactic| walk_at "mulc") => `(tactic| first | exact .inl ⟨by decide, by decide⟩ | exact .inr ⟨by decide, by decide⟩ | exact .inl ⟨by omega, by omega⟩ | exact .inr ⟨by omega, by omega⟩)
theorem view_lst {S : Sto} {a : Addr} {ds : List D} (h : S a = some (.lst ds)) : S.view (.ref a) = .lst ds := view_ref h
theorem view_dct {S : Sto} {a : Addr} {ks : List Key} {ds : List D} (h : S a = some (.dct ks ds)) : S.view (.ref a) = .dct ks ds := view_ref h
theorem view_dcu {S : Sto} {a : Addr} {ks : List (List Key)} {ds : List D} (h : S a = some (.dcu ks ds)) : S.view (.ref a) = .dcu ks ds := view_ref h
theorem view_ins {S : Sto} {a C : Addr} {ns : List Str} {ds : List D} (h : S a = some (.ins C ns ds)) : S.view (.ref a) = .obj C ns ds := view_ref h
theorem view_fdct {S : Sto} {a : Addr} {o : Obj} {ks : List Key} {ds : List D} (h : S a = some (.frz o (.dct ks ds))) : S.view (.ref a) = .dct ks ds := view_ref h
local macro_rules | `(tactic| walk_at "ne") => `(tactic| first | assumption | (apply Ne.symm; assumption))
local macro_rules | `(tactic| walk_at "sto") => `(tactic| first | assumption | exact Sto.put_same | (refine (Sto.put_ne (by walk_at "ne")).trans ?_; walk_at "sto"))
local macro_rules | `(tactic| walk_at "vw") => `(tactic| first | rfl | assumption | exact view_lst (by walk_at "sto") | exact view_dct (by walk_at "sto") | exact view_dcu (by walk_at "sto") | exact view_ins (by walk_at "sto") | exact view_fdct (by walk_at "sto"))
local macro_rules | `(tactic| walk_at "ln") => `(tactic| first | decide | (simp only [sizeLine_eq]; omega) | assumption)
local macro_rules | `(tactic| walk_at "bd") => `(tactic| first
  | refine bd_add ?_ | refine bd_sub ?_ | refine bd_mul (by walk_at "mulc") ?_ | refine bd_div ⟨by first | decide | omega, by first | decide | omega⟩ ?_ | refine bd_mod (by first | decide | omega) ?_
  | refine bd_pow ⟨by decide, by decide, by decide⟩ ?_ | refine bd_adds (by walk_at "ln") ?_
  | refine bd_eqi ?_ | refine bd_nei ?_ | refine bd_eqs ?_ | refine bd_nes ?_ | refine bd_eqb ?_ | refine bd_lt ?_ | refine bd_le ?_ | refine bd_gt ?_ | refine bd_ge ?_ | refine bd_isN ?_ | refine bd_notN ?_
  | refine bd_inC ?_ | refine bd_ninC ?_ | refine bd_inS ?_ | refine bd_ninS ?_
  | refine bd_eq rfl rfl rfl ?_ | refine bd_ne rfl rfl rfl ?_
  | refine bd_inK (hu_of c.room) (by walk_at "vw") ?_ | refine bd_ninK (hu_of c.room) (by walk_at "vw") ?_
  | refine bd_inQ c.hK rfl (by first | exact .inl (by walk_at "vw") | exact .inr (by walk_at "vw")) rfl ?_ | refine bd_ninQ c.hK rfl (by first | exact .inl (by walk_at "vw") | exact .inr (by walk_at "vw")) rfl ?_
  | refine bd_cat (by walk_at "vw") (by walk_at "vw") (by walk_at "ln") ?_)
local macro_rules | `(tactic| walk_at "id") => `(tactic| first
  | refine id_lst c.hK (by walk_at "vw") (by rfl) ?_ | refine id_tup c.hK (by walk_at "vw") (by rfl) ?_ | refine id_str (by walk_at "ln") (by rfl) ?_ | refine id_dct (hu_of c.room) (by walk_at "vw") (by rfl) ?_)
local macro_rules | `(tactic| walk_at "lg") => `(tactic| first | decide | (apply log_lt; omega) | assumption)
local macro_rules | `(tactic| walk_at "cd") => `(tactic| first
  | refine cd_lens (by walk_at "ln") ?_ | refine cd_len c.hK (.inl (by walk_at "vw")) ?_ | refine cd_len c.hK (.inr (by walk_at "vw")) ?_ | refine cd_int ?_ | refine cd_intb ?_ | refine cd_str (by walk_at "lg") ?_
  | refine cd_abs ?_ | refine cd_tupleF c.hK (by walk_at "vw") ?_)
local macro_rules | `(tactic| walk_at "fld") => `(tactic| refine ⟨_, _, _, _, by walk_at "vw", G.cls, by first | exact G.naK | exact G.naM, rfl, ?_⟩)
def topS (i : Nat) : Stmt := PySem.Challenge.pw_quipustack_k01_knots_and_numbers.main.body.getD i (.Pass ⟨0, 0, 0, 0⟩)
def inS_ (s : Stmt) (i : Nat) : Stmt := match s with
  | .ClassDef (body := b) .. => b.getD i (.Pass ⟨0, 0, 0, 0⟩)
  | _ => .Pass ⟨0, 0, 0, 0⟩
def blt : List Str := ["len", "str", "int", "abs", "sum", "sorted", "tuple", "list", "dict", "max", "range", "enumerate", "any"]
/-- what stands behind the top -/
structure G1 (F : Fix) (C CK CT CQ : Addr) : Prop where
  KnotError : EOk F "KnotError" CK
  TextError : EOk F "TextError" CT
  exK : PySem.W.exmOne F.M.K (.ref CK) (.ref CQ) = some true
  exT : PySem.W.exmOne F.M.K (.ref CT) (.ref CQ) = some true
  cls : Cls F.M.K C
  naK : NoAttr F.M.K C "kind"
  naM : NoAttr F.M.K C "many"
  neq : NoEq F.M.K C
  ll : ∃ t, F.mg "LONG_LEAST" = some (.int 2 t)
  lm : ∃ t, F.mg "LONG_MOST" = some (.int 9 t)
  mp : ∃ t, F.mg "MOST_PLACES" = some (.int 6 t)
  nb : ∀ x ∈ blt, F.mg x = none
/-- a cluster -/
def clu (C : Addr) (kind : Str) (many : Int) : D := .obj C ["kind", "many"] [.str kind, .int many]
def okC (kind : Str) (many : Int) : Bool := (decide (kind = "single") && decide (1 ≤ many ∧ many ≤ 9)) || (decide (kind = "long") && decide (2 ≤ many ∧ many ≤ 9)) || (decide (kind = "eight") && decide (many = 1))
section
variable {F : Fix} {C CK CT CQ : Addr}
abbrev sInit : Stmt := inS_ (topS 8) 0
theorem scInit : FnScope ["self", "kind", "many", "limits"] ["self", "kind", "many"] (defScope sInit) := ⟨rfl, rfl, rfl, by decide +kernel, rfl, by decide +kernel, by decide +kernel⟩
def aInit (C CK : Addr) : ASp := fun ds S R Z => ∃ p kind many, ds = [.ref p, .str kind, .int many] ∧ S p = some (.ins C [] []) ∧ (okC kind many = true → R .non (S.put p (.ins C ["kind", "many"] [.str kind, .int many]))) ∧ (okC kind many = false → Z CK S)
/-- the bounds of a kind -/
def limD : D := .dct [.inr "single", .inr "long", .inr "eight"] [.tup [.int 1, .int 9], .tup [.int 2, .int 9], .tup [.int 1, .int 1]]
def okC2 (kind : Str) (many : Int) : Bool := okC kind many
theorem lim_ne {kind : Str} (h1 : kind ≠ "single") (h2 : kind ≠ "long") (h3 : kind ≠ "eight") : getK ([.inr "single", .inr "long", .inr "eight"] : List Key) [D.tup [.int 1, .int 9], .tup [.int 2, .int 9], .tup [.int 1, .int 1]] (.inr kind) = none := by
  simp [getK, Ne.symm h1, Ne.symm h2, Ne.symm h3]
theorem okC_ne {kind : Str} {m : Int} (h1 : kind ≠ "single") (h2 : kind ≠ "long") (h3 : kind ≠ "eight") : okC kind m = false := by
  simp [okC, h1, h2, h3]
theorem okC_s {m : Int} : okC "single" m = (decide (1 ≤ m) && decide (m ≤ 9)) := by
  have e1 : ("single" : Str) ≠ "long" := by decide
  have e2 : ("single" : Str) ≠ "eight" := by decide
  simp [okC, e1, e2]
theorem okC_l {m : Int} : okC "long" m = (decide (2 ≤ m) && decide (m ≤ 9)) := by
  have e1 : ("long" : Str) ≠ "single" := by decide
  have e2 : ("long" : Str) ≠ "eight" := by decide
  simp [okC, e1, e2]
theorem okC_e {m : Int} : okC "eight" m = (decide (1 ≤ m) && decide (m ≤ 1)) := by
  have e1 : ("eight" : Str) ≠ "single" := by decide
  have e2 : ("eight" : Str) ≠ "long" := by decide
  have e3 : decide (m = 1) = (decide (1 ≤ m) && decide (m ≤ 1)) := by
    rw [← Bool.decide_and]
    exact decide_eq_decide.mpr (by omega)
  simp [okC, e1, e2, e3]
set_option hygiene false in
theorem at_lim {N : List Str} {sc : Scope} {k : Nat} {X : Cx} {W : WX} (c : XC F N sc k X W) {Γ : Ga} {S : Sto} {Z : ZK} {kind : Str} {many : Int} {p1 p2 p3 p4 p5 p6 p7 p8 p9 pa pb pc pd pe pf p0 pg : Pos} {j1 j2 : Nat} (h1 : slotB N sc 1 "kind" = true) (h2 : slotB N sc 2 "many" = true) (h3 : slotB N sc 3 "limits" = true)
    (g1 : Γ[1]? = some (some (.str kind))) (g2 : Γ[2]? = some (some (.int many))) (g3 : Γ[3]? = some (some limD)) :
    AT F.M X W (.BoolOp .Or [.Compare (.Name "kind" p1) [.NotIn] [.Name "limits" p2] p3, .UnaryOp .Not (.Compare (.Subscript (.Subscript (.Name "limits" p4) (.Name "kind" p5) p6) (.Constant (.int 0) j1 p7) p8) [.LtE, .LtE] [.Name "many" p9, .Subscript (.Subscript (.Name "limits" pa) (.Name "kind" pb) pc) (.Constant (.int 1) j2 pd) pe] pf) p0] pg) Γ S (fun b S' => b = !okC kind many ∧ S' = S) Z := by
  refine at_aw (aw_or ?_)
  refine at_cmp (by first | exact nomark _ | rfl) ?_
  refine ax_var c 1 h1 g1 ?_
  refine ax_var c 3 h3 g3 ?_
  refine bd_ninK (k := .inr kind) (hu_of c.room) rfl ?_
  refine ⟨_, rfl, ?_⟩
  by_cases e1 : kind = "single"
  · subst e1
    refine iteN rfl (aw_or1 (at_not ?_))
    refine at_chain ?_
    refine ax_ix (fun _ _ => rfl) (ax_ix (fun _ _ => rfl) (ax_var c 3 h3 g3 (ax_var c 1 h1 g1 ?_)))
    refine id_dct (k := .inr "single") (hu_of c.room) rfl rfl (ax_int ?_)
    walk_at "id"
    refine ax_var c 2 h2 g2 ?_
    walk_at "bd"
    refine ⟨_, rfl, iteB (fun h => ?_) (fun h => ?_)⟩
    · refine ax_ix (fun _ _ => rfl) (ax_ix (fun _ _ => rfl) (ax_var c 3 h3 g3 (ax_var c 1 h1 g1 ?_)))
      refine id_dct (k := .inr "single") (hu_of c.room) rfl rfl (ax_int ?_)
      walk_at "id"
      walk_at "bd"
      refine ⟨_, rfl, ?_, rfl⟩
      rw [okC_s]
      simp at h
      simp [h]
    · refine ⟨?_, rfl⟩
      rw [okC_s]
      simp at h
      simp [h]
  by_cases e2 : kind = "long"
  · subst e2
    refine iteN rfl (aw_or1 (at_not ?_))
    refine at_chain ?_
    refine ax_ix (fun _ _ => rfl) (ax_ix (fun _ _ => rfl) (ax_var c 3 h3 g3 (ax_var c 1 h1 g1 ?_)))
    refine id_dct (k := .inr "long") (hu_of c.room) rfl rfl (ax_int ?_)
    walk_at "id"
    refine ax_var c 2 h2 g2 ?_
    walk_at "bd"
    refine ⟨_, rfl, iteB (fun h => ?_) (fun h => ?_)⟩
    · refine ax_ix (fun _ _ => rfl) (ax_ix (fun _ _ => rfl) (ax_var c 3 h3 g3 (ax_var c 1 h1 g1 ?_)))
      refine id_dct (k := .inr "long") (hu_of c.room) rfl rfl (ax_int ?_)
      walk_at "id"
      walk_at "bd"
      refine ⟨_, rfl, ?_, rfl⟩
      rw [okC_l]
      simp at h
      simp [h]
    · refine ⟨?_, rfl⟩
      rw [okC_l]
      simp at h
      simp [h]
  by_cases e3 : kind = "eight"
  · subst e3
    refine iteN rfl (aw_or1 (at_not ?_))
    refine at_chain ?_
    refine ax_ix (fun _ _ => rfl) (ax_ix (fun _ _ => rfl) (ax_var c 3 h3 g3 (ax_var c 1 h1 g1 ?_)))
    refine id_dct (k := .inr "eight") (hu_of c.room) rfl rfl (ax_int ?_)
    walk_at "id"
    refine ax_var c 2 h2 g2 ?_
    walk_at "bd"
    refine ⟨_, rfl, iteB (fun h => ?_) (fun h => ?_)⟩
    · refine ax_ix (fun _ _ => rfl) (ax_ix (fun _ _ => rfl) (ax_var c 3 h3 g3 (ax_var c 1 h1 g1 ?_)))
      refine id_dct (k := .inr "eight") (hu_of c.room) rfl rfl (ax_int ?_)
      walk_at "id"
      walk_at "bd"
      refine ⟨_, rfl, ?_, rfl⟩
      rw [okC_e]
      simp at h
      simp [h]
    · refine ⟨?_, rfl⟩
      rw [okC_e]
      simp at h
      simp [h]
  rw [lim_ne e1 e2 e3, okC_ne e1 e2 e3]
  exact ⟨rfl, rfl⟩
set_option hygiene false in
theorem ok_init (G : G1 F C CK CT CQ) {f : Addr} {fd : FuncData} (U : Fun F.M.K "__init__" "Cluster.__init__" sInit f fd) : FnOk F.P F.w F.M.K F.mg F.base (L2.CX F.P F.w) 1 f fd ["self", "kind", "many"] (spOf F.M (aInit C CK)) := by
  refine fn_asS U scInit (fun ds S R Z ⟨p, kind, many, e, _⟩ => by rw [e]; rfl) (fun X W c hf hst ds S R Z ⟨p, kind, many, e, hp, hR, hZ⟩ => ?_)
  subst e
  have g_LONG_LEAST := G.ll
  have g_LONG_MOST := G.lm
  -- limits = {'single': (1, 9), 'long': (LONG_LEAST, LONG_MOST), 'eight': (1, 1)}
  refine ab_cons (as_set c hf 3 (by decide +kernel) ?_)
  refine ax_disp [(_, _), (_, _), (_, _)] (by simp) (by decide) (fun l hl => ?_)
  refine aps_cons ?_
  refine ax_str ?_
  refine ax_tup ?_
  refine aa_cons ?_
  refine ax_int ?_
  refine aa_cons ?_
  refine ax_int ?_
  refine aa_nil ?_
  refine ⟨by walk_at "ln", ?_⟩
  refine aps_cons ?_
  refine ax_str ?_
  refine ax_tup ?_
  refine aa_cons ?_
  refine ax_gl c (by decide +kernel) g_LONG_LEAST ?_
  refine aa_cons ?_
  refine ax_gl c (by decide +kernel) g_LONG_MOST ?_
  refine aa_nil ?_
  refine ⟨by walk_at "ln", ?_⟩
  refine aps_cons ?_
  refine ax_str ?_
  refine ax_tup ?_
  refine aa_cons ?_
  refine ax_int ?_
  refine aa_cons ?_
  refine ax_int ?_
  refine aa_nil ?_
  refine ⟨by walk_at "ln", ?_⟩
  refine aps_nil ?_
  refine ⟨Sto.put_same, [(.inr "single", .tup [.int 1, .int 9]), (.inr "long", .tup [.int 2, .int 9]), (.inr "eight", .tup [.int 1, .int 1])], rfl, by decide, ?_⟩
  rw [Sto.del_put hl]
  show AB F.M X W _ [some (.ref p), some (.str kind), some (.int many), some limD] S _ _
  -- if kind not in limits or not limits[kind][0] <= many <= limits[kind][1]:
  refine ab_cons (as_if ?_)
  refine at_is (!okC kind many) (at_lim c (by decide +kernel) (by decide +kernel) (by decide +kernel) rfl rfl rfl) ?_
  refine iteB (fun h => ?_) (fun h => ?_)
  · -- raise KnotError('no cluster')
    refine ab_cons (as_raise c G.KnotError (by decide +kernel) ?_)
    exact SZ.of (hZ (by simpa using h))
  refine ab_nil ?_
  -- self.kind = kind
  refine ab_cons (as_setF c ?_)
  refine ax_var c 1 (by decide +kernel) rfl ?_
  refine ax_var c 0 (by decide +kernel) rfl ?_
  refine ⟨_, _, _, _, rfl, by walk_at "sto", G.cls, G.naK, by decide, ?_⟩
  -- self.many = many
  refine ab_cons (as_setF c ?_)
  refine ax_var c 2 (by decide +kernel) rfl ?_
  refine ax_var c 0 (by decide +kernel) rfl ?_
  refine ⟨_, _, _, _, rfl, by walk_at "sto", G.cls, G.naM, by decide, ?_⟩
  rw [Sto.put_put]
  exact ab_nil (SR.of (hR (by simpa using h)))
end
end QD
set_option maxHeartbeats 4000000
namespace QD
open PySem PySem.Spec PyProof.Rows L2 GenW
set_option hygiene false
local macro_rules | `(tactic| walk_at "mulc") => `(tactic| first | exact .inl ⟨by decide, by decide⟩ | exact .inr ⟨by decide, by decide⟩ | exact .inl ⟨by omega, by omega⟩ | exact .inr ⟨by omega, by omega⟩)
local macro_rules | `(tactic| walk_at "ne") => `(tactic| first | assumption | (apply Ne.symm; assumption))
local macro_rules | `(tactic| walk_at "sto") => `(tactic| first | assumption | exact Sto.put_same | (refine (Sto.put_ne (by walk_at "ne")).trans ?_; walk_at "sto"))
local macro_rules | `(tactic| walk_at "vw") => `(tactic| first | rfl | assumption | exact view_lst (by walk_at "sto") | exact view_dct (by walk_at "sto") | exact view_dcu (by walk_at "sto") | exact view_ins (by walk_at "sto") | exact view_fdct (by walk_at "sto"))
local macro_rules | `(tactic| walk_at "ln") => `(tactic| first | decide | (simp only [sizeLine_eq]; omega) | assumption)
local macro_rules | `(tactic| walk_at "bd") => `(tactic| first
  | refine bd_add ?_ | refine bd_sub ?_ | refine bd_mul (by walk_at "mulc") ?_ | refine bd_div ⟨by first | decide | omega, by first | decide | omega⟩ ?_ | refine bd_mod (by first | decide | omega) ?_
  | refine bd_pow ⟨by decide, by decide, by decide⟩ ?_ | refine bd_adds (by walk_at "ln") ?_
  | refine bd_eqi ?_ | refine bd_nei ?_ | refine bd_eqs ?_ | refine bd_nes ?_ | refine bd_eqb ?_ | refine bd_lt ?_ | refine bd_le ?_ | refine bd_gt ?_ | refine bd_ge ?_ | refine bd_isN ?_ | refine bd_notN ?_
  | refine bd_inC ?_ | refine bd_ninC ?_ | refine bd_inS ?_ | refine bd_ninS ?_
  | refine bd_eq rfl rfl rfl ?_ | refine bd_ne rfl rfl rfl ?_
  | refine bd_inK (hu_of c.room) (by walk_at "vw") ?_ | refine bd_ninK (hu_of c.room) (by walk_at "vw") ?_
  | refine bd_inQ c.hK rfl (by first | exact .inl (by walk_at "vw") | exact .inr (by walk_at "vw")) rfl ?_ | refine bd_ninQ c.hK rfl (by first | exact .inl (by walk_at "vw") | exact .inr (by walk_at "vw")) rfl ?_
  | refine bd_cat (by walk_at "vw") (by walk_at "vw") (by walk_at "ln") ?_)
local macro_rules | `(tactic| walk_at "id") => `(tactic| first
  | refine id_lst c.hK (by walk_at "vw") (by rfl) ?_ | refine id_tup c.hK (by walk_at "vw") (by rfl) ?_ | refine id_str (by walk_at "ln") (by rfl) ?_ | refine id_dct (hu_of c.room) (by walk_at "vw") (by rfl) ?_)
local macro_rules | `(tactic| walk_at "lg") => `(tactic| first | decide | (apply log_lt; omega) | assumption)
local macro_rules | `(tactic| walk_at "cd") => `(tactic| first
  | refine cd_lens (by walk_at "ln") ?_ | refine cd_len c.hK (.inl (by walk_at "vw")) ?_ | refine cd_len c.hK (.inr (by walk_at "vw")) ?_ | refine cd_int ?_ | refine cd_intb ?_ | refine cd_str (by walk_at "lg") ?_
  | refine cd_abs ?_ | refine cd_tupleF c.hK (by walk_at "vw") ?_)
local macro_rules | `(tactic| walk_at "fld") => `(tactic| refine ⟨_, _, _, _, by walk_at "vw", G.cls, by first | exact G.naK | exact G.naM, rfl, ?_⟩)
section
variable {F : Fix} {C CK CT CQ : Addr}
/-- the digits of a number -/
abbrev sg (m : Int) : Str := (toString m : String)
theorem sg_len {m : Int} (h0 : 0 ≤ m) (h9 : m ≤ 9) : (sg m).length = 1 := by
  obtain ⟨n, rfl⟩ := Int.eq_ofNat_of_zero_le h0
  have h : ∀ n : Fin 10, (sg ((n : Nat) : Int)).length = 1 := by decide +kernel
  exact h ⟨n, by omega⟩
def cText (kind : Str) (many : Int) : Str := if kind = "eight" then "e" else if kind = "single" then "s" ++ sg many else "l" ++ sg many
def cLen (kind : Str) (many : Int) : Int := if kind = "single" then many else if kind = "eight" then 2 else 2 + (many + 1) / 2
def cStr (kind : Str) (many : Int) : Int := if kind = "single" then 3 * many else if kind = "eight" then 6 else 4 + 2 * many
theorem okC_cases {kind : Str} {m : Int} (h : okC kind m = true) : (kind = "single" ∧ 1 ≤ m ∧ m ≤ 9) ∨ (kind = "long" ∧ 2 ≤ m ∧ m ≤ 9) ∨ (kind = "eight" ∧ m = 1) := by
  simp [okC] at h
  rcases h with (h | h) | h
  · exact .inl ⟨h.1, h.2.1, h.2.2⟩
  · exact .inr (.inl ⟨h.1, h.2.1, h.2.2⟩)
  · exact .inr (.inr h)
def aCl (f : Str → Int → D) (C : Addr) : ASp := fun ds S R _ => ∃ d kind many, ds = [d] ∧ S.view d = .obj C ["kind", "many"] [.str kind, .int many] ∧ okC kind many = true ∧ R (f kind many) S
abbrev sText : Stmt := inS_ (topS 8) 1
abbrev sLength : Stmt := inS_ (topS 8) 2
abbrev sString : Stmt := inS_ (topS 8) 3
theorem scText : FnScope ["self"] ["self"] (defScope sText) := ⟨rfl, rfl, rfl, by decide +kernel, rfl, by decide +kernel, by decide +kernel⟩
theorem scLength : FnScope ["self"] ["self"] (defScope sLength) := ⟨rfl, rfl, rfl, by decide +kernel, rfl, by decide +kernel, by decide +kernel⟩
theorem scString : FnScope ["self"] ["self"] (defScope sString) := ⟨rfl, rfl, rfl, by decide +kernel, rfl, by decide +kernel, by decide +kernel⟩
set_option hygiene false in
theorem ok_text (G : G1 F C CK CT CQ) {f : Addr} {fd : FuncData} (U : Fun F.M.K "text" "Cluster.text" sText f fd) : FnOk F.P F.w F.M.K F.mg F.base (L2.CX F.P F.w) 1 f fd ["self"] (spOf F.M (aCl (fun k m => .str (cText k m)) C)) := by
  refine fn_asS U scText (fun ds S R Z ⟨d, kind, many, e, _⟩ => by rw [e]; rfl) (fun X W c hf hst ds S R Z ⟨d, kind, many, e, hv, hok, hR⟩ => ?_)
  subst e
  have g_str := G.nb "str" (by decide)
  refine ab_one (as_ret ?_)
  refine ax_is (.str (cText kind many)) ?_ (SR.of hR)
  refine ax_if ?_
  refine at_cmp (by first | exact nomark _ | rfl) ?_
  refine ax_fld c ?_ -- self.kind
  refine ax_var c 0 (by decide +kernel) rfl ?_
  walk_at "fld"
  refine ax_str ?_
  walk_at "bd"
  refine ⟨_, rfl, ?_⟩
  refine iteB (fun h => ?_) (fun h => ?_)
  · refine ax_str ?_
    exact ⟨by rw [cText, if_pos (of_decide_eq_true h)], rfl⟩
  · have ne : kind ≠ "eight" := of_decide_eq_false h
    have hc : (kind = "single" ∨ kind = "long") ∧ 0 ≤ many ∧ many ≤ 9 := by
      rcases okC_cases hok with ⟨a, b⟩ | ⟨a, b⟩ | ⟨a, b⟩
      · exact ⟨.inl a, by omega, by omega⟩
      · exact ⟨.inr a, by omega, by omega⟩
      · exact absurd a ne
    obtain ⟨hk, m0, m9⟩ := hc
    have hl := sg_len m0 m9
    refine ax_bin ?_
    refine ax_ix (fun _ _ => rfl) ?_
    refine ax_fld c ?_ -- self.kind
    refine ax_var c 0 (by decide +kernel) rfl ?_
    walk_at "fld"
    refine ax_int ?_
    rcases hk with hk | hk
    · subst hk
      walk_at "id"
      refine ax_ty c (by decide +kernel) g_str rfl ?_
      refine aa_cons ?_
      refine ax_fld c ?_ -- self.many
      refine ax_var c 0 (by decide +kernel) rfl ?_
      walk_at "fld"
      refine aa_nil ?_
      refine cd_str (by apply log_lt <;> omega) ?_
      refine bd_adds (by rw [hl]; decide) ?_
      exact ⟨by rw [cText, if_neg ne, if_pos rfl]; rfl, rfl⟩
    · subst hk
      walk_at "id"
      refine ax_ty c (by decide +kernel) g_str rfl ?_
      refine aa_cons ?_
      refine ax_fld c ?_ -- self.many
      refine ax_var c 0 (by decide +kernel) rfl ?_
      walk_at "fld"
      refine aa_nil ?_
      refine cd_str (by apply log_lt <;> omega) ?_
      refine bd_adds (by rw [hl]; decide) ?_
      exact ⟨by rw [cText, if_neg ne, if_neg (by decide)]; rfl, rfl⟩
set_option hygiene false in
theorem ok_length (G : G1 F C CK CT CQ) {f : Addr} {fd : FuncData} (U : Fun F.M.K "length" "Cluster.length" sLength f fd) : FnOk F.P F.w F.M.K F.mg F.base (L2.CX F.P F.w) 1 f fd ["self"] (spOf F.M (aCl (fun k m => .int (cLen k m)) C)) := by
  refine fn_asS U scLength (fun ds S R Z ⟨d, kind, many, e, _⟩ => by rw [e]; rfl) (fun X W c hf hst ds S R Z ⟨d, kind, many, e, hv, hok, hR⟩ => ?_)
  subst e
  change R (.int (cLen kind many)) S at hR
  refine ab_cons (as_if ?_)
  refine at_cmp (by first | exact nomark _ | rfl) ?_
  refine ax_fld c ?_ -- self.kind
  refine ax_var c 0 (by decide +kernel) rfl ?_
  walk_at "fld"
  refine ax_str ?_
  walk_at "bd"
  refine ⟨_, rfl, ?_⟩
  refine iteB (fun h => ?_) (fun h => ?_)
  · -- return self.many
    refine ab_cons (as_ret ?_)
    refine ax_fld c ?_ -- self.many
    refine ax_var c 0 (by decide +kernel) rfl ?_
    walk_at "fld"
    refine SR.of ?_
    rwa [cLen, if_pos (of_decide_eq_true h)] at hR
  refine ab_nil ?_
  rw [cLen, if_neg (of_decide_eq_false h)] at hR
  -- return 2 if self.kind == 'eight' else 2 + (self.many + 1) // 2
  refine ab_one (as_ret ?_)
  refine ax_if ?_
  refine at_cmp (by first | exact nomark _ | rfl) ?_
  refine ax_fld c ?_ -- self.kind
  refine ax_var c 0 (by decide +kernel) rfl ?_
  walk_at "fld"
  refine ax_str ?_
  walk_at "bd"
  refine ⟨_, rfl, ?_⟩
  refine iteB (fun h => ?_) (fun h => ?_)
  · refine ax_int ?_
    rw [if_pos (of_decide_eq_true h)] at hR
    exact SR.of hR
  · rw [if_neg (of_decide_eq_false h)] at hR
    refine ax_bin ?_
    refine ax_int ?_
    refine ax_bin ?_
    refine ax_bin ?_
    refine ax_fld c ?_ -- self.many
    refine ax_var c 0 (by decide +kernel) rfl ?_
    walk_at "fld"
    refine ax_int ?_
    walk_at "bd"
    refine ax_int ?_
    refine bd_div ⟨by decide, by decide⟩ ?_
    walk_at "bd"
    exact SR.of hR
set_option hygiene false in
theorem ok_string (G : G1 F C CK CT CQ) {f : Addr} {fd : FuncData} (U : Fun F.M.K "string" "Cluster.string" sString f fd) : FnOk F.P F.w F.M.K F.mg F.base (L2.CX F.P F.w) 1 f fd ["self"] (spOf F.M (aCl (fun k m => .int (cStr k m)) C)) := by
  refine fn_asS U scString (fun ds S R Z ⟨d, kind, many, e, _⟩ => by rw [e]; rfl) (fun X W c hf hst ds S R Z ⟨d, kind, many, e, hv, hok, hR⟩ => ?_)
  subst e
  change R (.int (cStr kind many)) S at hR
  refine ab_cons (as_if ?_)
  refine at_cmp (by first | exact nomark _ | rfl) ?_
  refine ax_fld c ?_ -- self.kind
  refine ax_var c 0 (by decide +kernel) rfl ?_
  walk_at "fld"
  refine ax_str ?_
  walk_at "bd"
  refine ⟨_, rfl, ?_⟩
  refine iteB (fun h => ?_) (fun h => ?_)
  · -- return 3 * self.many
    refine ab_cons (as_ret ?_)
    refine ax_bin ?_
    refine ax_int ?_
    refine ax_fld c ?_ -- self.many
    refine ax_var c 0 (by decide +kernel) rfl ?_
    walk_at "fld"
    walk_at "bd"
    rw [cStr, if_pos (of_decide_eq_true h)] at hR
    exact SR.of hR
  refine ab_nil ?_
  rw [cStr, if_neg (of_decide_eq_false h)] at hR
  -- return 6 if self.kind == 'eight' else 4 + 2 * self.many
  refine ab_one (as_ret ?_)
  refine ax_if ?_
  refine at_cmp (by first | exact nomark _ | rfl) ?_
  refine ax_fld c ?_ -- self.kind
  refine ax_var c 0 (by decide +kernel) rfl ?_
  walk_at "fld"
  refine ax_str ?_
  walk_at "bd"
  refine ⟨_, rfl, ?_⟩
  refine iteB (fun h => ?_) (fun h => ?_)
  · refine ax_int ?_
    rw [if_pos (of_decide_eq_true h)] at hR
    exact SR.of hR
  · rw [if_neg (of_decide_eq_false h)] at hR
    refine ax_bin ?_
    refine ax_int ?_
    refine ax_bin ?_
    refine ax_int ?_
    refine ax_fld c ?_ -- self.many
    refine ax_var c 0 (by decide +kernel) rfl ?_
    walk_at "fld"
    walk_at "bd"
    walk_at "bd"
    exact SR.of hR
end
end QD
set_option maxHeartbeats 4000000
namespace QD
open PySem PySem.Spec PyProof.Rows L2 GenW
set_option hygiene false
local macro_rules | `(tactic| walk_at "mulc") => `(tactic| first | exact .inl ⟨by decide, by decide⟩ | exact .inr ⟨by decide, by decide⟩ | exact .inl ⟨by omega, by omega⟩ | exact .inr ⟨by omega, by omega⟩)
local macro_rules | `(tactic| walk_at "ne") => `(tactic| first | assumption | (apply Ne.symm; assumption))
local macro_rules | `(tactic| walk_at "sto") => `(tactic| first | assumption | exact Sto.put_same | (refine (Sto.put_ne (by walk_at "ne")).trans ?_; walk_at "sto"))
local macro_rules | `(tactic| walk_at "vw") => `(tactic| first | rfl | assumption | exact view_lst (by walk_at "sto") | exact view_dct (by walk_at "sto") | exact view_dcu (by walk_at "sto") | exact view_ins (by walk_at "sto") | exact view_fdct (by walk_at "sto"))
local macro_rules | `(tactic| walk_at "ln") => `(tactic| first | decide | (simp only [sizeLine_eq]; omega) | assumption)
local macro_rules | `(tactic| walk_at "bd") => `(tactic| first
  | refine bd_add ?_ | refine bd_sub ?_ | refine bd_mul (by walk_at "mulc") ?_ | refine bd_div ⟨by first | decide | omega, by first | decide | omega⟩ ?_ | refine bd_mod (by first | decide | omega) ?_
  | refine bd_pow ⟨by decide, by decide, by decide⟩ ?_ | refine bd_adds (by walk_at "ln") ?_
  | refine bd_eqi ?_ | refine bd_nei ?_ | refine bd_eqs ?_ | refine bd_nes ?_ | refine bd_eqb ?_ | refine bd_lt ?_ | refine bd_le ?_ | refine bd_gt ?_ | refine bd_ge ?_ | refine bd_isN ?_ | refine bd_notN ?_
  | refine bd_inC ?_ | refine bd_ninC ?_ | refine bd_inS ?_ | refine bd_ninS ?_
  | refine bd_eq rfl rfl rfl ?_ | refine bd_ne rfl rfl rfl ?_
  | refine bd_inK (hu_of c.room) (by walk_at "vw") ?_ | refine bd_ninK (hu_of c.room) (by walk_at "vw") ?_
  | refine bd_inQ c.hK rfl (by first | exact .inl (by walk_at "vw") | exact .inr (by walk_at "vw")) rfl ?_ | refine bd_ninQ c.hK rfl (by first | exact .inl (by walk_at "vw") | exact .inr (by walk_at "vw")) rfl ?_
  | refine bd_cat (by walk_at "vw") (by walk_at "vw") (by walk_at "ln") ?_)
local macro_rules | `(tactic| walk_at "id") => `(tactic| first
  | refine id_lst c.hK (by walk_at "vw") (by rfl) ?_ | refine id_tup c.hK (by walk_at "vw") (by rfl) ?_ | refine id_str (by walk_at "ln") (by rfl) ?_ | refine id_dct (hu_of c.room) (by walk_at "vw") (by rfl) ?_)
local macro_rules | `(tactic| walk_at "lg") => `(tactic| first | decide | (apply log_lt; omega) | assumption)
local macro_rules | `(tactic| walk_at "cd") => `(tactic| first
  | refine cd_lens (by walk_at "ln") ?_ | refine cd_len c.hK (.inl (by walk_at "vw")) ?_ | refine cd_len c.hK (.inr (by walk_at "vw")) ?_ | refine cd_int ?_ | refine cd_intb ?_ | refine cd_str (by walk_at "lg") ?_
  | refine cd_abs ?_ | refine cd_tupleF c.hK (by walk_at "vw") ?_)
local macro_rules | `(tactic| walk_at "fld") => `(tactic| refine ⟨_, _, _, _, by walk_at "vw", G.cls, by first | exact G.naK | exact G.naM, rfl, ?_⟩)
section
variable {F : Fix} {C CK CT CQ : Addr}
/-- the cluster that a text names -/
def cofL : List Nat → Option (Str × Int)
  | [a, b] => if (a = 115 ∨ a = 108) ∧ (49 ≤ b ∧ b ≤ 57) ∧ ¬(a = 108 ∧ b = 49) then some (if a = 115 then "single" else "long", (b : Int) - 48) else none
  | [a] => if a = 101 then some ("eight", 1) else none
  | _ => none
def cof (t : Str) : Option (Str × Int) := cofL t.cps.toList
def aCof (C CT : Addr) : ASp := fun ds S R Z => ∃ t, ds = [.str t] ∧ t.length ≤ sizeLine ∧ (∀ k m, cof t = some (k, m) → R (clu C k m) S) ∧ (cof t = none → Z CT S)
abbrev sCof : Stmt := topS 9
theorem scCof : FnScope ["text"] ["text"] (defScope sCof) := ⟨rfl, rfl, rfl, by decide +kernel, rfl, by decide +kernel, by decide +kernel⟩
theorem int_dig {b : Nat} (h1 : 48 ≤ b) (h2 : b ≤ 57) : PySem.intText? (⟨#[b]⟩ : Str) = some ((b : Int) - 48) := by
  have h : ∀ b : Fin 58, 48 ≤ b.val → PySem.intText? (⟨#[b.val]⟩ : Str) = some ((b.val : Int) - 48) := by decide +kernel
  exact h ⟨b, by omega⟩ h1
theorem okC_digs {m : Int} (h1 : 1 ≤ m) (h2 : m ≤ 9) : okC "single" m = true := by
  rw [okC_s]; simp [h1, h2]
theorem okC_digl {m : Int} (h1 : 2 ≤ m) (h2 : m ≤ 9) : okC "long" m = true := by
  rw [okC_l]; simp [h1, h2]
/-- Cluster(kind, many) -/
theorem made {A : Prop} {S : Sto} {R : RK} {Z : ZK} {k : Str} {m : Int} (h1 : okC k m = true → R (clu C k m) S) (h2 : okC k m = false → Z CK S) : ∀ x, S x = none → aInit C CK (.ref x :: [.str k, .int m]) (S.put x (.ins C [] [])) (fun d S2 => d = .non ∧ ∃ y S3, (y = .ref x ∧ S3 = S2 ∨ ∃ ns fs, S2 x = some (.ins C ns fs) ∧ y = .obj C ns fs ∧ S3 = S2.del x) ∧ R y S3) (SZ Z) := fun x hx =>
  ⟨x, k, m, rfl, Sto.put_same, fun h => ⟨rfl, _, _, .inr ⟨_, _, Sto.put_same, rfl, rfl⟩, by rw [Sto.put_put, Sto.del_put hx]; exact h1 h⟩, fun h => ⟨S, (Sub.refl).put hx, h2 h⟩⟩
set_option hygiene false in
theorem ok_cof (G : G1 F C CK CT CQ) (GC : COk F 1 "Cluster" C (aInit C CK)) {f : Addr} {fd : FuncData} (U : Fun F.M.K "cluster_of" "cluster_of" sCof f fd) : FnOk F.P F.w F.M.K F.mg F.base (L2.CX F.P F.w) 3 f fd ["text"] (spOf F.M (aCof C CT)) := by
  refine fn_asS U scCof (fun ds S R Z ⟨t, e, _⟩ => by rw [e]; rfl) (fun X W c hf hst ds S R Z ⟨t, e, hl, hR, hZ⟩ => ?_)
  subst e
  have g_len := G.nb "len" (by decide)
  have g_int := G.nb "int" (by decide)
  -- if text == 'e':
  refine ab_cons (as_if ?_)
  refine at_cmp (by first | exact nomark _ | rfl) ?_
  refine ax_var c 0 (by decide +kernel) rfl ?_
  refine ax_str ?_
  walk_at "bd"
  refine ⟨_, rfl, ?_⟩
  refine iteB (fun h => ?_) (fun h => ?_)
  · -- return Cluster('eight', 1)
    have h := of_decide_eq_true h
    refine ab_cons (as_ret ?_)
    refine ax_make c GC (by omega) (by decide +kernel) ?_
    refine aa_cons ?_
    refine ax_str ?_
    refine aa_cons ?_
    refine ax_int ?_
    refine aa_nil ?_
    exact made (A := True) (fun _ => SR.of (hR _ _ (by rw [h]; decide +kernel))) (fun h => absurd h (by decide +kernel))
  have hne := of_decide_eq_false h
  refine ab_nil ?_
  -- if len(text) != 2 or text[0] not in 'sl' or text[1] not in '123456789' or (text == 'l1'):
  refine ab_cons (as_if ?_)
  refine at_is (cof t).isNone ?_ ?_
  · refine at_aw (aw_or ?_)
    refine at_cmp (by first | exact nomark _ | rfl) ?_
    refine ax_bi c (by decide +kernel) g_len rfl ?_
    refine aa_cons ?_
    refine ax_var c 0 (by decide +kernel) rfl ?_
    refine aa_nil ?_
    refine cd_lens hl ?_
    refine ax_int ?_
    walk_at "bd"
    refine ⟨_, rfl, ?_⟩
    obtain ⟨⟨l⟩⟩ := t
    match l, hne, hl with
    | [], _, _ => exact ⟨rfl, rfl⟩
    | [a], hne, _ =>
      refine iteY rfl ⟨?_, rfl⟩
      have : a ≠ 101 := fun h => hne (by rw [h]; decide +kernel)
      simp [cof, cofL, this]
    | a :: b :: c' :: l, _, _ =>
      refine iteY ?_ ⟨?_, rfl⟩
      · simp [Str.length]
        omega
      · simp [cof, cofL]
    | [a, b], hne, hl =>
      refine iteN rfl ?_
      refine aw_or ?_
      refine at_cmp (by first | exact nomark _ | rfl) ?_
      refine ax_ix (fun _ _ => rfl) ?_
      refine ax_var c 0 (by decide +kernel) rfl ?_
      refine ax_int ?_
      refine id_str (c := a) hl rfl ?_
      refine ax_str ?_
      refine bd_ninC ?_
      refine ⟨_, rfl, ?_⟩
      have ea : (a ∈ (Str.ofString "sl").cps.toList) ↔ (a = 115 ∨ a = 108) := by
        rw [show (Str.ofString "sl").cps.toList = [115, 108] from by decide +kernel]; simp
      have eb : (b ∈ (Str.ofString "123456789").cps.toList) ↔ (49 ≤ b ∧ b ≤ 57) := by
        rw [show (Str.ofString "123456789").cps.toList = [49, 50, 51, 52, 53, 54, 55, 56, 57] from by decide +kernel]
        simp
        omega
      have el : ((⟨⟨[a, b]⟩⟩ : Str) = "l1") ↔ (a = 108 ∧ b = 49) := by
        rw [show ("l1" : Str) = ⟨⟨[108, 49]⟩⟩ from by decide +kernel]
        simp
      by_cases ha : a = 115 ∨ a = 108
      · refine iteN (by simp [ea, ha]) ?_
        refine aw_or ?_
        refine at_cmp (by first | exact nomark _ | rfl) ?_
        refine ax_ix (fun _ _ => rfl) ?_
        refine ax_var c 0 (by decide +kernel) rfl ?_
        refine ax_int ?_
        refine id_str (c := b) hl rfl ?_
        refine ax_str ?_
        refine bd_ninC ?_
        refine ⟨_, rfl, ?_⟩
        by_cases hb : 49 ≤ b ∧ b ≤ 57
        · refine iteN (by simp [eb, hb]) ?_
          refine aw_or1 ?_
          refine at_cmp (by first | exact nomark _ | rfl) ?_
          refine ax_var c 0 (by decide +kernel) rfl ?_
          refine ax_str ?_
          refine bd_eqs ?_
          refine ⟨_, rfl, ?_, rfl⟩
          by_cases h1 : a = 108 ∧ b = 49
          · rw [decide_eq_true (el.mpr h1)]
            simp [cof, cofL, h1]
          · rw [decide_eq_false (fun z => h1 (el.mp z))]
            simp only [cof, cofL]
            rw [if_pos ⟨ha, hb, h1⟩]
            rfl
        · refine iteY (by simp [eb]; omega) ⟨?_, rfl⟩
          simp only [cof, cofL]
          rw [if_neg (fun h => hb h.2.1)]
          rfl
      · refine iteY (by simp [ea]; omega) ⟨?_, rfl⟩
        simp only [cof, cofL]
        rw [if_neg (fun h => ha h.1)]
        rfl
  refine iteB (fun h => ?_) (fun h => ?_)
  · -- raise TextError('no cluster')
    refine ab_cons (as_raise c G.TextError (by decide +kernel) ?_)
    exact SZ.of (hZ (Option.isNone_iff_eq_none.mp h))
  refine ab_nil ?_
  have h : ¬ cof t = none := fun z => by rw [z] at h; cases h
  have hp : ∃ a b, t = ⟨⟨[a, b]⟩⟩ ∧ ((a = 115 ∨ a = 108) ∧ (49 ≤ b ∧ b ≤ 57) ∧ ¬(a = 108 ∧ b = 49)) := by
    obtain ⟨⟨l⟩⟩ := t
    match l, hne, h with
    | [], _, h => exact absurd rfl h
    | [a], hne, h =>
      have : a ≠ 101 := fun h => hne (by rw [h]; decide +kernel)
      exact absurd (by simp [cof, cofL, this]) h
    | a :: b :: c' :: l, _, h => exact absurd rfl h
    | [a, b], _, h =>
      refine ⟨a, b, rfl, ?_⟩
      by_cases hx : ((a = 115 ∨ a = 108) ∧ (49 ≤ b ∧ b ≤ 57) ∧ ¬(a = 108 ∧ b = 49))
      · exact hx
      · exact absurd (by simp only [cof, cofL]; rw [if_neg hx]) h
  obtain ⟨a, b, rfl, hx⟩ := hp
  have hc : cof ⟨⟨[a, b]⟩⟩ = some ((if a = 115 then "single" else "long" : Str), (b : Int) - 48) := by
    simp only [cof, cofL]
    rw [if_pos hx]
  -- return Cluster('single' if text[0] == 's' else 'long', int(text[1]))
  refine ab_one (as_ret ?_)
  refine ax_make c GC (by omega) (by decide +kernel) ?_
  refine aa_cons ?_
  refine ax_is (.str (if a = 115 then "single" else "long")) ?_ ?_
  · refine ax_if ?_
    refine at_cmp (by first | exact nomark _ | rfl) ?_
    refine ax_ix (fun _ _ => rfl) ?_
    refine ax_var c 0 (by decide +kernel) rfl ?_
    refine ax_int ?_
    refine id_str (c := a) hl rfl ?_
    refine ax_str ?_
    walk_at "bd"
    refine ⟨_, rfl, ?_⟩
    have es : ((⟨#[a]⟩ : Str) = "s") ↔ a = 115 := by
      rw [show ("s" : Str) = ⟨#[115]⟩ from by decide +kernel]
      simp
    refine iteB (fun h => ?_) (fun h => ?_)
    · refine ax_str ?_
      rw [if_pos (es.mp (of_decide_eq_true h))]
      exact ⟨rfl, rfl⟩
    · refine ax_str ?_
      rw [if_neg (fun z => of_decide_eq_false h (es.mpr z))]
      exact ⟨rfl, rfl⟩
  refine aa_cons ?_
  refine ax_ty c (by decide +kernel) g_int rfl ?_
  refine aa_cons ?_
  refine ax_ix (fun _ _ => rfl) ?_
  refine ax_var c 0 (by decide +kernel) rfl ?_
  refine ax_int ?_
  refine id_str (c := b) hl rfl ?_
  refine aa_nil ?_
  refine cd_ints (int_dig (by omega) hx.2.1.2) (by simp [Str.length]) ?_
  refine aa_nil ?_
  refine made (A := True) (fun _ => SR.of (hR _ _ hc)) (fun h => ?_)
  exfalso
  by_cases ha : a = 115
  · rw [if_pos ha, okC_digs (by omega) (by omega)] at h
    exact absurd h (by decide)
  · rw [if_neg ha, okC_digl (by omega) (by omega)] at h
    exact absurd h (by decide)
end
end QD
set_option maxHeartbeats 4000000
namespace QD
open PySem PySem.Spec PyProof.Rows L2 GenW
set_option hygiene false
local macro_rules | `(tactic| walk_at "mulc") => `(tactic| first | exact .inl ⟨by decide, by decide⟩ | exact .inr ⟨by decide, by decide⟩ | exact .inl ⟨by omega, by omega⟩ | exact .inr ⟨by omega, by omega⟩)
local macro_rules | `(tactic| walk_at "ne") => `(tactic| first | assumption | (apply Ne.symm; assumption))
local macro_rules | `(tactic| walk_at "sto") => `(tactic| first | assumption | exact Sto.put_same | (refine (Sto.put_ne (by walk_at "ne")).trans ?_; walk_at "sto"))
local macro_rules | `(tactic| walk_at "vw") => `(tactic| first | rfl | assumption | exact view_lst (by walk_at "sto") | exact view_dct (by walk_at "sto") | exact view_dcu (by walk_at "sto") | exact view_ins (by walk_at "sto") | exact view_fdct (by walk_at "sto"))
local macro_rules | `(tactic| walk_at "ln") => `(tactic| first | decide | (simp only [sizeLine_eq]; omega) | assumption)
local macro_rules | `(tactic| walk_at "bd") => `(tactic| first
  | refine bd_add ?_ | refine bd_sub ?_ | refine bd_mul (by walk_at "mulc") ?_ | refine bd_div ⟨by first | decide | omega, by first | decide | omega⟩ ?_ | refine bd_mod (by first | decide | omega) ?_
  | refine bd_pow ⟨by decide, by decide, by decide⟩ ?_ | refine bd_adds (by walk_at "ln") ?_
  | refine bd_eqi ?_ | refine bd_nei ?_ | refine bd_eqs ?_ | refine bd_nes ?_ | refine bd_eqb ?_ | refine bd_lt ?_ | refine bd_le ?_ | refine bd_gt ?_ | refine bd_ge ?_ | refine bd_isN ?_ | refine bd_notN ?_
  | refine bd_inC ?_ | refine bd_ninC ?_ | refine bd_inS ?_ | refine bd_ninS ?_
  | refine bd_eq rfl rfl rfl ?_ | refine bd_ne rfl rfl rfl ?_
  | refine bd_inK (hu_of c.room) (by walk_at "vw") ?_ | refine bd_ninK (hu_of c.room) (by walk_at "vw") ?_
  | refine bd_inQ c.hK rfl (by first | exact .inl (by walk_at "vw") | exact .inr (by walk_at "vw")) rfl ?_ | refine bd_ninQ c.hK rfl (by first | exact .inl (by walk_at "vw") | exact .inr (by walk_at "vw")) rfl ?_
  | refine bd_cat (by walk_at "vw") (by walk_at "vw") (by walk_at "ln") ?_)
local macro_rules | `(tactic| walk_at "id") => `(tactic| first
  | refine id_lst c.hK (by walk_at "vw") (by rfl) ?_ | refine id_tup c.hK (by walk_at "vw") (by rfl) ?_ | refine id_str (by walk_at "ln") (by rfl) ?_ | refine id_dct (hu_of c.room) (by walk_at "vw") (by rfl) ?_)
local macro_rules | `(tactic| walk_at "lg") => `(tactic| first | decide | (apply log_lt; omega) | assumption)
local macro_rules | `(tactic| walk_at "cd") => `(tactic| first
  | refine cd_lens (by walk_at "ln") ?_ | refine cd_len c.hK (.inl (by walk_at "vw")) ?_ | refine cd_len c.hK (.inr (by walk_at "vw")) ?_ | refine cd_int ?_ | refine cd_intb ?_ | refine cd_str (by walk_at "lg") ?_
  | refine cd_abs ?_ | refine cd_tupleF c.hK (by walk_at "vw") ?_)
local macro_rules | `(tactic| walk_at "fld") => `(tactic| refine ⟨_, _, _, _, by walk_at "vw", G.cls, by first | exact G.naK | exact G.naM, rfl, ?_⟩)
open TL
/-! ### the plain law: digits, rows, texts; no program in sight -/
section
/-- the digits of a number, from the left -/
def dgs (n : Nat) : List Nat := (numL n).map (· - 48)
theorem dgs_small {n : Nat} (h : n < 10) : dgs n = [n] := by
  rw [dgs, numL_lt h]; simp
theorem dgs_step {n : Nat} (h : 10 ≤ n) : dgs n = dgs (n / 10) ++ [n % 10] := by
  rw [dgs, numL_step h, List.map_append]; simp [dgs]
theorem dgs_lt {n d : Nat} (h : d ∈ dgs n) : d < 10 := by
  obtain ⟨c, hc, rfl⟩ := List.mem_map.mp h
  have := numL_digits n c hc
  omega
theorem sg_cps (n : Nat) : (sg (n : Int)).cps.toList = (dgs n).map (48 + ·) := by
  show tl (Str.ofString (toString ((n : Nat) : Int))) = _
  rw [tl_num, dgs, List.map_map]
  have : ∀ c ∈ numL n, ((48 + ·) ∘ (· - 48)) c = c := fun c hc => by
    have := numL_digits n c hc
    show 48 + (c - 48) = c
    omega
  rw [List.map_congr_left this]
  simp
theorem dgs_ne (n : Nat) : dgs n ≠ [] := fun h => numL_ne n (List.map_eq_nil_iff.mp h)
theorem dgs_zero : dgs 0 = [0] := dgs_small (by decide)
def dv (a : Nat) (l : List Nat) : Nat := l.foldl (fun a d => 10 * a + d) a
/-- the number that digits write -/
abbrev dval (l : List Nat) : Nat := dv 0 l
theorem dv_snoc (a : Nat) (l : List Nat) (d : Nat) : dv a (l ++ [d]) = 10 * dv a l + d := by simp [dv]
theorem dv_cons (a d : Nat) (l : List Nat) : dv a (d :: l) = dv (10 * a + d) l := rfl
theorem dv_acc : ∀ (l : List Nat) (a : Nat), dv a l = a * 10 ^ l.length + dval l
  | [], a => by simp [dv]
  | d :: l, a => by
    show dv (10 * a + d) l = a * 10 ^ (d :: l).length + dv (10 * 0 + d) l
    rw [dv_acc l (10 * a + d), dv_acc l (10 * 0 + d), List.length_cons, Nat.pow_succ]
    simp only [dval, Nat.mul_zero, Nat.zero_add, Nat.add_mul]
    have : 10 * a * 10 ^ l.length = a * (10 ^ l.length * 10) := by rw [Nat.mul_comm 10 a, Nat.mul_assoc, Nat.mul_comm 10]
    omega
theorem dval_cons (d : Nat) (l : List Nat) : dval (d :: l) = d * 10 ^ l.length + dval l := by
  rw [dval, dv_cons, dv_acc l]; simp [dval]
theorem dval_dgs (n : Nat) : dval (dgs n) = n := by
  induction n using Nat.strongRecOn with
  | _ n ih =>
    by_cases h : n < 10
    · rw [dgs_small h]; simp [dv]
    · rw [dgs_step (by omega), dval, dv_snoc]
      have := ih (n / 10) (by omega)
      rw [dval] at this
      rw [this]
      omega
theorem dgs_len {n k : Nat} (hk : 0 < k) : (dgs n).length ≤ k ↔ n < 10 ^ k := by
  constructor
  · intro h
    have key : ∀ l : List Nat, (∀ d ∈ l, d < 10) → dval l < 10 ^ l.length := by
      intro l
      induction l with
      | nil => intro _; simp [dv]
      | cons d l ih =>
        intro hl
        rw [dval_cons, List.length_cons, Nat.pow_succ]
        have h1 := hl d (List.mem_cons_self ..)
        have h2 := ih fun x hx => hl x (List.mem_cons_of_mem _ hx)
        have h3 : d * 10 ^ l.length ≤ 9 * 10 ^ l.length := Nat.mul_le_mul_right _ (by omega)
        omega
    have h1 := key (dgs n) fun d hd => dgs_lt hd
    rw [dval_dgs] at h1
    exact Nat.lt_of_lt_of_le h1 (Nat.pow_le_pow_right (by decide) h)
  · intro h
    rw [dgs, List.length_map]
    exact numL_len hk h
theorem dgs_head {n : Nat} (h : 0 < n) : ∃ d r, dgs n = d :: r ∧ 0 < d := by
  induction n using Nat.strongRecOn with
  | _ n ih =>
    by_cases h1 : n < 10
    · exact ⟨n, [], dgs_small h1, h⟩
    · obtain ⟨d, r, e, hd⟩ := ih (n / 10) (by omega) (by omega)
      exact ⟨d, r ++ [n % 10], by rw [dgs_step (by omega), e]; rfl, hd⟩
theorem dgs_dval {d : Nat} {l : List Nat} (h : ∀ x ∈ d :: l, x < 10) (hd : 0 < d) : dgs (dval (d :: l)) = d :: l := by
  have key : ∀ (m : Nat) (r : List Nat), r.length = m → (∀ x ∈ d :: r, x < 10) → dgs (dval (d :: r)) = d :: r ∧ 0 < dval (d :: r) := by
    intro m
    induction m with
    | zero =>
      intro r hr hx
      have : r = [] := List.length_eq_zero_iff.mp hr
      subst this
      rw [dval_cons]
      simp [dv]
      exact ⟨dgs_small (hx d (by simp)), hd⟩
    | succ m ih =>
      intro r hr hx
      have hne : r ≠ [] := fun e => by rw [e] at hr; cases hr
      obtain ⟨q, e, rfl⟩ : ∃ q e, r = q ++ [e] := ⟨r.dropLast, r.getLast hne, (List.dropLast_concat_getLast hne).symm⟩
      have h1 := ih q (by simp at hr; exact hr) fun x hx' => hx x (by simp at hx' ⊢; rcases hx' with h | h; exact .inl h; exact .inr (.inl h))
      have he : e < 10 := hx e (by simp)
      have e1 : dval (d :: (q ++ [e])) = 10 * dval (d :: q) + e := dv_snoc 0 (d :: q) e
      rw [e1]
      refine ⟨?_, by omega⟩
      rw [dgs_step (by omega)]
      have e2 : (10 * dval (d :: q) + e) / 10 = dval (d :: q) := by omega
      have e3 : (10 * dval (d :: q) + e) % 10 = e := by omega
      rw [e2, e3, h1.1]
      rfl
  exact (key l.length l rfl h).1
/-- the kind of a digit at a place -/
def kd (p d : Nat) : Str := if 0 < p then "single" else if d = 1 then "eight" else "long"
abbrev Row := Int × Str × Int
def cfA (p d : Nat) : List Row := if d = 0 then [] else [((p : Int), kd p d, (d : Int))]
def cfN (L : Nat) : Nat → List Nat → List Row
  | _, [] => []
  | i, d :: ds => cfA (L - 1 - i) d ++ cfN L (i + 1) ds
theorem cfN_snoc (L : Nat) : ∀ (ds : List Nat) (i d : Nat), cfN L i (ds ++ [d]) = cfN L i ds ++ cfA (L - 1 - (i + ds.length)) d
  | [], i, d => by simp [cfN]
  | x :: ds, i, d => by
    rw [List.cons_append, cfN, cfN, cfN_snoc L ds, List.append_assoc, List.length_cons, show i + 1 + ds.length = i + (ds.length + 1) by omega]
def rows (n : Nat) : List Row := cfN (dgs n).length 0 (dgs n)
theorem kd_single {p d : Nat} : kd p d = "single" ↔ 0 < p := by
  unfold kd
  by_cases h : 0 < p
  · simp [h]
  · by_cases h1 : d = 1
    · simp only [h, h1, if_true, if_false]
      exact ⟨fun e => absurd e (by decide), fun e => e.elim⟩
    · simp only [h, h1, if_false]
      exact ⟨fun e => absurd e (by decide), fun e => e.elim⟩
theorem kd_ok {p d : Nat} (h0 : d ≠ 0) (h : d < 10) : okC (kd p d) (d : Int) = true := by
  unfold kd
  by_cases hp : 0 < p
  · rw [if_pos hp]; exact okC_digs (by omega) (by omega)
  · rw [if_neg hp]
    by_cases h1 : d = 1
    · rw [if_pos h1, h1]; decide +kernel
    · rw [if_neg h1]; exact okC_digl (by omega) (by omega)
/-- the number of rows -/
def nOf : Int → Int → List Row → Option Int
  | _, found, [] => some found
  | last, found, (p, k, m) :: r => if (0 ≤ p ∧ p < last) ∧ ¬(decide (p = 0) = decide (k = "single")) then nOf p (found + 10 ^ p.toNat * m) r else none
theorem nOf_cfN (L : Nat) : ∀ (ds : List Nat) (i : Nat) (last found : Int), L = i + ds.length → (ds.length : Int) ≤ last → nOf last found (cfN L i ds) = some (found + (dval ds : Nat))
  | [], i, last, found, _, _ => by simp [cfN, nOf, dv]
  | d :: ds, i, last, found, hL, hl => by
    rw [List.length_cons] at hL hl
    have ep : L - 1 - i = ds.length := by omega
    rw [cfN, ep, dval_cons]
    unfold cfA
    by_cases h0 : d = 0
    · rw [if_pos h0, List.nil_append, nOf_cfN L ds (i + 1) last found (by omega) (by omega), h0]
      simp
    · rw [if_neg h0]
      show nOf last found ((((ds.length : Nat) : Int), kd ds.length d, (d : Int)) :: cfN L (i + 1) ds) = _
      have hk : ¬(decide (((ds.length : Nat) : Int) = 0) = decide (kd ds.length d = "single")) := by
        by_cases hp : 0 < ds.length
        · rw [decide_eq_false (by omega), decide_eq_true (kd_single.mpr hp)]; decide
        · rw [decide_eq_true (by omega), decide_eq_false (fun e => hp (kd_single.mp e))]; decide
      rw [nOf, if_pos ⟨⟨by omega, by omega⟩, hk⟩, nOf_cfN L ds (i + 1) _ _ (by omega) (Int.le_refl _)]
      have : (10 : Int) ^ ((ds.length : Nat) : Int).toNat * (d : Int) = ((d * 10 ^ ds.length : Nat) : Int) := by
        rw [Int.toNat_natCast, Nat.mul_comm]; push_cast; rfl
      rw [this]
      congr 1
      omega
theorem nOf_rows {n : Nat} (h : n < 10 ^ 6) : nOf 6 0 (rows n) = some (n : Int) := by
  have h6 : (dgs n).length ≤ 6 := (dgs_len (by decide)).mpr h
  rw [rows, nOf_cfN _ _ _ _ _ (by omega) (by omega), dval_dgs]
  simp
end
end QD
set_option maxHeartbeats 4000000
namespace QD
open PySem PySem.Spec PyProof.Rows L2 GenW
set_option hygiene false
local macro_rules | `(tactic| walk_at "mulc") => `(tactic| first | exact .inl ⟨by decide, by decide⟩ | exact .inr ⟨by decide, by decide⟩ | exact .inl ⟨by omega, by omega⟩ | exact .inr ⟨by omega, by omega⟩)
local macro_rules | `(tactic| walk_at "ne") => `(tactic| first | assumption | (apply Ne.symm; assumption))
local macro_rules | `(tactic| walk_at "sto") => `(tactic| first | assumption | exact Sto.put_same | (refine (Sto.put_ne (by walk_at "ne")).trans ?_; walk_at "sto"))
local macro_rules | `(tactic| walk_at "vw") => `(tactic| first | rfl | assumption | exact view_lst (by walk_at "sto") | exact view_dct (by walk_at "sto") | exact view_dcu (by walk_at "sto") | exact view_ins (by walk_at "sto") | exact view_fdct (by walk_at "sto"))
local macro_rules | `(tactic| walk_at "ln") => `(tactic| first | decide | exact Nat.le_of_ble_eq_true rfl | (simp only [sizeLine_eq]; omega) | assumption)
local macro_rules | `(tactic| walk_at "bd") => `(tactic| first
  | refine bd_add ?_ | refine bd_sub ?_ | refine bd_mul (by walk_at "mulc") ?_ | refine bd_div ⟨by first | decide | omega, by first | decide | omega⟩ ?_ | refine bd_mod (by first | decide | omega) ?_
  | refine bd_pow ⟨by decide, by decide, by decide⟩ ?_ | refine bd_adds (by walk_at "ln") ?_
  | refine bd_eqi ?_ | refine bd_nei ?_ | refine bd_eqs ?_ | refine bd_nes ?_ | refine bd_eqb ?_ | refine bd_lt ?_ | refine bd_le ?_ | refine bd_gt ?_ | refine bd_ge ?_ | refine bd_isN ?_ | refine bd_notN ?_
  | refine bd_inC ?_ | refine bd_ninC ?_ | refine bd_inS ?_ | refine bd_ninS ?_
  | refine bd_eq rfl rfl rfl ?_ | refine bd_ne rfl rfl rfl ?_
  | refine bd_inK (hu_of c.room) (by walk_at "vw") ?_ | refine bd_ninK (hu_of c.room) (by walk_at "vw") ?_
  | refine bd_inQ c.hK rfl (by first | exact .inl (by walk_at "vw") | exact .inr (by walk_at "vw")) rfl ?_ | refine bd_ninQ c.hK rfl (by first | exact .inl (by walk_at "vw") | exact .inr (by walk_at "vw")) rfl ?_
  | refine bd_cat (by walk_at "vw") (by walk_at "vw") (by walk_at "ln") ?_)
local macro_rules | `(tactic| walk_at "id") => `(tactic| first
  | refine id_lst c.hK (by walk_at "vw") (by rfl) ?_ | refine id_tup c.hK (by walk_at "vw") (by rfl) ?_ | refine id_str (by walk_at "ln") (by rfl) ?_ | refine id_dct (hu_of c.room) (by walk_at "vw") (by rfl) ?_)
local macro_rules | `(tactic| walk_at "lg") => `(tactic| first | decide | (apply log_lt; omega) | assumption)
local macro_rules | `(tactic| walk_at "cd") => `(tactic| first
  | refine cd_lens (by walk_at "ln") ?_ | refine cd_len c.hK (.inl (by walk_at "vw")) ?_ | refine cd_len c.hK (.inr (by walk_at "vw")) ?_ | refine cd_int ?_ | refine cd_intb ?_ | refine cd_str (by walk_at "lg") ?_
  | refine cd_abs ?_ | refine cd_tupleF c.hK (by walk_at "vw") ?_)
local macro_rules | `(tactic| walk_at "fld") => `(tactic| refine ⟨_, _, _, _, by walk_at "vw", G.cls, by first | exact G.naK | exact G.naM, rfl, ?_⟩)
open TL
section
variable {F : Fix} {C CK CT CQ : Addr}
def rowD (C : Addr) (r : Row) : D := .tup [.int r.1, clu C r.2.1 r.2.2]
def aCfs (C CK : Addr) : ASp := fun ds S R Z => ∃ n : Int, ds = [.int n] ∧ n < 2 ^ 64 ∧ -(2 ^ 64) < n ∧ (∀ m : Nat, n = m → m < 10 ^ 6 → R (.tupf ((rows m).map (rowD C))) S) ∧ (¬(0 ≤ n ∧ n < 10 ^ 6) → Z CK S)
abbrev sCfs : Stmt := topS 10
abbrev nCfs : List Str := ["number", "text", "found", "rank", "sign", "place", "digit"]
theorem scCfs : FnScope nCfs ["number"] (defScope sCfs) := ⟨rfl, rfl, rfl, by decide +kernel, rfl, by decide +kernel, by decide +kernel⟩
theorem sg_length (n : Nat) : (sg (n : Int)).length = (dgs n).length := by
  show (sg (n : Int)).cps.size = _
  rw [← Array.length_toList, sg_cps, List.length_map]
theorem cfN_le (L : Nat) : ∀ (ds : List Nat) (i : Nat), (cfN L i ds).length ≤ ds.length
  | [], i => by simp [cfN]
  | d :: ds, i => by
    have := cfN_le L ds (i + 1)
    rw [cfN, List.length_append, List.length_cons]
    have : (cfA (L - 1 - i) d).length ≤ 1 := by unfold cfA; split <;> simp
    omega
theorem take_succ' {α : Type} {l : List α} {i : Nat} {d : α} (h : l[i]? = some d) : l.take (i + 1) = l.take i ++ [d] := by
  obtain ⟨hi, e⟩ := List.getElem?_eq_some_iff.mp h
  rw [List.take_succ_eq_append_getElem hi, e]
set_option hygiene false in
theorem ok_cfs (G : G1 F C CK CT CQ) (GC : COk F 1 "Cluster" C (aInit C CK)) {f : Addr} {fd : FuncData} (U : Fun F.M.K "clusters_for" "clusters_for" sCfs f fd) : FnOk F.P F.w F.M.K F.mg F.base (L2.CX F.P F.w) 3 f fd ["number"] (spOf F.M (aCfs C CK)) := by
  refine fn_asS U scCfs (fun ds S R Z ⟨t, e, _⟩ => by rw [e]; rfl) (fun X W c hf hst ds S R Z ⟨n, e, hn1, hn2, hR, hZ⟩ => ?_)
  subst e
  have g_len := G.nb "len" (by decide)
  have g_int := G.nb "int" (by decide)
  have g_str := G.nb "str" (by decide)
  have g_tuple := G.nb "tuple" (by decide)
  have g_enumerate := G.nb "enumerate" (by decide)
  have g_MOST_PLACES := G.mp
  -- if number < 0 or len(str(number)) > MOST_PLACES:
  refine ab_cons (as_if ?_)
  refine at_is (!decide (0 ≤ n ∧ n < 10 ^ 6)) ?_ ?_
  · refine at_aw (aw_or ?_)
    refine at_cmp (by first | exact nomark _ | rfl) ?_
    refine ax_var c 0 (by decide +kernel) rfl ?_
    refine ax_int ?_
    refine bd_lt ?_
    refine ⟨_, rfl, ?_⟩
    refine iteB (fun h => ?_) (fun h => ?_)
    · have := of_decide_eq_true h
      exact ⟨by rw [decide_eq_false (by omega)]; rfl, rfl⟩
    · have h := of_decide_eq_false h
      obtain ⟨m, rfl⟩ := Int.eq_ofNat_of_zero_le (show 0 ≤ n by omega)
      have hl : (dgs m).length ≤ 20 := (dgs_len (by decide)).mpr (by omega)
      refine aw_or1 ?_
      refine at_cmp (by first | exact nomark _ | rfl) ?_
      refine ax_bi c (by decide +kernel) g_len rfl ?_
      refine aa_cons ?_
      refine ax_ty c (by decide +kernel) g_str rfl ?_
      refine aa_cons ?_
      refine ax_var c 0 (by decide +kernel) rfl ?_
      refine aa_nil ?_
      refine cd_str (by apply log_lt <;> omega) ?_
      refine aa_nil ?_
      have e1 : (sg ((m : Nat) : Int)).length = (dgs m).length := sg_length m
      refine cd_lens (by rw [e1, sizeLine_eq]; omega) ?_
      refine ax_gl c (by decide +kernel) g_MOST_PLACES ?_
      refine bd_gt ?_
      refine ⟨_, rfl, ?_, rfl⟩
      rw [e1]
      have key := dgs_len (n := m) (k := 6) (by decide)
      by_cases h6 : m < 10 ^ 6
      · have := key.mpr h6
        rw [decide_eq_false (by omega), decide_eq_true (by omega)]; rfl
      · have : ¬ (dgs m).length ≤ 6 := fun z => h6 (key.mp z)
        rw [decide_eq_true (by omega), decide_eq_false (by omega)]; rfl
  refine iteB (fun h => ?_) (fun h => ?_)
  · -- raise KnotError('no number')
    refine ab_cons (as_raise c G.KnotError (by decide +kernel) ?_)
    exact SZ.of (hZ (of_decide_eq_false (by rw [Bool.not_eq_true'] at h; exact h)))
  have h : 0 ≤ n ∧ n < 10 ^ 6 := of_decide_eq_true (by rw [Bool.not_eq_false'] at h; exact h)
  obtain ⟨m, rfl⟩ := Int.eq_ofNat_of_zero_le h.1
  have hm : m < 10 ^ 6 := by omega
  have hR := hR m rfl hm
  clear hZ
  have h6 : (dgs m).length ≤ 6 := (dgs_len (by decide)).mpr hm
  have e1 : (sg ((m : Nat) : Int)).length = (dgs m).length := sg_length m
  have e2 := sg_cps m
  generalize e0 : sg ((m : Nat) : Int) = t at e1 e2
  refine ab_nil ?_
  -- text, found = (str(number), [])
  refine ab_cons (as_par c 1 2 (by decide) (by decide +kernel) (by decide +kernel) (by decide +kernel) (by decide +kernel) (by have hs := c.hs; generalize X.env = e at hs ⊢; cases e; cases hs; rfl) ?_)
  refine ax_is (.str t) ?_ ?_
  · refine ax_ty c (by decide +kernel) g_str rfl ?_
    refine aa_cons ?_
    refine ax_var c 0 (by decide +kernel) rfl ?_
    refine aa_nil ?_
    exact cd_str (by apply log_lt <;> omega) ⟨congrArg D.str e0, rfl⟩
  refine ax_lstM ?_
  refine aa_nil ?_
  refine ⟨by walk_at "ln", fun l hl => ?_⟩
  -- for rank, sign in enumerate(text):
  refine ab_cons (as_for c ?_)
  refine ai_enumS c (by decide +kernel) g_enumerate ?_ -- or ai_enumL
  refine ax_var c 1 (by decide +kernel) rfl ?_
  refine ⟨_, rfl, ?_⟩
  rw [e2]
  have hlen : (((dgs m).map (48 + ·)).zipIdx.map fun p => D.tup [.int (p.2 : Nat), .str ⟨#[p.1]⟩]).length = (dgs m).length := by simp
  refine ⟨fun i Γ' S' => ∃ a b c' d, Γ' = [some (.int m), some (.str t), some (.ref l), a, b, c', d] ∧ S' = S.put l (.lst ((cfN (dgs m).length 0 ((dgs m).take i)).map (rowD C))), ⟨none, none, none, none, rfl, rfl⟩, fun i d Γ' S' hd hP => ⟨trivial, ?_⟩, fun Γ' S' hP => ⟨trivial, ?_⟩⟩
  · obtain ⟨a, b, c', dd, rfl, rfl⟩ := hP
    obtain ⟨x, hx, rfl⟩ : ∃ x, (dgs m)[i]? = some x ∧ d = D.tup [.int (i : Nat), .str ⟨#[48 + x]⟩] := by
      have hi : i < (dgs m).length := by rw [← hlen]; exact (List.getElem?_eq_some_iff.mp hd).1
      refine ⟨(dgs m)[i], List.getElem?_eq_getElem hi, ?_⟩
      simp [hi] at hd
      exact hd.symm
    have hi : i < (dgs m).length := (List.getElem?_eq_some_iff.mp hx).1
    have hx9 : x < 10 := dgs_lt (List.mem_of_getElem? hx)
    have hlt : (cfN (dgs m).length 0 ((dgs m).take i)).length ≤ 6 := by
      have := cfN_le (dgs m).length ((dgs m).take i) 0
      rw [List.length_take] at this
      omega
    have hstep : cfN (dgs m).length 0 ((dgs m).take (i + 1)) = cfN (dgs m).length 0 ((dgs m).take i) ++ cfA ((dgs m).length - 1 - i) x := by
      rw [take_succ' hx, cfN_snoc, List.length_take, Nat.zero_add, Nat.min_eq_left (Nat.le_of_lt hi)]
    refine ag_tup c (by walk_at "vw") rfl ?_
    refine ags_cons ?_
    refine ag_name c 3 (by decide +kernel) (.inl (hf _)) ?_
    refine ags_cons ?_
    refine ag_name c 4 (by decide +kernel) (.inl (hf _)) ?_
    refine ags_nil ?_
    -- place, digit = (len(text) - 1 - rank, int(sign))
    refine ab_cons (as_par c 5 6 (by decide) (by decide +kernel) (by decide +kernel) (by decide +kernel) (by decide +kernel) (by have hs := c.hs; generalize X.env = e at hs ⊢; cases e; cases hs; rfl) ?_)
    refine ax_is (.int (((dgs m).length - 1 - i : Nat) : Int)) ?_ ?_
    · refine ax_bin ?_
      refine ax_bin ?_
      refine ax_bi c (by decide +kernel) g_len rfl ?_
      refine aa_cons ?_
      refine ax_var c 1 (by decide +kernel) rfl ?_
      refine aa_nil ?_
      refine cd_lens (by rw [e1, sizeLine_eq]; omega) ?_
      refine ax_int ?_
      refine bd_sub ?_
      refine ax_var c 3 (by decide +kernel) rfl ?_
      refine bd_sub ?_
      rw [e1]
      exact ⟨congrArg D.int (by omega), rfl⟩
    refine ax_ty c (by decide +kernel) g_int rfl ?_
    refine aa_cons ?_
    refine ax_var c 4 (by decide +kernel) rfl ?_
    refine aa_nil ?_
    refine cd_ints (int_dig (by omega) (by omega)) (by simp [Str.length]) ?_
    rw [show (((48 + x : Nat) : Int) - 48) = (x : Int) by omega]
    generalize hp : (dgs m).length - 1 - i = p at hstep
    generalize hB : (cfN (dgs m).length 0 ((dgs m).take i)) = B at hstep hlt
    show AB F.M X W _ [some (.int m), some (.str t), some (.ref l), some (.int i), some (.str ⟨#[48 + x]⟩), some (.int p), some (.int x)] (S.put l (.lst (B.map (rowD C)))) _ _
    by_cases h0 : x = 0
    · subst h0
      refine ab_one (as_if ?_)
      refine at_aw (aw_and ?_)
      refine at_cmp (by first | exact nomark _ | rfl) (ax_var c 6 (by decide +kernel) rfl (ax_int (bd_gt ⟨_, rfl, iteN rfl (iteN rfl ?_)⟩)))
      refine ab_one (as_if ?_)
      refine at_cmp (by first | exact nomark _ | rfl) (ax_var c 6 (by decide +kernel) rfl (ax_int (bd_gt ⟨_, rfl, iteN rfl ?_⟩)))
      refine ab_nil ⟨_, _, _, _, rfl, ?_⟩
      rw [hstep]
      simp [cfA]
    · have hx0 : (0 : Int) < (x : Int) := by omega
      refine ab_one (as_if ?_)
      refine at_aw (aw_and ?_)
      refine at_cmp (by first | exact nomark _ | rfl) (ax_var c 6 (by decide +kernel) rfl (ax_int (bd_gt ⟨_, rfl, iteY (decide_eq_true hx0) (aw_and1 ?_)⟩)))
      refine at_cmp (by first | exact nomark _ | rfl) (ax_var c 5 (by decide +kernel) rfl (ax_int (bd_gt ⟨_, rfl, iteB (fun h => ?_) (fun h => ?_)⟩)))
      · have hp0 : 0 < p := by have := of_decide_eq_true h; omega
        -- found.append((place, Cluster('single', digit)))
        refine ab_one (as_expr ?_)
        refine ax_append ?_
        refine ax_var c 2 (by decide +kernel) rfl ?_
        refine ⟨⟨_, _, rfl, Sto.put_same⟩, ?_⟩
        refine ax_tup ?_
        refine aa_cons ?_
        refine ax_var c 5 (by decide +kernel) rfl ?_
        refine aa_cons ?_
        refine ax_make c GC (by omega) (by decide +kernel) ?_
        refine aa_cons ?_
        refine ax_str ?_
        refine aa_cons ?_
        refine ax_var c 6 (by decide +kernel) rfl ?_
        refine aa_nil ?_
        have ek : kd p x = "single" := kd_single.mpr hp0
        have ok1 := kd_ok (p := p) h0 hx9
        rw [ek] at ok1
        refine made (A := True) (Z := Z) (fun _ => ?_) (fun h => by rw [ok1] at h; cases h)
        refine aa_nil ?_
        refine ⟨by walk_at "ln", ?_⟩
        refine ⟨_, _, rfl, Sto.put_same, by rw [List.length_map, sizeLine_eq]; omega, ?_⟩
        refine ⟨_, _, _, _, rfl, ?_⟩
        rw [Sto.put_put, hstep, List.map_append, cfA, if_neg h0, ek]
        rfl
      · have hp0 : p = 0 := by have := of_decide_eq_false h; omega
        subst hp0
        refine ab_one (as_if ?_)
        refine at_cmp (by first | exact nomark _ | rfl) (ax_var c 6 (by decide +kernel) rfl (ax_int (bd_gt ⟨_, rfl, iteY (decide_eq_true hx0) ?_⟩)))
        -- found.append((0, Cluster('eight', 1) if digit == 1 else Cluster('long', digit)))
        refine ab_one (as_expr ?_)
        refine ax_append ?_
        refine ax_var c 2 (by decide +kernel) rfl ?_
        refine ⟨⟨_, _, rfl, Sto.put_same⟩, ?_⟩
        refine ax_tup ?_
        refine aa_cons ?_
        refine ax_int ?_
        refine aa_cons ?_
        refine ax_is (clu C (kd 0 x) (x : Int)) ?_ ?_
        · refine ax_if ?_
          refine at_cmp (by first | exact nomark _ | rfl) (ax_var c 6 (by decide +kernel) rfl (ax_int (bd_eqi ⟨_, rfl, iteB (fun h => ?_) (fun h => ?_)⟩)))
          · have h1 : x = 1 := by have := of_decide_eq_true h; omega
            subst h1
            refine ax_make c GC (by omega) (by decide +kernel) ?_
            refine aa_cons ?_
            refine ax_str ?_
            refine aa_cons ?_
            refine ax_int ?_
            refine aa_nil ?_
            exact made (A := True) (Z := Z) (fun _ => ⟨rfl, rfl⟩) (fun h => absurd h (by decide +kernel))
          · have h1 : x ≠ 1 := by have := of_decide_eq_false h; omega
            refine ax_make c GC (by omega) (by decide +kernel) ?_
            refine aa_cons ?_
            refine ax_str ?_
            refine aa_cons ?_
            refine ax_var c 6 (by decide +kernel) rfl ?_
            refine aa_nil ?_
            have ok1 := kd_ok (p := 0) h0 hx9
            have ek : kd 0 x = "long" := by unfold kd; rw [if_neg (by decide), if_neg h1]
            rw [ek] at ok1 ⊢
            exact made (A := True) (Z := Z) (fun _ => ⟨rfl, rfl⟩) (fun h => by rw [ok1] at h; cases h)
        refine aa_nil ?_
        refine ⟨by walk_at "ln", ?_⟩
        refine ⟨_, _, rfl, Sto.put_same, by rw [List.length_map, sizeLine_eq]; omega, ?_⟩
        refine ⟨_, _, _, _, rfl, ?_⟩
        rw [Sto.put_put, hstep, List.map_append, cfA, if_neg h0]
        rfl
  · obtain ⟨a, b, c', dd, rfl, rfl⟩ := hP
    rw [hlen, List.take_length]
    -- return tuple(found)
    refine ab_one (as_ret ?_)
    refine ax_ty c (by decide +kernel) g_tuple rfl ?_
    refine aa_cons ?_
    refine ax_var c 2 (by decide +kernel) rfl ?_
    refine aa_nil ?_
    refine cd_tupleF c.hK (view_lst Sto.put_same) ?_
    exact ⟨S, Sub.refl.put hl, hR⟩
end
end QD
set_option maxHeartbeats 4000000
namespace QD
open PySem PySem.Spec PyProof.Rows L2 GenW
set_option hygiene false
local macro_rules | `(tactic| walk_at "mulc") => `(tactic| first | exact .inl ⟨by decide, by decide⟩ | exact .inr ⟨by decide, by decide⟩ | exact .inl ⟨by omega, by omega⟩ | exact .inr ⟨by omega, by omega⟩)
local macro_rules | `(tactic| walk_at "ne") => `(tactic| first | assumption | (apply Ne.symm; assumption))
local macro_rules | `(tactic| walk_at "sto") => `(tactic| first | assumption | exact Sto.put_same | (refine (Sto.put_ne (by walk_at "ne")).trans ?_; walk_at "sto"))
local macro_rules | `(tactic| walk_at "vw") => `(tactic| first | rfl | assumption | exact view_lst (by walk_at "sto") | exact view_dct (by walk_at "sto") | exact view_dcu (by walk_at "sto") | exact view_ins (by walk_at "sto") | exact view_fdct (by walk_at "sto"))
local macro_rules | `(tactic| walk_at "ln") => `(tactic| first | decide | exact Nat.le_of_ble_eq_true rfl | (simp only [sizeLine_eq]; omega) | assumption)
local macro_rules | `(tactic| walk_at "bd") => `(tactic| first
  | refine bd_add ?_ | refine bd_sub ?_ | refine bd_mul (by walk_at "mulc") ?_ | refine bd_div ⟨by first | decide | omega, by first | decide | omega⟩ ?_ | refine bd_mod (by first | decide | omega) ?_
  | refine bd_pow ⟨by decide, by decide, by decide⟩ ?_ | refine bd_adds (by walk_at "ln") ?_
  | refine bd_eqi ?_ | refine bd_nei ?_ | refine bd_eqs ?_ | refine bd_nes ?_ | refine bd_eqb ?_ | refine bd_lt ?_ | refine bd_le ?_ | refine bd_gt ?_ | refine bd_ge ?_ | refine bd_isN ?_ | refine bd_notN ?_
  | refine bd_inC ?_ | refine bd_ninC ?_ | refine bd_inS ?_ | refine bd_ninS ?_
  | refine bd_eq rfl rfl rfl ?_ | refine bd_ne rfl rfl rfl ?_
  | refine bd_inK (hu_of c.room) (by walk_at "vw") ?_ | refine bd_ninK (hu_of c.room) (by walk_at "vw") ?_
  | refine bd_inQ c.hK rfl (by first | exact .inl (by walk_at "vw") | exact .inr (by walk_at "vw")) rfl ?_ | refine bd_ninQ c.hK rfl (by first | exact .inl (by walk_at "vw") | exact .inr (by walk_at "vw")) rfl ?_
  | refine bd_cat (by walk_at "vw") (by walk_at "vw") (by walk_at "ln") ?_)
local macro_rules | `(tactic| walk_at "id") => `(tactic| first
  | refine id_lst c.hK (by walk_at "vw") (by rfl) ?_ | refine id_tup c.hK (by walk_at "vw") (by rfl) ?_ | refine id_str (by walk_at "ln") (by rfl) ?_ | refine id_dct (hu_of c.room) (by walk_at "vw") (by rfl) ?_)
local macro_rules | `(tactic| walk_at "lg") => `(tactic| first | decide | (apply log_lt; omega) | assumption)
local macro_rules | `(tactic| walk_at "cd") => `(tactic| first
  | refine cd_lens (by walk_at "ln") ?_ | refine cd_len c.hK (.inl (by walk_at "vw")) ?_ | refine cd_len c.hK (.inr (by walk_at "vw")) ?_ | refine cd_int ?_ | refine cd_intb ?_ | refine cd_str (by walk_at "lg") ?_
  | refine cd_abs ?_ | refine cd_tupleF c.hK (by walk_at "vw") ?_)
local macro_rules | `(tactic| walk_at "fld") => `(tactic| refine ⟨_, _, _, _, by walk_at "vw", G.cls, by first | exact G.naK | exact G.naM, rfl, ?_⟩)
section
variable {F : Fix} {C CK CT CQ : Addr}
/-- d shows rows -/
def IsRows (C : Addr) (S : Sto) (d : D) (rs : List Row) : Prop := d = .lst (rs.map (rowD C)) ∨ d = .tupf (rs.map (rowD C)) ∨ ∃ p, d = .ref p ∧ S p = some (.lst (rs.map (rowD C)))
def aNum (C CK : Addr) : ASp := fun ds S R Z => ∃ d rs, ds = [d] ∧ IsRows C S d rs ∧ (∀ v, nOf 6 0 rs = some v → R (.int v) S) ∧ (nOf 6 0 rs = none → Z CK S)
abbrev sNum : Stmt := topS 11
abbrev nNum : List Str := ["rows", "last", "found", "place", "cluster", "unit", "step"]
theorem scNum : FnScope nNum ["rows"] (defScope sNum) := ⟨rfl, rfl, rfl, by decide +kernel, rfl, by decide +kernel, by decide +kernel⟩
theorem ai_rows {N : List Str} {sc : Scope} {k : Nat} {X : Cx} {W : WX} {tg it : Expr} {Γ : Ga} {S : Sto} {Z : ZK} {rs : List Row} (c : XC F N sc k X W) {R : List D → (Sto → Prop) → Sto → Prop} {d : D} (hd : IsRows C S d rs) (hi : AX F.M X W it Γ S (fun d' S' => d' = d ∧ S' = S) Z)
    (h : ∀ al : Sto → Prop, al S → R (rs.map (rowD C)) al S) : AI F.M X W tg it Γ S R Z := by
  refine ai_of c (hi.mono fun d' S' ⟨e1, e2⟩ => ?_)
  subst e1 e2
  rcases hd with rfl | rfl | ⟨p, rfl, hp⟩
  · exact .inl ⟨_, .inl rfl, h _ trivial⟩
  · exact .inl ⟨_, .inr (.inr rfl), h _ trivial⟩
  · exact .inr (.inl ⟨p, _, rfl, hp, h _ hp⟩)
set_option hygiene false in
theorem ok_num (G : G1 F C CK CT CQ) {f : Addr} {fd : FuncData} (U : Fun F.M.K "number_of" "number_of" sNum f fd) : FnOk F.P F.w F.M.K F.mg F.base (L2.CX F.P F.w) 1 f fd ["rows"] (spOf F.M (aNum C CK)) := by
  refine fn_asS U scNum (fun ds S R Z ⟨d, rs, e, _⟩ => by rw [e]; rfl) (fun X W c hf hst ds S R Z ⟨d0, rs, e, hd, hR, hZ⟩ => ?_)
  subst e
  have g_range := G.nb "range" (by decide)
  have g_MOST_PLACES := G.mp
  -- last, found = (MOST_PLACES, 0)
  refine ab_cons (as_par c 1 2 (by decide) (by decide +kernel) (by decide +kernel) (by decide +kernel) (by decide +kernel) (by have hs := c.hs; generalize X.env = e at hs ⊢; cases e; cases hs; rfl) ?_)
  refine ax_gl c (by decide +kernel) g_MOST_PLACES ?_
  refine ax_int ?_
  -- for place, cluster in rows:
  refine ab_cons (as_for c ?_)
  refine ai_rows c hd (ax_var c 0 (by decide +kernel) rfl ⟨rfl, rfl⟩) (fun al hal => ?_)
  refine ⟨fun i Γ' S' => ∃ last found a b c' d, Γ' = [some d0, some (.int last), some (.int found), a, b, c', d] ∧ S' = S ∧ last ≤ 6 ∧ nOf 6 0 rs = nOf last found (rs.drop i), ⟨6, 0, none, none, none, none, rfl, rfl, by omega, rfl⟩, fun i d Γ' S' hdi hP => ?_, fun Γ' S' hP => ?_⟩
  · obtain ⟨last, found, a, b, c', dd, rfl, rfl, hl, hn⟩ := hP
    refine ⟨hal, ?_⟩
    obtain ⟨⟨p, k, m⟩, hr, rfl⟩ : ∃ r, rs[i]? = some r ∧ d = rowD C r := by
      rw [List.getElem?_map] at hdi
      obtain ⟨r, h1, h2⟩ := Option.map_eq_some_iff.mp hdi
      exact ⟨r, h1, h2.symm⟩
    have hdrop : rs.drop i = (p, k, m) :: rs.drop (i + 1) := by
      obtain ⟨hi, e⟩ := List.getElem?_eq_some_iff.mp hr
      rw [List.drop_eq_getElem_cons hi, e]
    rw [hdrop, nOf] at hn
    refine ag_tup c (ds := [.int p, clu C k m]) rfl rfl ?_
    refine ags_cons ?_
    refine ag_name c 3 (by decide +kernel) (.inl (hf _)) ?_
    refine ags_cons ?_
    refine ag_name c 4 (by decide +kernel) (.inl (hf _)) ?_
    refine ags_nil ?_
    show AB F.M X W _ [some d0, some (.int last), some (.int found), some (.int p), some (clu C k m), c', dd] S' _ _
    -- if not 0 <= place < last or (place == 0) == (cluster.kind == 'single'):
    refine ab_cons (as_if ?_)
    refine at_is (!decide ((0 ≤ p ∧ p < last) ∧ ¬(decide (p = 0) = decide (k = "single")))) ?_ ?_
    · refine at_aw (aw_or ?_)
      refine at_not ?_
      refine at_is (decide (0 ≤ p ∧ p < last)) ?_ ?_
      · refine at_chain ?_
        refine ax_int ?_
        refine ax_var c 3 (by decide +kernel) rfl ?_
        refine bd_le ?_
        refine ⟨_, rfl, iteB (fun h => ?_) (fun h => ?_)⟩
        · refine ax_var c 1 (by decide +kernel) rfl ?_
          refine bd_lt ?_
          have h := of_decide_eq_true h
          exact ⟨_, rfl, decide_eq_decide.mpr ⟨fun z => ⟨h, z⟩, fun z => z.2⟩, rfl⟩
        · have h := of_decide_eq_false h
          exact ⟨(decide_eq_false fun z => h z.1).symm, rfl⟩
      · by_cases h1 : 0 ≤ p ∧ p < last
        · refine iteN (by rw [decide_eq_true h1]; rfl) (aw_or1 ?_)
          refine at_cmp (by first | exact nomark _ | rfl) ?_
          refine ax_cmp (by first | exact nomark _ | rfl) ?_
          refine ax_var c 3 (by decide +kernel) rfl ?_
          refine ax_int ?_
          refine bd_eqi ?_
          refine ax_cmp (by first | exact nomark _ | rfl) ?_
          refine ax_fld c ?_ -- cluster.kind
          refine ax_var c 4 (by decide +kernel) rfl ?_
          refine ⟨C, _, _, .str k, rfl, G.cls, G.naK, rfl, ?_⟩
          refine ax_str ?_
          refine bd_eqs ?_
          refine bd_eqb ?_
          refine ⟨_, rfl, ?_, rfl⟩
          by_cases h2 : decide (p = 0) = decide (k = "single")
          · rw [decide_eq_true h2, decide_eq_false (fun z => z.2 h2)]; rfl
          · rw [decide_eq_false h2, decide_eq_true ⟨h1, h2⟩]; rfl
        · refine iteY (by rw [decide_eq_false h1]; rfl) ⟨?_, rfl⟩
          rw [decide_eq_false (fun z => h1 z.1)]; rfl
    refine iteB (fun h => ?_) (fun h => ?_)
    · -- raise KnotError('no number')
      refine ab_cons (as_raise c G.KnotError (by decide +kernel) ?_)
      rw [Bool.not_eq_true'] at h
      rw [if_neg (of_decide_eq_false h)] at hn
      exact SZ.of (hZ hn)
    rw [Bool.not_eq_false'] at h
    have h := of_decide_eq_true h
    rw [if_pos h] at hn
    obtain ⟨⟨p0, p1⟩, _⟩ := h
    obtain ⟨q, rfl⟩ := Int.eq_ofNat_of_zero_le p0
    refine ab_nil ?_
    -- unit = 1
    refine ab_cons (as_set c hf 5 (by decide +kernel) ?_)
    refine ax_int ?_
    -- for step in range(place):
    refine ab_cons (as_for c ?_)
    refine ai_range1 c (by decide +kernel) g_range ?_
    refine ax_var c 3 (by decide +kernel) rfl ?_
    refine ⟨_, rfl, by omega, by omega, ?_⟩
    refine ⟨fun j Γ' S2 => ∃ e, Γ' = [some d0, some (.int last), some (.int found), some (.int q), some (clu C k m), some (.int (10 ^ j)), e] ∧ S2 = S', ⟨dd, rfl, rfl⟩, fun j d Γ' S2 hdj hP => ?_, fun Γ' S2 hP => ?_⟩
    · obtain ⟨e, rfl, rfl⟩ := hP
      refine ⟨trivial, ?_⟩
      refine ag_name c 6 (by decide +kernel) (.inl (hf _)) ?_
      -- unit *= 10
      refine ab_one (as_aug c hf 5 (by decide +kernel) rfl ?_)
      refine ax_int ?_
      refine ip_mul (.inr ⟨by decide, by decide⟩) ?_
      refine ⟨some d, ?_, rfl⟩
      rw [Int.pow_succ]
      rfl
    · obtain ⟨e, rfl, rfl⟩ := hP
      refine ⟨trivial, ?_⟩
      have e1 : (intsUp 0 ((q : Nat) : Int).toNat).length = q := by simp [intsUp]
      rw [e1]
      have hq : q ≤ 5 := by omega
      have hb : -(2 ^ 64) < (10 : Int) ^ q ∧ (10 : Int) ^ q < 2 ^ 64 := by
        have h1 : (10 : Nat) ^ q ≤ 10 ^ 5 := Nat.pow_le_pow_right (by decide) hq
        have h2 : (10 : Int) ^ q = (((10 : Nat) ^ q : Nat) : Int) := by push_cast; rfl
        rw [h2]
        generalize (10 : Nat) ^ q = u at h1
        omega
      -- found += unit * cluster.many
      refine ab_cons (as_aug c hf 2 (by decide +kernel) rfl ?_)
      refine ax_bin ?_
      refine ax_var c 5 (by decide +kernel) rfl ?_
      refine ax_fld c ?_ -- cluster.many
      refine ax_var c 4 (by decide +kernel) rfl ?_
      refine ⟨C, _, _, .int m, rfl, G.cls, G.naM, rfl, ?_⟩
      refine bd_mul (.inl hb) ?_
      refine ip_add ?_
      -- last = place
      refine ab_one (as_set c hf 1 (by decide +kernel) ?_)
      refine ax_var c 3 (by decide +kernel) rfl ?_
      refine ⟨q, found + 10 ^ q * m, _, _, _, _, rfl, rfl, by omega, ?_⟩
      rw [hn]
      rfl
  · obtain ⟨last, found, a, b, c', dd, rfl, rfl, hl, hn⟩ := hP
    refine ⟨hal, ?_⟩
    rw [List.length_map, List.drop_length, nOf] at hn
    -- return found
    refine ab_one (as_ret ?_)
    refine ax_var c 2 (by decide +kernel) rfl ?_
    exact SR.of (hR _ hn)
end
end QD
set_option maxHeartbeats 4000000
namespace QD
open PySem PySem.Spec PyProof.Rows L2 GenW
set_option hygiene false
local macro_rules | `(tactic| walk_at "mulc") => `(tactic| first | exact .inl ⟨by decide, by decide⟩ | exact .inr ⟨by decide, by decide⟩ | exact .inl ⟨by omega, by omega⟩ | exact .inr ⟨by omega, by omega⟩)
local macro_rules | `(tactic| walk_at "ne") => `(tactic| first | assumption | (apply Ne.symm; assumption))
local macro_rules | `(tactic| walk_at "sto") => `(tactic| first | assumption | exact Sto.put_same | (refine (Sto.put_ne (by walk_at "ne")).trans ?_; walk_at "sto"))
local macro_rules | `(tactic| walk_at "vw") => `(tactic| first | rfl | assumption | exact view_lst (by walk_at "sto") | exact view_dct (by walk_at "sto") | exact view_dcu (by walk_at "sto") | exact view_ins (by walk_at "sto") | exact view_fdct (by walk_at "sto"))
local macro_rules | `(tactic| walk_at "ln") => `(tactic| first | decide | exact Nat.le_of_ble_eq_true rfl | (simp only [sizeLine_eq]; omega) | assumption)
local macro_rules | `(tactic| walk_at "bd") => `(tactic| first
  | refine bd_add ?_ | refine bd_sub ?_ | refine bd_mul (by walk_at "mulc") ?_ | refine bd_div ⟨by first | decide | omega, by first | decide | omega⟩ ?_ | refine bd_mod (by first | decide | omega) ?_
  | refine bd_pow ⟨by decide, by decide, by decide⟩ ?_ | refine bd_adds (by walk_at "ln") ?_
  | refine bd_eqi ?_ | refine bd_nei ?_ | refine bd_eqs ?_ | refine bd_nes ?_ | refine bd_eqb ?_ | refine bd_lt ?_ | refine bd_le ?_ | refine bd_gt ?_ | refine bd_ge ?_ | refine bd_isN ?_ | refine bd_notN ?_
  | refine bd_inC ?_ | refine bd_ninC ?_ | refine bd_inS ?_ | refine bd_ninS ?_
  | refine bd_eq rfl rfl rfl ?_ | refine bd_ne rfl rfl rfl ?_
  | refine bd_inK (hu_of c.room) (by walk_at "vw") ?_ | refine bd_ninK (hu_of c.room) (by walk_at "vw") ?_
  | refine bd_inQ c.hK rfl (by first | exact .inl (by walk_at "vw") | exact .inr (by walk_at "vw")) rfl ?_ | refine bd_ninQ c.hK rfl (by first | exact .inl (by walk_at "vw") | exact .inr (by walk_at "vw")) rfl ?_
  | refine bd_cat (by walk_at "vw") (by walk_at "vw") (by walk_at "ln") ?_)
local macro_rules | `(tactic| walk_at "id") => `(tactic| first
  | refine id_lst c.hK (by walk_at "vw") (by rfl) ?_ | refine id_tup c.hK (by walk_at "vw") (by rfl) ?_ | refine id_str (by walk_at "ln") (by rfl) ?_ | refine id_dct (hu_of c.room) (by walk_at "vw") (by rfl) ?_)
local macro_rules | `(tactic| walk_at "lg") => `(tactic| first | decide | (apply log_lt; omega) | assumption)
local macro_rules | `(tactic| walk_at "cd") => `(tactic| first
  | refine cd_lens (by walk_at "ln") ?_ | refine cd_len c.hK (.inl (by walk_at "vw")) ?_ | refine cd_len c.hK (.inr (by walk_at "vw")) ?_ | refine cd_int ?_ | refine cd_intb ?_ | refine cd_str (by walk_at "lg") ?_
  | refine cd_abs ?_ | refine cd_tupleF c.hK (by walk_at "vw") ?_)
local macro_rules | `(tactic| walk_at "fld") => `(tactic| refine ⟨_, _, _, _, by walk_at "vw", G.cls, by first | exact G.naK | exact G.naM, rfl, ?_⟩)
open TL
/-! ### the plain law: dicts of rows, parts, reading back -/
section
variable {C : Addr}
/-- a part -/
def pt (p d : Nat) : Str := if d = 0 then "." else cText (kd p d) (d : Int)
def ptN : List Nat → List Str
  | [] => []
  | d :: ds => pt ds.length d :: ptN ds
def lawText (n : Nat) : Str := if n = 0 then "-" else Txt.join " " (ptN (dgs n))
theorem ptN_len : ∀ ds : List Nat, (ptN ds).length = ds.length
  | [] => rfl
  | d :: ds => by rw [ptN, List.length_cons, List.length_cons, ptN_len ds]
theorem ptN_get : ∀ (ds : List Nat) (j : Nat), (ptN ds)[j]? = (ds[j]?).map (pt (ds.length - 1 - j))
  | [], j => by simp [ptN]
  | d :: ds, 0 => by simp [ptN]
  | d :: ds, j + 1 => by
    rw [ptN, List.getElem?_cons_succ, List.getElem?_cons_succ, ptN_get ds j, List.length_cons]
    congr 2
    omega
/-- the dict of rows -/
def kvs (C : Addr) (rs : List Row) : List (Key × D) := rs.map fun r => (.inl r.1, clu C r.2.1 r.2.2)
theorem kvs_rowD (rs : List Row) : rs.map (rowD C) = (kvs C rs).map prD := by
  rw [kvs, List.map_map]; rfl
theorem mrgP_app {κ : Type} [DecidableEq κ] : ∀ (m acc : List (κ × D)), ((acc ++ m).map (·.1)).Nodup → mrgP acc m = acc ++ m
  | [], acc, _ => by simp [mrgP]
  | (k, d) :: m, acc, h => by
    have e : putP acc k d = acc ++ [(k, d)] := by
      unfold putP
      rw [if_neg]
      intro hx
      obtain ⟨q, hq, e⟩ := List.any_eq_true.mp hx
      have e := of_decide_eq_true e
      rw [List.map_append, List.nodup_append] at h
      exact h.2.2 q.1 (List.mem_map_of_mem hq) k (by simp) e
    show mrgP (putP acc k d) m = _
    rw [e, mrgP_app m (acc ++ [(k, d)]) (by rw [List.append_assoc]; exact h), List.append_assoc]
    rfl
theorem cfN_lt (L : Nat) : ∀ (ds : List Nat) (i : Nat), L = i + ds.length → ∀ r ∈ cfN L i ds, 0 ≤ r.1 ∧ r.1 < (ds.length : Int)
  | [], i, _, r, h => by simp [cfN] at h
  | d :: ds, i, hL, r, h => by
    rw [List.length_cons] at hL ⊢
    rw [cfN, List.mem_append] at h
    rcases h with h | h
    · unfold cfA at h
      by_cases h0 : d = 0
      · rw [if_pos h0] at h; cases h
      · rw [if_neg h0, List.mem_singleton] at h
        subst h
        constructor
        · show (0 : Int) ≤ ((L - 1 - i : Nat) : Int); omega
        · show ((L - 1 - i : Nat) : Int) < _; omega
    · have := cfN_lt L ds (i + 1) (by omega) r h
      omega
theorem cfN_nodup (L : Nat) : ∀ (ds : List Nat) (i : Nat), L = i + ds.length → ((cfN L i ds).map (·.1)).Nodup
  | [], i, _ => by simp [cfN]
  | d :: ds, i, hL => by
    rw [List.length_cons] at hL
    have ih := cfN_nodup L ds (i + 1) (by omega)
    have hlt := cfN_lt L ds (i + 1) (by omega)
    rw [cfN, List.map_append, List.nodup_append]
    refine ⟨?_, ih, fun a ha b hb => ?_⟩
    · unfold cfA; split <;> simp
    · unfold cfA at ha
      by_cases h0 : d = 0
      · rw [if_pos h0] at ha; cases ha
      · rw [if_neg h0] at ha
        simp at ha
        obtain ⟨r, hr, rfl⟩ := List.mem_map.mp hb
        have := hlt r hr
        omega
theorem kvs_mrg (n : Nat) : mrgP [] (kvs C (rows n)) = kvs C (rows n) := by
  refine (mrgP_app _ [] ?_).trans (List.nil_append _)
  rw [List.nil_append, kvs, List.map_map]
  have h := cfN_nodup (dgs n).length (dgs n) 0 (by omega)
  have e : (rows n).map ((·.1) ∘ fun r => ((.inl r.1 : Key), clu C r.2.1 r.2.2)) = ((rows n).map (·.1)).map (Sum.inl : Int → Key) := by rw [List.map_map]; rfl
  rw [e]
  exact List.Pairwise.map (Sum.inl : Int → Key) (fun a b (hab : a ≠ b) he => hab (Sum.inl.inj he)) h
theorem getK_cfN (L : Nat) : ∀ (ds : List Nat) (i q : Nat), L = i + ds.length → q < ds.length →
    getK ((kvs C (cfN L i ds)).map (·.1)) ((kvs C (cfN L i ds)).map (·.2)) (.inl (q : Int)) = (ds[ds.length - 1 - q]?).bind fun d => if d = 0 then none else some (clu C (kd q d) (d : Int))
  | [], i, q, _, h => by cases h
  | d :: ds, i, q, hL, h => by
    rw [List.length_cons] at hL h ⊢
    have ep : L - 1 - i = ds.length := by omega
    by_cases hq : q = ds.length
    · subst hq
      have hnone : getK ((kvs C (cfN L (i + 1) ds)).map (·.1)) ((kvs C (cfN L (i + 1) ds)).map (·.2)) (.inl ((ds.length : Nat) : Int)) = none := by
        have hlt := cfN_lt L ds (i + 1) (by omega)
        have key : ∀ rs : List Row, (∀ r ∈ rs, r.1 ≠ (ds.length : Int)) → getK ((kvs C rs).map (·.1)) ((kvs C rs).map (·.2)) (.inl ((ds.length : Nat) : Int)) = none := by
          intro rs
          induction rs with
          | nil => intro _; rfl
          | cons r rs ih =>
            intro hr
            show (if (Sum.inl r.1 : Key) = .inl ((ds.length : Nat) : Int) then _ else getK ((kvs C rs).map (·.1)) ((kvs C rs).map (·.2)) _) = none
            rw [if_neg (fun e => hr r (List.mem_cons_self ..) (Sum.inl.inj e)), ih fun x hx => hr x (List.mem_cons_of_mem _ hx)]
        exact key _ fun r hr e => by have := hlt r hr; omega
      rw [cfN, ep, show ds.length + 1 - 1 - ds.length = 0 by omega]
      unfold cfA
      by_cases h0 : d = 0
      · rw [if_pos h0, List.nil_append, hnone]
        simp [h0]
      · rw [if_neg h0]
        show (if (Sum.inl ((ds.length : Nat) : Int) : Key) = .inl ((ds.length : Nat) : Int) then _ else _) = _
        rw [if_pos rfl]
        simp [h0]
    · have ih := getK_cfN L ds (i + 1) q (by omega) (by omega)
      rw [cfN, ep, show ds.length + 1 - 1 - q = (ds.length - 1 - q) + 1 by omega, List.getElem?_cons_succ, ← ih]
      unfold cfA
      by_cases h0 : d = 0
      · rw [if_pos h0, List.nil_append]
      · rw [if_neg h0]
        show (if (Sum.inl ((ds.length : Nat) : Int) : Key) = .inl ((q : Nat) : Int) then _ else getK ((kvs C (cfN L (i + 1) ds)).map (·.1)) ((kvs C (cfN L (i + 1) ds)).map (·.2)) _) = _
        rw [if_neg (fun e => hq (by have := Sum.inl.inj e; omega))]
/-! reading -/
theorem cof_pt {p d : Nat} (h0 : d ≠ 0) (h : d < 10) : cof (pt p d) = some (kd p d, (d : Int)) := by
  have hs : ∀ d : Fin 10, d.val ≠ 0 → cof ("s" ++ sg ((d.val : Nat) : Int)) = some (("single" : Str), ((d.val : Nat) : Int)) := by decide +kernel
  have hl : ∀ d : Fin 10, d.val ≠ 0 → d.val ≠ 1 → cof ("l" ++ sg ((d.val : Nat) : Int)) = some (("long" : Str), ((d.val : Nat) : Int)) := by decide +kernel
  unfold pt
  rw [if_neg h0]
  by_cases hp : 0 < p
  · have e : kd p d = "single" := kd_single.mpr hp
    rw [e, cText, if_neg (by decide), if_pos rfl]
    exact hs ⟨d, h⟩ h0
  · by_cases h1 : d = 1
    · have e : kd p d = "eight" := by unfold kd; rw [if_neg hp, if_pos h1]
      rw [e, cText, if_pos rfl, h1]
      decide +kernel
    · have e : kd p d = "long" := by unfold kd; rw [if_neg hp, if_neg h1]
      rw [e, cText, if_neg (by decide), if_neg (by decide)]
      exact hl ⟨d, h⟩ h0 h1
theorem cof_dot : cof "." = none := by decide +kernel
theorem pt_dot {p d : Nat} (h0 : d ≠ 0) (h : d < 10) : pt p d ≠ "." := fun e => by
  have := cof_pt (p := p) h0 h
  rw [e, cof_dot] at this
  cases this
theorem cof_inv {t k : Str} {m : Int} (h : cof t = some (k, m)) : t = cText k m ∧ okC k m = true := by
  have hs : ∀ b : Fin 58, 49 ≤ b.val → (⟨⟨[115, b.val]⟩⟩ : Str) = "s" ++ sg ((b.val : Int) - 48) := by decide +kernel
  have hl : ∀ b : Fin 58, 49 ≤ b.val → (⟨⟨[108, b.val]⟩⟩ : Str) = "l" ++ sg ((b.val : Int) - 48) := by decide +kernel
  obtain ⟨⟨l⟩⟩ := t
  match l, h with
  | [], h => cases h
  | [a], h =>
    simp only [cof, cofL] at h
    by_cases ha : a = 101
    · rw [if_pos ha] at h
      cases h
      subst ha
      exact ⟨by decide +kernel, by decide +kernel⟩
    · rw [if_neg ha] at h; cases h
  | [a, b], h =>
    simp only [cof, cofL] at h
    by_cases hx : (a = 115 ∨ a = 108) ∧ (49 ≤ b ∧ b ≤ 57) ∧ ¬(a = 108 ∧ b = 49)
    · rw [if_pos hx] at h
      obtain ⟨ha, hb, hn⟩ := hx
      rcases ha with rfl | rfl
      · rw [if_pos rfl] at h
        cases h
        refine ⟨?_, okC_digs (by omega) (by omega)⟩
        rw [cText, if_neg (by decide), if_pos rfl]
        exact hs ⟨b, by omega⟩ hb.1
      · rw [if_neg (by decide)] at h
        cases h
        refine ⟨?_, okC_digl (by omega) (by omega)⟩
        rw [cText, if_neg (by decide), if_neg (by decide)]
        exact hl ⟨b, by omega⟩ hb.1
    · rw [if_neg hx] at h; cases h
  | a :: b :: c :: l, h => cases h
def rowsOf (L : Nat) : Nat → List Str → Option (List Row)
  | _, [] => some []
  | i, p :: ps => if p = "." then rowsOf L (i + 1) ps else (cof p).bind fun km => (rowsOf L (i + 1) ps).map ((((L - 1 - i : Nat) : Int), km.1, km.2) :: ·)
def badR (r : Row) : Bool := decide (decide (r.1 = 0) = decide (r.2.1 = "single"))
def rdP (parts : List Str) : Option Int := if 6 < parts.length then none else if parts[0]? = some ("." : Str) then none else (rowsOf parts.length 0 parts).bind fun rs => if rs.any badR = true then none else nOf 6 0 rs
/-- the number that a text of knots tells -/
def rdk (t : Str) : Option Int := if t = "-" then some 0 else rdP (Txt.split t " ")
theorem rowsOf_ptN (L : Nat) : ∀ (ds : List Nat) (i : Nat), L = i + ds.length → (∀ d ∈ ds, d < 10) → rowsOf L i (ptN ds) = some (cfN L i ds)
  | [], i, _, _ => rfl
  | d :: ds, i, hL, hd => by
    rw [List.length_cons] at hL
    have ih := rowsOf_ptN L ds (i + 1) (by omega) fun x hx => hd x (List.mem_cons_of_mem _ hx)
    have ep : L - 1 - i = ds.length := by omega
    have h9 := hd d (List.mem_cons_self ..)
    rw [ptN, rowsOf, cfN, ih, ep]
    by_cases h0 : d = 0
    · rw [h0]; rfl
    · rw [if_neg (pt_dot h0 h9), cof_pt h0 h9, cfA, if_neg h0]
      rfl
theorem cfN_good (L : Nat) : ∀ (ds : List Nat) (i : Nat), L = i + ds.length → (cfN L i ds).any badR = false
  | [], i, _ => rfl
  | d :: ds, i, hL => by
    rw [List.length_cons] at hL
    have ih := cfN_good L ds (i + 1) (by omega)
    rw [cfN, List.any_append, ih, Bool.or_false]
    unfold cfA
    by_cases h0 : d = 0
    · rw [if_pos h0]; rfl
    · rw [if_neg h0]
      simp only [List.any_cons, List.any_nil, Bool.or_false]
      unfold badR
      generalize L - 1 - i = p
      by_cases hp : 0 < p
      · exact decide_eq_false (by
          show ¬(decide ((p : Int) = 0) = decide (kd p d = "single"))
          rw [decide_eq_false (by omega), decide_eq_true (kd_single.mpr hp)]; decide)
      · exact decide_eq_false (by
          show ¬(decide ((p : Int) = 0) = decide (kd p d = "single"))
          rw [decide_eq_true (by omega), decide_eq_false (fun e => hp (kd_single.mp e))]; decide)
theorem rdP_law {n : Nat} (h0 : 0 < n) (h : n < 10 ^ 6) : rdP (ptN (dgs n)) = some (n : Int) := by
  have h6 : (dgs n).length ≤ 6 := (dgs_len (by decide)).mpr h
  obtain ⟨d, r, e, hd⟩ := dgs_head h0
  have hlt : ∀ x ∈ dgs n, x < 10 := fun x hx => dgs_lt hx
  unfold rdP
  rw [ptN_len, if_neg (by omega), if_neg, rowsOf_ptN _ _ _ (by omega) hlt]
  · show (if (cfN (dgs n).length 0 (dgs n)).any badR = true then none else nOf 6 0 (rows n)) = _
    rw [cfN_good _ _ _ (by omega), if_neg (by decide), nOf_rows h]
  · rw [ptN_get, e]
    intro he
    have he : pt r.length d = "." := by simpa using he
    exact pt_dot (by omega) (hlt d (by rw [e]; simp)) he
/-- what stands in the rows, and what they were read from -/
theorem rowsOf_back (L : Nat) : ∀ (ps : List Str) (i : Nat) (rs : List Row), L = i + ps.length → rowsOf L i ps = some rs → rs.any badR = false → ∃ ds : List Nat, ds.length = ps.length ∧ (∀ d ∈ ds, d < 10) ∧ ps = ptN ds ∧ rs = cfN L i ds
  | [], i, rs, _, h, _ => by
    cases h
    exact ⟨[], rfl, by simp, rfl, rfl⟩
  | p :: ps, i, rs, hL, h, hb => by
    rw [List.length_cons] at hL
    have ep : L - 1 - i = ps.length := by omega
    rw [rowsOf] at h
    by_cases hp : p = "."
    · rw [if_pos hp] at h
      obtain ⟨ds, e1, e2, e3, e4⟩ := rowsOf_back L ps (i + 1) rs (by omega) h hb
      refine ⟨0 :: ds, by simp [e1], ?_, ?_, ?_⟩
      · intro d hd
        rcases List.mem_cons.mp hd with rfl | hd
        · decide
        · exact e2 d hd
      · rw [ptN, ← e3, hp]; rfl
      · rw [cfN, cfA, if_pos rfl, List.nil_append, e4]
    · rw [if_neg hp] at h
      obtain ⟨⟨k, m⟩, hc, h⟩ := Option.bind_eq_some_iff.mp h
      obtain ⟨rs2, h2, rfl⟩ := Option.map_eq_some_iff.mp h
      rw [List.any_cons, Bool.or_eq_false_iff] at hb
      obtain ⟨ds, e1, e2, e3, e4⟩ := rowsOf_back L ps (i + 1) rs2 (by omega) h2 hb.2
      obtain ⟨et, eo⟩ := cof_inv hc
      have hm : ∃ d : Nat, m = d ∧ d ≠ 0 ∧ d < 10 ∧ k = kd ps.length d := by
        have hb1 := of_decide_eq_false hb.1
        rw [ep] at hb1
        have hk : ¬(decide (((ps.length : Nat) : Int) = 0) = decide (k = "single")) := hb1
        rcases okC_cases eo with ⟨a, b1, b2⟩ | ⟨a, b1, b2⟩ | ⟨a, b⟩
        · refine ⟨m.toNat, by omega, by omega, by omega, ?_⟩
          have : 0 < ps.length := by
            rcases Nat.eq_zero_or_pos ps.length with z | z
            · rw [z, a] at hk; exact absurd (by decide) hk
            · exact z
          rw [a, kd_single.mpr this]
        · refine ⟨m.toNat, by omega, by omega, by omega, ?_⟩
          have : ¬ 0 < ps.length := fun z => by
            rw [decide_eq_false (by omega), a] at hk
            exact hk (by decide)
          unfold kd
          rw [if_neg this, if_neg (by omega), a]
        · refine ⟨1, b, by decide, by decide, ?_⟩
          have : ¬ 0 < ps.length := fun z => by
            rw [decide_eq_false (by omega), a] at hk
            exact hk (by decide)
          unfold kd
          rw [if_neg this, if_pos rfl, a]
      obtain ⟨d, rfl, d0, d9, ek⟩ := hm
      refine ⟨d :: ds, by simp [e1], ?_, ?_, ?_⟩
      · intro x hx
        rcases List.mem_cons.mp hx with rfl | hx
        · exact d9
        · exact e2 x hx
      · rw [ptN, ← e3, e1, pt, if_neg d0, ← ek, et]
      · rw [cfN, cfA, if_neg d0, ep, ← ek, e4]; rfl
theorem rdP_back {ps : List Str} {v : Int} (hne : ps ≠ []) (h : rdP ps = some v) : ∃ n : Nat, v = n ∧ 0 < n ∧ ps = ptN (dgs n) := by
  unfold rdP at h
  by_cases h6 : 6 < ps.length
  · rw [if_pos h6] at h; cases h
  rw [if_neg h6] at h
  by_cases hd : ps[0]? = some ("." : Str)
  · rw [if_pos hd] at h; cases h
  rw [if_neg hd] at h
  obtain ⟨rs, hr, h⟩ := Option.bind_eq_some_iff.mp h
  by_cases hb : rs.any badR = true
  · rw [if_pos hb] at h; cases h
  rw [if_neg hb] at h
  obtain ⟨ds, e1, e2, e3, e4⟩ := rowsOf_back ps.length ps 0 rs (by omega) hr (by simpa using hb)
  rw [e4, nOf_cfN _ _ _ _ _ (by omega) (by omega)] at h
  cases h
  match ds, e1, e2, e3, hd with
  | [], e1, _, e3, _ => exact absurd e3 hne
  | d :: ds, e1, e2, e3, hd =>
    have d0 : 0 < d := by
      rcases Nat.eq_zero_or_pos d with z | z
      · exact absurd (by rw [e3, z]; rfl) hd
      · exact z
    have e := dgs_dval e2 d0
    refine ⟨dval (d :: ds), by simp, ?_, by rw [e]; exact e3⟩
    have h1 : 0 < 10 ^ ds.length := Nat.pow_pos (by decide)
    have h2 : 1 * 10 ^ ds.length ≤ d * 10 ^ ds.length := Nat.mul_le_mul_right _ d0
    rw [dval_cons]
    omega
end
end QD
set_option maxHeartbeats 4000000
namespace QD
open PySem PySem.Spec PyProof.Rows L2 GenW
set_option hygiene false
local macro_rules | `(tactic| walk_at "mulc") => `(tactic| first | exact .inl ⟨by decide, by decide⟩ | exact .inr ⟨by decide, by decide⟩ | exact .inl ⟨by omega, by omega⟩ | exact .inr ⟨by omega, by omega⟩)
local macro_rules | `(tactic| walk_at "ne") => `(tactic| first | assumption | (apply Ne.symm; assumption))
local macro_rules | `(tactic| walk_at "sto") => `(tactic| first | assumption | exact Sto.put_same | (refine (Sto.put_ne (by walk_at "ne")).trans ?_; walk_at "sto"))
local macro_rules | `(tactic| walk_at "vw") => `(tactic| first | rfl | assumption | exact view_lst (by walk_at "sto") | exact view_dct (by walk_at "sto") | exact view_dcu (by walk_at "sto") | exact view_ins (by walk_at "sto") | exact view_fdct (by walk_at "sto"))
local macro_rules | `(tactic| walk_at "ln") => `(tactic| first | decide | exact Nat.le_of_ble_eq_true rfl | (simp only [sizeLine_eq]; omega) | assumption)
local macro_rules | `(tactic| walk_at "bd") => `(tactic| first
  | refine bd_add ?_ | refine bd_sub ?_ | refine bd_mul (by walk_at "mulc") ?_ | refine bd_div ⟨by first | decide | omega, by first | decide | omega⟩ ?_ | refine bd_mod (by first | decide | omega) ?_
  | refine bd_pow ⟨by decide, by decide, by decide⟩ ?_ | refine bd_adds (by walk_at "ln") ?_
  | refine bd_eqi ?_ | refine bd_nei ?_ | refine bd_eqs ?_ | refine bd_nes ?_ | refine bd_eqb ?_ | refine bd_lt ?_ | refine bd_le ?_ | refine bd_gt ?_ | refine bd_ge ?_ | refine bd_isN ?_ | refine bd_notN ?_
  | refine bd_inC ?_ | refine bd_ninC ?_ | refine bd_inS ?_ | refine bd_ninS ?_
  | refine bd_eq rfl rfl rfl ?_ | refine bd_ne rfl rfl rfl ?_
  | refine bd_inK (hu_of c.room) (by walk_at "vw") ?_ | refine bd_ninK (hu_of c.room) (by walk_at "vw") ?_
  | refine bd_inQ c.hK rfl (by first | exact .inl (by walk_at "vw") | exact .inr (by walk_at "vw")) rfl ?_ | refine bd_ninQ c.hK rfl (by first | exact .inl (by walk_at "vw") | exact .inr (by walk_at "vw")) rfl ?_
  | refine bd_cat (by walk_at "vw") (by walk_at "vw") (by walk_at "ln") ?_)
local macro_rules | `(tactic| walk_at "id") => `(tactic| first
  | refine id_lst c.hK (by walk_at "vw") (by rfl) ?_ | refine id_tup c.hK (by walk_at "vw") (by rfl) ?_ | refine id_str (by walk_at "ln") (by rfl) ?_ | refine id_dct (hu_of c.room) (by walk_at "vw") (by rfl) ?_)
local macro_rules | `(tactic| walk_at "lg") => `(tactic| first | decide | (apply log_lt; omega) | assumption)
local macro_rules | `(tactic| walk_at "cd") => `(tactic| first
  | refine cd_lens (by walk_at "ln") ?_ | refine cd_len c.hK (.inl (by walk_at "vw")) ?_ | refine cd_len c.hK (.inr (by walk_at "vw")) ?_ | refine cd_int ?_ | refine cd_intb ?_ | refine cd_str (by walk_at "lg") ?_
  | refine cd_abs ?_ | refine cd_tupleF c.hK (by walk_at "vw") ?_)
local macro_rules | `(tactic| walk_at "fld") => `(tactic| refine ⟨_, _, _, _, by walk_at "vw", G.cls, by first | exact G.naK | exact G.naM, rfl, ?_⟩)
open TL
section
variable {F : Fix} {C CK CT CQ : Addr}
theorem pt_len {p d : Nat} (h : d < 10) : (pt p d).length ≤ 2 := by
  have hs : ∀ d : Fin 10, ("s" ++ sg ((d.val : Nat) : Int)).length ≤ 2 := by decide +kernel
  have hl : ∀ d : Fin 10, ("l" ++ sg ((d.val : Nat) : Int)).length ≤ 2 := by decide +kernel
  unfold pt cText
  split
  · decide +kernel
  · split
    · decide +kernel
    · split
      · exact hs ⟨d, h⟩
      · exact hl ⟨d, h⟩
theorem ptN_sum : ∀ (ds : List Nat), (∀ d ∈ ds, d < 10) → ((ptN ds).map (·.length)).sum ≤ 2 * ds.length
  | [], _ => by simp [ptN]
  | d :: ds, h => by
    have ih := ptN_sum ds fun x hx => h x (List.mem_cons_of_mem _ hx)
    have h1 := pt_len (p := ds.length) (h d (List.mem_cons_self ..))
    rw [ptN, List.map_cons, List.sum_cons, List.length_cons]
    omega
theorem rows_zero : rows 0 = [] := by rw [rows, dgs_zero]; rfl
theorem rows_cons {n : Nat} (h : 0 < n) : ∃ k m r, rows n = ((((dgs n).length - 1 : Nat) : Int), k, m) :: r := by
  obtain ⟨d, r, e, hd⟩ := dgs_head h
  rw [rows, e, cfN, cfA, if_neg (by omega)]
  exact ⟨_, _, _, rfl⟩
theorem rows_max {n : Nat} (h : 0 < n) {mx : Int} (h1 : mx ∈ (rows n).map (·.1)) (h2 : ∀ y ∈ (rows n).map (·.1), y ≤ mx) : mx = (((dgs n).length - 1 : Nat) : Int) := by
  obtain ⟨k, m, r, e⟩ := rows_cons h
  have h3 := h2 _ (by rw [e]; exact List.mem_cons_self ..)
  obtain ⟨q, hq, rfl⟩ := List.mem_map.mp h1
  have h4 := cfN_lt _ _ 0 (by omega) q hq
  have h3 : (((dgs n).length - 1 : Nat) : Int) ≤ q.1 := h3
  omega
def aKT (CK : Addr) : ASp := fun ds S R Z => ∃ n : Int, ds = [.int n] ∧ n < 2 ^ 64 ∧ -(2 ^ 64) < n ∧ (∀ m : Nat, n = m → m < 10 ^ 6 → R (.str (lawText m)) S) ∧ (¬(0 ≤ n ∧ n < 10 ^ 6) → Z CK S)
abbrev sKT : Stmt := topS 12
abbrev nKT : List Str := ["number", "rows", "place"]
theorem scKT : FnScope nKT ["number"] (defScope sKT) := ⟨rfl, rfl, rfl, by decide +kernel, rfl, by decide +kernel, by decide +kernel⟩
set_option hygiene false in
theorem ok_kt (G : G1 F C CK CT CQ) (GF : FOk F 3 "clusters_for" (aCfs C CK)) (GM : MOk F 1 C "text" (aCl (fun k m => .str (cText k m)) C)) {f : Addr} {fd : FuncData} (U : Fun F.M.K "knots_text" "knots_text" sKT f fd) : FnOk F.P F.w F.M.K F.mg F.base (L2.CX F.P F.w) 4 f fd ["number"] (spOf F.M (aKT CK)) := by
  refine fn_asS U scKT (fun ds S R Z ⟨t, e, _⟩ => by rw [e]; rfl) (fun X W c hf hst ds S R Z ⟨n, e, hn1, hn2, hR, hZ⟩ => ?_)
  subst e
  have g_dict := G.nb "dict" (by decide)
  have g_max := G.nb "max" (by decide)
  have g_range := G.nb "range" (by decide)
  -- rows = dict(clusters_for(number))
  refine ab_cons (as_set c hf 1 (by decide +kernel) ?_)
  refine ax_ty c (by decide +kernel) g_dict rfl ?_
  refine aa_cons ?_
  refine ax_call c GF (by omega) (by decide +kernel) ?_
  refine aa_cons ?_
  refine ax_var c 0 (by decide +kernel) rfl ?_
  refine aa_nil ?_
  refine ⟨n, rfl, hn1, hn2, fun m em hm => ?_, fun h => SZ.of (hZ h)⟩
  subst em
  have hR := hR m rfl hm
  refine aa_nil ?_
  rw [kvs_rowD]
  refine cd_dictT c.hK c.calm ?_
  rw [kvs_mrg]
  -- if rows == {}:
  refine ab_cons (as_if ?_)
  refine at_cmp (by first | exact nomark _ | rfl) ?_
  refine ax_var c 1 (by decide +kernel) rfl ?_
  refine ax_dnew ?_
  refine bd_eqD0 (Nat.lt_of_succ_lt (hu_of c.room)) rfl rfl ?_
  refine ⟨_, rfl, ?_⟩
  rcases Nat.eq_zero_or_pos m with rfl | h0
  · refine iteY (by rw [rows_zero]; rfl) ?_
    -- return '-'
    refine ab_cons (as_ret ?_)
    refine ax_str ?_
    exact SR.of hR
  obtain ⟨k0, m0, r0, er⟩ := rows_cons h0
  refine iteN (by rw [er]; rfl) ?_
  refine ab_nil ?_
  have h6 : (dgs m).length ≤ 6 := (dgs_len (by decide)).mpr hm
  have h1 : 0 < (dgs m).length := List.length_pos_iff.mpr (dgs_ne m)
  have hd9 : ∀ x ∈ dgs m, x < 10 := fun x hx => dgs_lt hx
  have hT : lawText m = Txt.join " " (ptN (dgs m)) := by rw [lawText, if_neg (by omega)]
  rw [hT] at hR
  -- return ' '.join([rows[place].text() if place in rows else '.' for place in range(max(rows), 0 - 1, 0 - 1)])
  refine ab_one (as_ret ?_)
  refine ax_join ?_
  refine ax_str ?_
  refine ⟨_, rfl, ?_⟩
  refine ax_lc c [("place", 2)] (by decide +kernel) ?_ -- [rows[place].text() if place in rows else '.' for place in range(max(rows), 0 - 1, 0 - 1)]
  refine ai_range3 c (by decide +kernel) g_range ?_ (fun ta ha => pi_range3 (c.gl (glB_gl (by decide +kernel)).1) (by rw [c.hm]; exact g_range) ha)
  refine aa_cons ?_
  refine ax_bi c (by decide +kernel) g_max rfl ?_
  refine aa_cons ?_
  refine ax_var c 1 (by decide +kernel) rfl ?_
  refine aa_nil ?_
  refine cd_maxK (ns := (rows m).map (·.1)) c.calm (by show D.dct ((kvs C (rows m)).map (·.1)) ((kvs C (rows m)).map (·.2)) = _; rw [show (kvs C (rows m)).map (·.1) = ((rows m).map (·.1)).map (Sum.inl : Int → Key) by rw [kvs, List.map_map, List.map_map]; rfl]) (by rw [er]; simp) (fun mx hm1 hm2 => ?_)
  obtain rfl := rows_max h0 hm1 hm2
  refine aa_cons ?_
  refine ax_bin ?_
  refine ax_int ?_
  refine ax_int ?_
  refine bd_sub ?_
  refine aa_cons ?_
  refine ax_bin ?_
  refine ax_int ?_
  refine ax_int ?_
  refine bd_sub ?_
  refine aa_nil ?_
  have hrg : RgC ((((dgs m).length - 1 : Nat) : Int)) (0 - 1) (0 - 1) (dgs m).length := by
    have := RgC.neg (i := (((dgs m).length - 1 : Nat) : Int)) (j := -1) (by omega) (by omega) (by decide) (by decide)
    rwa [show ((((dgs m).length - 1 : Nat) : Int) - (-1)).toNat = (dgs m).length by omega] at this
  refine ⟨_, _, _, _, rfl, hrg, ?_⟩
  refine lcq_pure (fs := (ptN (dgs m)).map fun x => some (D.str x)) (by simp [ptN_len]) (by simp [sizeLine_eq]; omega) (fun _ _ => trivial) (fun i d o hd ho S' hS Y hY => ?_) ?_
  · have c0 := c
    have c := c0.isblk hY
    obtain ⟨x, hx, rfl, rfl⟩ : ∃ x, (dgs m)[i]? = some x ∧ d = .int (((dgs m).length - 1 - i : Nat) : Int) ∧ o = some (.str (pt ((dgs m).length - 1 - i) x)) := by
      rw [List.getElem?_map, ptN_get] at ho
      have hi : i < (dgs m).length := by simpa using (List.getElem?_eq_some_iff.mp hd).1
      rw [List.getElem?_eq_getElem hi] at ho ⊢
      refine ⟨_, rfl, ?_, by simpa using ho.symm⟩
      simp [hi] at hd
      rw [← hd]
      congr 1
      omega
    have hi : i < (dgs m).length := (List.getElem?_eq_some_iff.mp hx).1
    have hg := getK_cfN (C := C) (dgs m).length (dgs m) 0 ((dgs m).length - 1 - i) (by omega) (by omega)
    rw [show (dgs m).length - 1 - ((dgs m).length - 1 - i) = i by omega, hx] at hg
    have hx9 : x < 10 := hd9 x (List.mem_of_getElem? hx)
    generalize (dgs m).length - 1 - i = q at hg
    refine ao_name c 2 (by decide +kernel) (by decide) ?_
    refine ⟨rfl, fun Y hY => ?_⟩
    refine ats_nil ⟨rfl, ?_⟩
    refine iteY rfl (fun Y hY => ?_)
    have c := c0.isblk hY
    refine ax_is (.str (pt q x)) ?_ ⟨rfl, rfl⟩
    refine ax_if ?_
    refine at_cmp (by first | exact nomark _ | rfl) ?_
    refine ax_var c 2 (by decide +kernel) rfl ?_
    refine ax_var c 1 (by decide +kernel) rfl ?_
    refine bd_inK (k := .inl (q : Int)) (hu_of c.room) (ks := (kvs C (rows m)).map (·.1)) (ds := (kvs C (rows m)).map (·.2)) rfl ?_
    refine ⟨_, rfl, ?_⟩
    have hg : getK ((kvs C (rows m)).map (·.1)) ((kvs C (rows m)).map (·.2)) (.inl (q : Int)) = if x = 0 then none else some (clu C (kd q x) (x : Int)) := hg
    by_cases hx0 : x = 0
    · rw [if_pos hx0] at hg
      refine iteN (by rw [hg]; rfl) ?_
      refine ax_str ⟨?_, rfl⟩
      rw [pt, if_pos hx0]
    · rw [if_neg hx0] at hg
      refine iteY (by rw [hg]; rfl) ?_
      refine ax_meth0 c GM (by omega) ?_
      refine ax_ix (fun _ _ => rfl) ?_
      refine ax_var c 1 (by decide +kernel) rfl ?_
      refine ax_var c 2 (by decide +kernel) rfl ?_
      refine id_dct (k := .inl (q : Int)) (hu_of c.room) rfl hg ?_
      refine ⟨_, _, rfl, rfl, ?_⟩
      exact ⟨_, kd q x, x, rfl, rfl, kd_ok hx0 hx9, by rw [pt, if_neg hx0], rfl⟩
  · refine ⟨ptN (dgs m), ?_, ?_, SR.of hR⟩
    · rw [filterMap_some]; rfl
    · have h1 := ptN_sum (dgs m) hd9
      have h2 := ptN_len (dgs m)
      have h3 : (Str.ofString " ").length = 1 := by decide +kernel
      rw [h3, h2]
      omega
end
end QD
set_option maxHeartbeats 4000000
namespace QD
open PySem PySem.Spec PyProof.Rows L2 GenW
set_option hygiene false
local macro_rules | `(tactic| walk_at "mulc") => `(tactic| first | exact .inl ⟨by decide, by decide⟩ | exact .inr ⟨by decide, by decide⟩ | exact .inl ⟨by omega, by omega⟩ | exact .inr ⟨by omega, by omega⟩)
local macro_rules | `(tactic| walk_at "ne") => `(tactic| first | assumption | (apply Ne.symm; assumption))
local macro_rules | `(tactic| walk_at "sto") => `(tactic| first | assumption | exact Sto.put_same | (refine (Sto.put_ne (by walk_at "ne")).trans ?_; walk_at "sto"))
local macro_rules | `(tactic| walk_at "vw") => `(tactic| first | rfl | assumption | exact view_lst (by walk_at "sto") | exact view_dct (by walk_at "sto") | exact view_dcu (by walk_at "sto") | exact view_ins (by walk_at "sto") | exact view_fdct (by walk_at "sto"))
local macro_rules | `(tactic| walk_at "ln") => `(tactic| first | decide | exact Nat.le_of_ble_eq_true rfl | (simp only [sizeLine_eq]; omega) | assumption)
local macro_rules | `(tactic| walk_at "bd") => `(tactic| first
  | refine bd_add ?_ | refine bd_sub ?_ | refine bd_mul (by walk_at "mulc") ?_ | refine bd_div ⟨by first | decide | omega, by first | decide | omega⟩ ?_ | refine bd_mod (by first | decide | omega) ?_
  | refine bd_pow ⟨by decide, by decide, by decide⟩ ?_ | refine bd_adds (by walk_at "ln") ?_
  | refine bd_eqi ?_ | refine bd_nei ?_ | refine bd_eqs ?_ | refine bd_nes ?_ | refine bd_eqb ?_ | refine bd_lt ?_ | refine bd_le ?_ | refine bd_gt ?_ | refine bd_ge ?_ | refine bd_isN ?_ | refine bd_notN ?_
  | refine bd_inC ?_ | refine bd_ninC ?_ | refine bd_inS ?_ | refine bd_ninS ?_
  | refine bd_eq rfl rfl rfl ?_ | refine bd_ne rfl rfl rfl ?_
  | refine bd_inK (hu_of c.room) (by walk_at "vw") ?_ | refine bd_ninK (hu_of c.room) (by walk_at "vw") ?_
  | refine bd_inQ c.hK rfl (by first | exact .inl (by walk_at "vw") | exact .inr (by walk_at "vw")) rfl ?_ | refine bd_ninQ c.hK rfl (by first | exact .inl (by walk_at "vw") | exact .inr (by walk_at "vw")) rfl ?_
  | refine bd_cat (by walk_at "vw") (by walk_at "vw") (by walk_at "ln") ?_)
local macro_rules | `(tactic| walk_at "id") => `(tactic| first
  | refine id_lst c.hK (by walk_at "vw") (by rfl) ?_ | refine id_tup c.hK (by walk_at "vw") (by rfl) ?_ | refine id_str (by walk_at "ln") (by rfl) ?_ | refine id_dct (hu_of c.room) (by walk_at "vw") (by rfl) ?_)
local macro_rules | `(tactic| walk_at "lg") => `(tactic| first | decide | (apply log_lt; omega) | assumption)
local macro_rules | `(tactic| walk_at "cd") => `(tactic| first
  | refine cd_lens (by walk_at "ln") ?_ | refine cd_len c.hK (.inl (by walk_at "vw")) ?_ | refine cd_len c.hK (.inr (by walk_at "vw")) ?_ | refine cd_int ?_ | refine cd_intb ?_ | refine cd_str (by walk_at "lg") ?_
  | refine cd_abs ?_ | refine cd_tupleF c.hK (by walk_at "vw") ?_)
local macro_rules | `(tactic| walk_at "fld") => `(tactic| refine ⟨_, _, _, _, by walk_at "vw", G.cls, by first | exact G.naK | exact G.naM, rfl, ?_⟩)
open TL
section
variable {F : Fix} {C CK CT CQ : Addr}
theorem atI_nat {α : Type} {xs : List α} {x : α} {i : Nat} (h : xs[i]? = some x) : atI xs (i : Int) = some x := by
  have hi := (List.getElem?_eq_some_iff.mp h).1
  unfold atI ixN
  rw [if_pos (by omega), if_pos (by omega)]
  exact h
def aRead (CK CT : Addr) : ASp := fun ds S R Z => ∃ t, ds = [.str t] ∧ t.length + 2 ≤ sizeLine ∧ (t ≠ "-" → Txt.split t " " ≠ [] ∧ ∀ p ∈ Txt.split t " ", p.length ≤ sizeLine) ∧ (∀ v, rdk t = some v → R (.int v) S) ∧ (rdk t = none → Z CK S ∧ Z CT S)
abbrev sRead : Stmt := topS 13
abbrev nRead : List Str := ["text", "parts", "rows", "rank", "part", "place", "cluster"]
theorem scRead : FnScope nRead ["text"] (defScope sRead) := ⟨rfl, rfl, rfl, by decide +kernel, rfl, by decide +kernel, by decide +kernel⟩
set_option hygiene false in
theorem ok_read (G : G1 F C CK CT CQ) (GF : FOk F 3 "cluster_of" (aCof C CT)) (GN : FOk F 1 "number_of" (aNum C CK)) {f : Addr} {fd : FuncData} (U : Fun F.M.K "read_knots" "read_knots" sRead f fd) : FnOk F.P F.w F.M.K F.mg F.base (L2.CX F.P F.w) 4 f fd ["text"] (spOf F.M (aRead CK CT)) := by
  refine fn_asS U scRead (fun ds S R Z ⟨t, e, _⟩ => by rw [e]; rfl) (fun X W c hf hst ds S R Z ⟨t, e, hl, hsp, hR, hZ⟩ => ?_)
  subst e
  have g_len := G.nb "len" (by decide)
  have g_enumerate := G.nb "enumerate" (by decide)
  have g_MOST_PLACES := G.mp
  -- if text == '-':
  refine ab_cons (as_if ?_)
  refine at_cmp (by first | exact nomark _ | rfl) ?_
  refine ax_var c 0 (by decide +kernel) rfl ?_
  refine ax_str ?_
  refine bd_eqs ?_
  refine ⟨_, rfl, ?_⟩
  refine iteB (fun h => ?_) (fun h => ?_)
  · -- return 0
    refine ab_cons (as_ret ?_)
    refine ax_int ?_
    exact SR.of (hR 0 (by rw [rdk, if_pos (of_decide_eq_true h)]))
  have hne := of_decide_eq_false h
  obtain ⟨hp0, hpl⟩ := hsp hne
  have hr : rdk t = rdP (Txt.split t " ") := by rw [rdk, if_neg hne]
  rw [hr] at hR hZ
  refine ab_nil ?_
  -- parts = text.split(' ')
  refine ab_cons (as_set c hf 1 (by decide +kernel) ?_)
  refine ax_split ?_
  refine ax_var c 0 (by decide +kernel) rfl ?_
  refine ⟨_, rfl, ?_⟩
  refine ax_str ?_
  refine ⟨_, rfl, rfl, hl, ?_⟩
  show AB F.M X W _ [some (.str t), some (.lst ((Txt.split t " ").map D.str)), none, none, none, none, none] S _ _
  generalize Txt.split t " " = ps at hp0 hpl hR hZ
  -- if len(parts) > MOST_PLACES or parts[0] == '.':
  refine ab_cons (as_if ?_)
  refine at_is (decide (6 < ps.length) || decide (ps[0]? = some ("." : Str))) ?_ ?_
  · refine at_aw (aw_or ?_)
    refine at_cmp (by first | exact nomark _ | rfl) ?_
    refine ax_bi c (by decide +kernel) g_len rfl ?_
    refine aa_cons ?_
    refine ax_var c 1 (by decide +kernel) rfl ?_
    refine aa_nil ?_
    refine cd_len c.hK (.inl rfl) ?_
    refine ax_gl c (by decide +kernel) g_MOST_PLACES ?_
    refine bd_gt ?_
    refine ⟨_, rfl, ?_⟩
    rw [List.length_map]
    by_cases h6 : 6 < ps.length
    · exact iteY (decide_eq_true (by omega)) ⟨by rw [decide_eq_true h6]; rfl, rfl⟩
    · refine iteN (decide_eq_false (by omega)) (aw_or1 ?_)
      rw [decide_eq_false h6, Bool.false_or]
      match ps, hp0 with
      | p :: ps, _ =>
        refine at_cmp (by first | exact nomark _ | rfl) ?_
        refine ax_ix (fun _ _ => rfl) ?_
        refine ax_var c 1 (by decide +kernel) rfl ?_
        refine ax_int ?_
        refine id_lst c.hK (ds := (p :: ps).map D.str) (x := .str p) rfl (atI_nat (i := 0) rfl) ?_
        refine ax_str ?_
        refine bd_eqs ?_
        refine ⟨_, rfl, ?_, rfl⟩
        exact decide_eq_decide.mpr ⟨fun e => by rw [e]; rfl, fun e => Option.some.inj e⟩
  have hrd : ∀ b : Bool, (decide (6 < ps.length) || decide (ps[0]? = some ("." : Str))) = b → rdP ps = if b = true then none else (rowsOf ps.length 0 ps).bind fun rs => if rs.any badR = true then none else nOf 6 0 rs := fun b e => by
    unfold rdP
    by_cases h6 : 6 < ps.length
    · rw [if_pos h6]
      rw [decide_eq_true h6, Bool.true_or] at e
      rw [← e]; rfl
    · rw [if_neg h6]
      rw [decide_eq_false h6, Bool.false_or] at e
      by_cases hd : ps[0]? = some ("." : Str)
      · rw [if_pos hd]
        rw [decide_eq_true hd] at e
        rw [← e]; rfl
      · rw [if_neg hd]
        rw [decide_eq_false hd] at e
        rw [← e, if_neg (by decide)]
  refine iteB (fun h => ?_) (fun h => ?_)
  · -- raise TextError('no knots')
    refine ab_cons (as_raise c G.TextError (by decide +kernel) ?_)
    exact SZ.of (hZ (by rw [hrd _ h, if_pos rfl])).2
  rw [hrd _ h, if_neg (by decide)] at hR hZ
  have h6 : ps.length ≤ 6 := by
    rw [Bool.or_eq_false_iff] at h
    have := of_decide_eq_false h.1
    omega
  refine ab_nil ?_
  -- rows = []
  refine ab_cons (as_set c hf 2 (by decide +kernel) ?_)
  refine ax_lstM ?_
  refine aa_nil ?_
  refine ⟨by walk_at "ln", fun l hl0 => ?_⟩
  -- for rank, part in enumerate(parts):
  refine ab_cons (as_for c ?_)
  refine ai_enumL c (by decide +kernel) g_enumerate ?_
  refine ax_var c 1 (by decide +kernel) rfl ?_
  refine ⟨_, rfl, ?_⟩
  have hlen : ((ps.map D.str).zipIdx.map fun p => D.tup [.int (p.2 : Nat), p.1]).length = ps.length := by simp
  refine ⟨fun i Γ' S' => ∃ a b acc, Γ' = [some (.str t), some (.lst (ps.map D.str)), some (.ref l), a, b, none, none] ∧ S' = S.put l (.lst (acc.map (rowD C))) ∧ acc.length ≤ i ∧ rowsOf ps.length 0 ps = (rowsOf ps.length i (ps.drop i)).map (acc ++ ·), ⟨none, none, [], rfl, rfl, Nat.le_refl _, by simp⟩, fun i d Γ' S' hd hP => ⟨trivial, ?_⟩, fun Γ' S' hP => ⟨trivial, ?_⟩⟩
  · obtain ⟨a, b, acc, rfl, rfl, hacc, hro⟩ := hP
    have hi : i < ps.length := by rw [← hlen]; exact (List.getElem?_eq_some_iff.mp hd).1
    have hdd : d = D.tup [.int (i : Nat), .str ps[i]] := by
      simp [hi] at hd
      exact hd.symm
    subst hdd
    rw [List.drop_eq_getElem_cons hi, rowsOf] at hro
    have hpi := hpl ps[i] (List.getElem_mem hi)
    generalize ps[i] = p at hro hpi
    refine ag_tup c (ds := [.int (i : Nat), .str p]) rfl rfl ?_
    refine ags_cons ?_
    refine ag_name c 3 (by decide +kernel) (.inl (hf _)) ?_
    refine ags_cons ?_
    refine ag_name c 4 (by decide +kernel) (.inl (hf _)) ?_
    refine ags_nil ?_
    show AB F.M X W _ [some (.str t), some (.lst (ps.map D.str)), some (.ref l), some (.int (i : Nat)), some (.str p), none, none] _ _ _
    -- if part != '.':
    refine ab_one (as_if ?_)
    refine at_cmp (by first | exact nomark _ | rfl) ?_
    refine ax_var c 4 (by decide +kernel) rfl ?_
    refine ax_str ?_
    refine bd_nes ?_
    refine ⟨_, rfl, ?_⟩
    by_cases hp : p = "."
    · refine iteN (by rw [decide_eq_true hp]; rfl) ?_
      rw [if_pos hp] at hro
      exact ab_nil ⟨_, _, acc, rfl, rfl, by omega, hro⟩
    · refine iteY (by rw [decide_eq_false hp]; rfl) ?_
      rw [if_neg hp] at hro
      -- rows.append((len(parts) - 1 - rank, cluster_of(part)))
      refine ab_one (as_expr ?_)
      refine ax_append ?_
      refine ax_var c 2 (by decide +kernel) rfl ?_
      refine ⟨⟨_, _, rfl, Sto.put_same⟩, ?_⟩
      refine ax_tup ?_
      refine aa_cons ?_
      refine ax_bin ?_
      refine ax_bin ?_
      refine ax_bi c (by decide +kernel) g_len rfl ?_
      refine aa_cons ?_
      refine ax_var c 1 (by decide +kernel) rfl ?_
      refine aa_nil ?_
      refine cd_len c.hK (.inl rfl) ?_
      refine ax_int ?_
      refine bd_sub ?_
      refine ax_var c 3 (by decide +kernel) rfl ?_
      refine bd_sub ?_
      refine aa_cons ?_
      refine ax_call c GF (by omega) (by decide +kernel) ?_
      refine aa_cons ?_
      refine ax_var c 4 (by decide +kernel) rfl ?_
      refine aa_nil ?_
      refine ⟨p, rfl, hpi, fun k m hc => ?_, fun hc => ?_⟩
      · refine aa_nil ?_
        refine ⟨by walk_at "ln", ?_⟩
        refine ⟨_, _, rfl, Sto.put_same, by rw [List.length_map, sizeLine_eq]; omega, ?_⟩
        rw [hc] at hro
        refine ⟨some (.int (i : Nat)), some (.str p), acc ++ [(((ps.length - 1 - i : Nat) : Int), k, m)], rfl, ?_, by simp; omega, ?_⟩
        · rw [Sto.put_put, List.map_append, List.length_map, show (ps.length : Int) - 1 - ((i : Nat) : Int) = ((ps.length - 1 - i : Nat) : Int) by omega]
          rfl
        · rw [hro]
          show Option.map _ (Option.map _ _) = _
          rw [Option.map_map]
          congr 1
          funext x
          simp
      · rw [hc] at hro
        have hn : rowsOf ps.length 0 ps = none := hro
        rw [hn] at hZ
        exact ⟨S, Sub.refl.put hl0, (hZ rfl).2⟩
  · obtain ⟨a, b, acc, rfl, rfl, hacc, hro⟩ := hP
    rw [hlen, List.drop_length] at hro
    have hro : rowsOf ps.length 0 ps = some acc := by rw [hro]; simp [rowsOf]
    rw [hro] at hR hZ
    have hR : ∀ v, (if acc.any badR = true then none else nOf 6 0 acc) = some v → R (.int v) S := hR
    have hZ : (if acc.any badR = true then none else nOf 6 0 acc) = none → Z CK S ∧ Z CT S := hZ
    -- for place, cluster in rows:
    refine ab_cons (as_for c ?_)
    refine ai_rows (C := C) (rs := acc) c (d := .ref l) (.inr (.inr ⟨l, rfl, Sto.put_same⟩)) (ax_var c 2 (by decide +kernel) rfl ⟨rfl, rfl⟩) (fun al hal => ?_)
    refine ⟨fun i Γ' S' => ∃ c1 c2, Γ' = [some (.str t), some (.lst (ps.map D.str)), some (.ref l), a, b, c1, c2] ∧ S' = S.put l (.lst (acc.map (rowD C))) ∧ acc.any badR = (acc.drop i).any badR, ⟨none, none, rfl, rfl, rfl⟩, fun i d Γ' S' hdi hP => ?_, fun Γ' S' hP => ?_⟩
    · obtain ⟨c1, c2, rfl, rfl, hb⟩ := hP
      refine ⟨hal, ?_⟩
      obtain ⟨⟨p, k, m⟩, hr, rfl⟩ : ∃ r, acc[i]? = some r ∧ d = rowD C r := by
        rw [List.getElem?_map] at hdi
        obtain ⟨r, h1, h2⟩ := Option.map_eq_some_iff.mp hdi
        exact ⟨r, h1, h2.symm⟩
      have hdrop : acc.drop i = (p, k, m) :: acc.drop (i + 1) := by
        obtain ⟨hi, e⟩ := List.getElem?_eq_some_iff.mp hr
        rw [List.drop_eq_getElem_cons hi, e]
      rw [hdrop, List.any_cons] at hb
      refine ag_tup c (ds := [.int p, clu C k m]) rfl rfl ?_
      refine ags_cons ?_
      refine ag_name c 5 (by decide +kernel) (.inl (hf _)) ?_
      refine ags_cons ?_
      refine ag_name c 6 (by decide +kernel) (.inl (hf _)) ?_
      refine ags_nil ?_
      show AB F.M X W _ [some (.str t), some (.lst (ps.map D.str)), some (.ref l), a, b, some (.int p), some (clu C k m)] _ _ _
      -- if (place == 0) == (cluster.kind == 'single'):
      refine ab_one (as_if ?_)
      refine at_cmp (by first | exact nomark _ | rfl) ?_
      refine ax_cmp (by first | exact nomark _ | rfl) ?_
      refine ax_var c 5 (by decide +kernel) rfl ?_
      refine ax_int ?_
      refine bd_eqi ?_
      refine ax_cmp (by first | exact nomark _ | rfl) ?_
      refine ax_fld c ?_ -- cluster.kind
      refine ax_var c 6 (by decide +kernel) rfl ?_
      refine ⟨C, _, _, .str k, rfl, G.cls, G.naK, rfl, ?_⟩
      refine ax_str ?_
      refine bd_eqs ?_
      refine bd_eqb ?_
      refine ⟨_, rfl, ?_⟩
      refine iteB (fun h => ?_) (fun h => ?_)
      · -- raise TextError('other knots')
        refine ab_one (as_raise c G.TextError (by decide +kernel) ?_)
        have hb2 : badR (p, k, m) = true := h
        rw [hb2, Bool.true_or] at hb
        exact ⟨S, Sub.refl.put hl0, (hZ (by rw [if_pos hb])).2⟩
      have hb2 : badR (p, k, m) = false := h
      rw [hb2, Bool.false_or] at hb
      exact ab_nil ⟨_, _, rfl, rfl, hb⟩
    · obtain ⟨c1, c2, rfl, rfl, hb⟩ := hP
      refine ⟨hal, ?_⟩
      rw [List.length_map, List.drop_length] at hb
      have hb : acc.any badR = false := hb
      rw [hb, if_neg (by decide)] at hR hZ
      -- return number_of(rows)
      refine ab_one (as_ret ?_)
      refine ax_call c GN (by omega) (by decide +kernel) ?_
      refine aa_cons ?_
      refine ax_var c 2 (by decide +kernel) rfl ?_
      refine aa_nil ?_
      exact ⟨_, acc, rfl, .inr (.inr ⟨l, rfl, Sto.put_same⟩), fun v hv => ⟨S, Sub.refl.put hl0, hR v hv⟩, fun hn => ⟨S, Sub.refl.put hl0, (hZ hn).1⟩⟩
end
end QD
set_option maxHeartbeats 4000000
namespace QD
open PySem PySem.Spec PyProof.Rows L2 GenW
set_option hygiene false
local macro_rules | `(tactic| walk_at "mulc") => `(tactic| first | exact .inl ⟨by decide, by decide⟩ | exact .inr ⟨by decide, by decide⟩ | exact .inl ⟨by omega, by omega⟩ | exact .inr ⟨by omega, by omega⟩)
local macro_rules | `(tactic| walk_at "ne") => `(tactic| first | assumption | (apply Ne.symm; assumption))
local macro_rules | `(tactic| walk_at "sto") => `(tactic| first | assumption | exact Sto.put_same | (refine (Sto.put_ne (by walk_at "ne")).trans ?_; walk_at "sto"))
local macro_rules | `(tactic| walk_at "vw") => `(tactic| first | rfl | assumption | exact view_lst (by walk_at "sto") | exact view_dct (by walk_at "sto") | exact view_dcu (by walk_at "sto") | exact view_ins (by walk_at "sto") | exact view_fdct (by walk_at "sto"))
local macro_rules | `(tactic| walk_at "ln") => `(tactic| first | decide | exact Nat.le_of_ble_eq_true rfl | (simp only [sizeLine_eq]; omega) | assumption)
local macro_rules | `(tactic| walk_at "bd") => `(tactic| first
  | refine bd_add ?_ | refine bd_sub ?_ | refine bd_mul (by walk_at "mulc") ?_ | refine bd_div ⟨by first | decide | omega, by first | decide | omega⟩ ?_ | refine bd_mod (by first | decide | omega) ?_
  | refine bd_pow ⟨by decide, by decide, by decide⟩ ?_ | refine bd_adds (by walk_at "ln") ?_
  | refine bd_eqi ?_ | refine bd_nei ?_ | refine bd_eqs ?_ | refine bd_nes ?_ | refine bd_eqb ?_ | refine bd_lt ?_ | refine bd_le ?_ | refine bd_gt ?_ | refine bd_ge ?_ | refine bd_isN ?_ | refine bd_notN ?_
  | refine bd_inC ?_ | refine bd_ninC ?_ | refine bd_inS ?_ | refine bd_ninS ?_
  | refine bd_eq rfl rfl rfl ?_ | refine bd_ne rfl rfl rfl ?_
  | refine bd_inK (hu_of c.room) (by walk_at "vw") ?_ | refine bd_ninK (hu_of c.room) (by walk_at "vw") ?_
  | refine bd_inQ c.hK rfl (by first | exact .inl (by walk_at "vw") | exact .inr (by walk_at "vw")) rfl ?_ | refine bd_ninQ c.hK rfl (by first | exact .inl (by walk_at "vw") | exact .inr (by walk_at "vw")) rfl ?_
  | refine bd_cat (by walk_at "vw") (by walk_at "vw") (by walk_at "ln") ?_)
local macro_rules | `(tactic| walk_at "id") => `(tactic| first
  | refine id_lst c.hK (by walk_at "vw") (by rfl) ?_ | refine id_tup c.hK (by walk_at "vw") (by rfl) ?_ | refine id_str (by walk_at "ln") (by rfl) ?_ | refine id_dct (hu_of c.room) (by walk_at "vw") (by rfl) ?_)
local macro_rules | `(tactic| walk_at "lg") => `(tactic| first | decide | (apply log_lt; omega) | assumption)
local macro_rules | `(tactic| walk_at "cd") => `(tactic| first
  | refine cd_lens (by walk_at "ln") ?_ | refine cd_len c.hK (.inl (by walk_at "vw")) ?_ | refine cd_len c.hK (.inr (by walk_at "vw")) ?_ | refine cd_int ?_ | refine cd_intb ?_ | refine cd_str (by walk_at "lg") ?_
  | refine cd_abs ?_ | refine cd_tupleF c.hK (by walk_at "vw") ?_)
local macro_rules | `(tactic| walk_at "fld") => `(tactic| refine ⟨_, _, _, _, by walk_at "vw", G.cls, by first | exact G.naK | exact G.naM, rfl, ?_⟩)
open TL
section
variable {F : Fix} {C CK CT CQ : Addr}
def cnt (r : Row) : Int := if r.2.1 = "single" then r.2.2 else 1
def str1 (r : Row) : Int := cStr r.2.1 r.2.2
theorem rows_mem {n : Nat} {r : Row} (h : r ∈ rows n) : okC r.2.1 r.2.2 = true := by
  have key : ∀ (L : Nat) (ds : List Nat) (i : Nat), (∀ d ∈ ds, d < 10) → ∀ r ∈ cfN L i ds, okC r.2.1 r.2.2 = true := by
    intro L ds
    induction ds with
    | nil => intro i _ r h; simp [cfN] at h
    | cons d ds ih =>
      intro i hd r h
      rw [cfN, List.mem_append] at h
      rcases h with h | h
      · unfold cfA at h
        by_cases h0 : d = 0
        · rw [if_pos h0] at h; cases h
        · rw [if_neg h0, List.mem_singleton] at h
          subst h
          exact kd_ok h0 (hd d (List.mem_cons_self ..))
      · exact ih (i + 1) (fun x hx => hd x (List.mem_cons_of_mem _ hx)) r h
  exact key _ _ _ (fun d hd => dgs_lt hd) r h
theorem rows_len {n : Nat} (h : n < 10 ^ 6) : (rows n).length ≤ 6 :=
  Nat.le_trans (cfN_le _ _ _) ((dgs_len (by decide)).mpr h)
theorem cnt_bd {r : Row} (h : okC r.2.1 r.2.2 = true) : 0 ≤ cnt r ∧ cnt r ≤ 50 := by
  unfold cnt
  rcases okC_cases h with ⟨a, b, c⟩ | ⟨a, b, c⟩ | ⟨a, b⟩ <;> split <;> omega
theorem str1_bd {r : Row} (h : okC r.2.1 r.2.2 = true) : 0 ≤ str1 r ∧ str1 r ≤ 50 := by
  unfold str1 cStr
  rcases okC_cases h with ⟨a, b, c⟩ | ⟨a, b, c⟩ | ⟨a, b⟩ <;> (repeat' split) <;> omega
theorem sum_bd : ∀ {ns : List Int}, (∀ x ∈ ns, 0 ≤ x ∧ x ≤ 50) → 0 ≤ ns.sum ∧ ns.sum ≤ 50 * ns.length
  | [], _ => by simp
  | x :: ns, h => by
    have h1 := h x (List.mem_cons_self ..)
    have h2 := sum_bd fun y hy => h y (List.mem_cons_of_mem _ hy)
    rw [List.sum_cons, List.length_cons]
    omega
theorem sum_ok {ns : List Int} (hl : ns.length ≤ 1000) (h : ∀ x ∈ ns, 0 ≤ x ∧ x ≤ 50) : ∀ j, j < ns.length → InLong (ns[j]?.getD 0) ∧ InLong (ns.take (j + 1)).sum := fun j hj => by
  have h1 := h ns[j] (List.getElem_mem hj)
  have h2 := sum_bd (ns := ns.take (j + 1)) fun x hx => h x (List.mem_of_mem_take hx)
  have h3 : (ns.take (j + 1)).length ≤ 1000 := by rw [List.length_take]; omega
  rw [List.getElem?_eq_getElem hj]
  show InLong ns[j] ∧ _
  unfold InLong
  omega
def aCnt (CK : Addr) : ASp := fun ds S R Z => ∃ n : Int, ds = [.int n] ∧ n < 2 ^ 64 ∧ -(2 ^ 64) < n ∧ (∀ m : Nat, n = m → m < 10 ^ 6 → R (.int ((rows m).map cnt).sum) S) ∧ (¬(0 ≤ n ∧ n < 10 ^ 6) → Z CK S)
def plc (m : Nat) : Int := if 0 < m then (dgs m).length else 0
def aStr (CK : Addr) : ASp := fun ds S R Z => ∃ n g : Int, ds = [.int n, .int g] ∧ n < 2 ^ 64 ∧ -(2 ^ 64) < n ∧ g < 2 ^ 64 ∧ -(2 ^ 64) < g ∧ (∀ m : Nat, n = m → m < 10 ^ 6 → 0 ≤ g → R (.int (((rows m).map str1).sum + g * plc m)) S) ∧ (¬(0 ≤ n ∧ n < 10 ^ 6 ∧ 0 ≤ g) → Z CK S)
abbrev sCnt : Stmt := topS 14
abbrev sStr : Stmt := topS 15
abbrev nCnt : List Str := ["number", "place", "cluster"]
abbrev nStr : List Str := ["number", "gap", "rows", "places", "place", "cluster"]
theorem scCnt : FnScope nCnt ["number"] (defScope sCnt) := ⟨rfl, rfl, rfl, by decide +kernel, rfl, by decide +kernel, by decide +kernel⟩
theorem scStr : FnScope nStr ["number", "gap"] (defScope sStr) := ⟨rfl, rfl, rfl, by decide +kernel, rfl, by decide +kernel, by decide +kernel⟩
theorem filterMap_ints (xs : List Int) : (xs.map fun x => some (D.int x)).filterMap id = xs.map D.int := filterMap_some _ _
set_option hygiene false in
theorem ok_cnt (G : G1 F C CK CT CQ) (GF : FOk F 3 "clusters_for" (aCfs C CK)) {f cd : Addr} {fd : FuncData} (HX : GxTab F cd) (U : CodeAt F sCnt "knot_count" f cd fd) : FnOk F.P F.w F.M.K F.mg F.base (L2.CX F.P F.w) 4 f fd ["number"] (spOf F.M (aCnt CK)) := by
  refine fn_asC U scCnt (fun ds S R Z ⟨t, e, _⟩ => by rw [e]; rfl) (fun X W c hf hst hcd hq ds S R Z ⟨n, e, hn1, hn2, hR, hZ⟩ => ?_)
  subst e
  have hG := xg_of HX hcd
  have g_sum := G.nb "sum" (by decide)
  have c0 := c
  -- return sum((cluster.many if cluster.kind == 'single' else 1 for place, cluster in clusters_for(number)))
  refine ab_one (as_ret ?_)
  refine ax_sumG c hG [("place", 1), ("cluster", 2)] (by decide +kernel) (by decide +kernel) g_sum rfl ?_
  refine ai_of c ?_
  refine ax_call c GF (by omega) (by decide +kernel) ?_
  refine aa_cons ?_
  refine ax_var c 0 (by decide +kernel) rfl ?_
  refine aa_nil ?_
  refine ⟨n, rfl, hn1, hn2, fun m em hm => ?_, fun h => SZ.of (hZ h)⟩
  subst em
  refine .inl ⟨_, .inr (.inr rfl), ?_⟩
  refine gxq_pure (fs := ((rows m).map cnt).map fun x => some (D.int x)) (by simp) trivial (fun i d o hd ho Y hY => ?_) ?_
  · have c := c0.isgx hY
    obtain ⟨⟨p, k, v⟩, hr, rfl, rfl⟩ : ∃ r, (rows m)[i]? = some r ∧ d = rowD C r ∧ o = some (.int (cnt r)) := by
      rw [List.getElem?_map] at hd
      obtain ⟨r, h1, h2⟩ := Option.map_eq_some_iff.mp hd
      refine ⟨r, h1, h2.symm, ?_⟩
      rw [List.getElem?_map, List.getElem?_map, h1] at ho
      exact (Option.some.inj ho).symm
    refine ao_tup c (ds := [.int p, clu C k v]) rfl rfl ?_
    refine aos_cons ?_
    refine ao_name c 1 (by decide +kernel) (by decide) ?_
    refine aos_cons ?_
    refine ao_name c 2 (by decide +kernel) (by decide) ?_
    refine aos_nil ?_
    refine ⟨rfl, ?_⟩
    refine ats_nil ⟨rfl, iteY rfl ?_⟩
    refine ax_if ?_
    refine at_cmp (by first | exact nomark _ | rfl) ?_
    refine ax_fld c ?_ -- cluster.kind
    refine ax_var c 2 (by decide +kernel) rfl ?_
    refine ⟨C, _, _, .str k, rfl, G.cls, G.naK, rfl, ?_⟩
    refine ax_str ?_
    refine bd_eqs ?_
    refine ⟨_, rfl, ?_⟩
    refine iteB (fun h => ?_) (fun h => ?_)
    · refine ax_fld c ?_ -- cluster.many
      refine ax_var c 2 (by decide +kernel) rfl ?_
      refine ⟨C, _, _, .int v, rfl, G.cls, G.naM, rfl, ?_⟩
      refine ⟨rfl, ?_⟩
      show some (D.int (if k = "single" then v else 1)) = _
      rw [if_pos (of_decide_eq_true h)]
    · refine ax_int ⟨rfl, ?_⟩
      show some (D.int (if k = "single" then v else 1)) = _
      rw [if_neg (of_decide_eq_false h)]
  · rw [filterMap_ints]
    refine ⟨_, rfl, sum_ok (by rw [List.length_map]; have := rows_len hm; omega) (fun x hx => ?_), SR.of (hR m rfl hm)⟩
    obtain ⟨r, hr, rfl⟩ := List.mem_map.mp hx
    exact cnt_bd (rows_mem hr)
set_option hygiene false in
theorem ok_strf (G : G1 F C CK CT CQ) (GF : FOk F 3 "clusters_for" (aCfs C CK)) (GM : MOk F 1 C "string" (aCl (fun k m => .int (cStr k m)) C)) {f cd : Addr} {fd : FuncData} (HX : GxTab F cd) (U : CodeAt F sStr "string_for" f cd fd) : FnOk F.P F.w F.M.K F.mg F.base (L2.CX F.P F.w) 4 f fd ["number", "gap"] (spOf F.M (aStr CK)) := by
  refine fn_asC U scStr (fun ds S R Z ⟨t, g, e, _⟩ => by rw [e]; rfl) (fun X W c hf hst hcd hq ds S R Z ⟨n, g, e, hn1, hn2, hg1, hg2, hR, hZ⟩ => ?_)
  subst e
  have hG := xg_of HX hcd
  have g_sum := G.nb "sum" (by decide)
  have c0 := c
  -- if gap < 0:
  refine ab_cons (as_if ?_)
  refine at_cmp (by first | exact nomark _ | rfl) ?_
  refine ax_var c 1 (by decide +kernel) rfl ?_
  refine ax_int ?_
  refine bd_lt ?_
  refine ⟨_, rfl, ?_⟩
  refine iteB (fun h => ?_) (fun h => ?_)
  · -- raise KnotError('no gap')
    refine ab_cons (as_raise c G.KnotError (by decide +kernel) ?_)
    have := of_decide_eq_true h
    exact SZ.of (hZ (by omega))
  have hg0 : 0 ≤ g := by have := of_decide_eq_false h; omega
  refine ab_nil ?_
  -- rows = clusters_for(number)
  refine ab_cons (as_set c hf 2 (by decide +kernel) ?_)
  refine ax_call c GF (by omega) (by decide +kernel) ?_
  refine aa_cons ?_
  refine ax_var c 0 (by decide +kernel) rfl ?_
  refine aa_nil ?_
  refine ⟨n, rfl, hn1, hn2, fun m em hm => ?_, fun h => SZ.of (hZ (fun z => h ⟨z.1, z.2.1⟩))⟩
  subst em
  have hR := hR m rfl hm hg0
  have h6 : (dgs m).length ≤ 6 := (dgs_len (by decide)).mpr hm
  have hl0 : 0 < (dgs m).length := List.length_pos_iff.mpr (dgs_ne m)
  -- places = rows[0][0] + 1 if rows != () else 0
  refine ab_cons (as_set c hf 3 (by decide +kernel) ?_)
  refine ax_is (.int (plc m)) ?_ ?_
  · refine ax_if ?_
    refine at_cmp (by first | exact nomark _ | rfl) ?_
    refine ax_var c 2 (by decide +kernel) rfl ?_
    refine ax_tup ?_
    refine aa_nil ?_
    refine ⟨by walk_at "ln", ?_⟩
    refine bd_neT0 c.hK (Nat.lt_of_succ_lt (hu_of c.room)) (ds := (rows m).map (rowD C)) rfl rfl ?_
    refine ⟨_, rfl, ?_⟩
    rcases Nat.eq_zero_or_pos m with rfl | h0
    · refine iteN (by rw [rows_zero]; rfl) ?_
      exact ax_int ⟨rfl, rfl⟩
    · obtain ⟨k0, m0, r0, er⟩ := rows_cons h0
      refine iteY (by rw [er]; rfl) ?_
      refine ax_bin ?_
      refine ax_ix (fun _ _ => rfl) ?_
      refine ax_ix (fun _ _ => rfl) ?_
      refine ax_var c 2 (by decide +kernel) rfl ?_
      refine ax_int ?_
      refine id_tup c.hK (ds := (rows m).map (rowD C)) (x := .tup [.int (((dgs m).length - 1 : Nat) : Int), clu C k0 m0]) rfl (atI_nat (i := 0) (by rw [er]; rfl)) ?_
      refine ax_int ?_
      refine id_tup c.hK (x := .int (((dgs m).length - 1 : Nat) : Int)) rfl rfl ?_
      refine ax_int ?_
      refine bd_add ⟨?_, rfl⟩
      rw [plc, if_pos h0]
      exact congrArg D.int (by omega)
  -- return sum((cluster.string() for place, cluster in rows)) + gap * places
  refine ab_one (as_ret ?_)
  refine ax_bin ?_
  refine ax_sumG c hG [("place", 4), ("cluster", 5)] (by decide +kernel) (by decide +kernel) g_sum rfl ?_
  refine ai_of c ?_
  refine ax_var c 2 (by decide +kernel) rfl ?_
  refine .inl ⟨_, .inr (.inr rfl), ?_⟩
  refine gxq_pure (fs := ((rows m).map str1).map fun x => some (D.int x)) (by simp) trivial (fun i d o hd ho Y hY => ?_) ?_
  · have c := c0.isgx hY
    obtain ⟨⟨p, k, v⟩, hr, rfl, rfl⟩ : ∃ r, (rows m)[i]? = some r ∧ d = rowD C r ∧ o = some (.int (str1 r)) := by
      rw [List.getElem?_map] at hd
      obtain ⟨r, h1, h2⟩ := Option.map_eq_some_iff.mp hd
      refine ⟨r, h1, h2.symm, ?_⟩
      rw [List.getElem?_map, List.getElem?_map, h1] at ho
      exact (Option.some.inj ho).symm
    refine ao_tup c (ds := [.int p, clu C k v]) rfl rfl ?_
    refine aos_cons ?_
    refine ao_name c 4 (by decide +kernel) (by decide) ?_
    refine aos_cons ?_
    refine ao_name c 5 (by decide +kernel) (by decide) ?_
    refine aos_nil ?_
    refine ⟨rfl, ?_⟩
    refine ats_nil ⟨rfl, iteY rfl ?_⟩
    refine ax_meth0 c GM (by omega) ?_
    refine ax_var c 5 (by decide +kernel) rfl ?_
    refine ⟨_, _, rfl, rfl, ?_⟩
    exact ⟨_, k, v, rfl, rfl, rows_mem (List.mem_of_getElem? hr), rfl, rfl⟩
  · rw [filterMap_ints]
    refine ⟨_, rfl, sum_ok (by rw [List.length_map]; have := rows_len hm; omega) (fun x hx => ?_), ?_⟩
    · obtain ⟨r, hr, rfl⟩ := List.mem_map.mp hx
      exact str1_bd (rows_mem hr)
    refine ax_bin ?_
    refine ax_var c 1 (by decide +kernel) rfl ?_
    refine ax_var c 3 (by decide +kernel) rfl ?_
    refine bd_mul (.inl ⟨by omega, by omega⟩) ?_
    refine bd_add ?_
    exact SR.of hR
end
end QD
set_option maxHeartbeats 4000000
namespace QD
open PySem PySem.Spec PyProof.Rows L2 GenW
set_option hygiene false
local macro_rules | `(tactic| walk_at "mulc") => `(tactic| first | exact .inl ⟨by decide, by decide⟩ | exact .inr ⟨by decide, by decide⟩ | exact .inl ⟨by omega, by omega⟩ | exact .inr ⟨by omega, by omega⟩)
local macro_rules | `(tactic| walk_at "ne") => `(tactic| first | assumption | (apply Ne.symm; assumption))
local macro_rules | `(tactic| walk_at "sto") => `(tactic| first | assumption | exact Sto.put_same | (refine (Sto.put_ne (by walk_at "ne")).trans ?_; walk_at "sto"))
local macro_rules | `(tactic| walk_at "vw") => `(tactic| first | rfl | assumption | exact view_lst (by walk_at "sto") | exact view_dct (by walk_at "sto") | exact view_dcu (by walk_at "sto") | exact view_ins (by walk_at "sto") | exact view_fdct (by walk_at "sto"))
local macro_rules | `(tactic| walk_at "ln") => `(tactic| first | decide | exact Nat.le_of_ble_eq_true rfl | (simp only [sizeLine_eq]; omega) | assumption)
local macro_rules | `(tactic| walk_at "bd") => `(tactic| first
  | refine bd_add ?_ | refine bd_sub ?_ | refine bd_mul (by walk_at "mulc") ?_ | refine bd_div ⟨by first | decide | omega, by first | decide | omega⟩ ?_ | refine bd_mod (by first | decide | omega) ?_
  | refine bd_pow ⟨by decide, by decide, by decide⟩ ?_ | refine bd_adds (by walk_at "ln") ?_
  | refine bd_eqi ?_ | refine bd_nei ?_ | refine bd_eqs ?_ | refine bd_nes ?_ | refine bd_eqb ?_ | refine bd_lt ?_ | refine bd_le ?_ | refine bd_gt ?_ | refine bd_ge ?_ | refine bd_isN ?_ | refine bd_notN ?_
  | refine bd_inC ?_ | refine bd_ninC ?_ | refine bd_inS ?_ | refine bd_ninS ?_
  | refine bd_eq rfl rfl rfl ?_ | refine bd_ne rfl rfl rfl ?_
  | refine bd_inK (hu_of c.room) (by walk_at "vw") ?_ | refine bd_ninK (hu_of c.room) (by walk_at "vw") ?_
  | refine bd_inQ c.hK rfl (by first | exact .inl (by walk_at "vw") | exact .inr (by walk_at "vw")) rfl ?_ | refine bd_ninQ c.hK rfl (by first | exact .inl (by walk_at "vw") | exact .inr (by walk_at "vw")) rfl ?_
  | refine bd_cat (by walk_at "vw") (by walk_at "vw") (by walk_at "ln") ?_)
local macro_rules | `(tactic| walk_at "id") => `(tactic| first
  | refine id_lst c.hK (by walk_at "vw") (by rfl) ?_ | refine id_tup c.hK (by walk_at "vw") (by rfl) ?_ | refine id_str (by walk_at "ln") (by rfl) ?_ | refine id_dct (hu_of c.room) (by walk_at "vw") (by rfl) ?_)
local macro_rules | `(tactic| walk_at "lg") => `(tactic| first | decide | (apply log_lt; omega) | assumption)
local macro_rules | `(tactic| walk_at "cd") => `(tactic| first
  | refine cd_lens (by walk_at "ln") ?_ | refine cd_len c.hK (.inl (by walk_at "vw")) ?_ | refine cd_len c.hK (.inr (by walk_at "vw")) ?_ | refine cd_int ?_ | refine cd_intb ?_ | refine cd_str (by walk_at "lg") ?_
  | refine cd_abs ?_ | refine cd_tupleF c.hK (by walk_at "vw") ?_)
local macro_rules | `(tactic| walk_at "fld") => `(tactic| refine ⟨_, _, _, _, by walk_at "vw", G.cls, by first | exact G.naK | exact G.naM, rfl, ?_⟩)
open TL
section
variable {F : Fix} {C CK CT CQ : Addr}
def aDice : ASp := fun ds S R _ => ∃ x, ds = [.int x] ∧ ∀ p a b z, S p = none → R (.ref p) (S.put p (.lst [.int a, .int b, .int z]))
abbrev sDice : Stmt := topS 17
theorem scDice : FnScope ["cell"] ["cell"] (defScope sDice) := ⟨rfl, rfl, rfl, by decide +kernel, rfl, by decide +kernel, by decide +kernel⟩
set_option hygiene false in
theorem ok_dice (G : G1 F C CK CT CQ) {f : Addr} {fd : FuncData} (U : Fun F.M.K "_law_dice" "_law_dice" sDice f fd) : FnOk F.P F.w F.M.K F.mg F.base (L2.CX F.P F.w) 1 f fd ["cell"] (spOf F.M aDice) := by
  refine fn_asS U scDice (fun ds S R Z ⟨t, e, _⟩ => by rw [e]; rfl) (fun X W c hf hst ds S R Z ⟨x, e, hR⟩ => ?_)
  subst e
  have g_abs := G.nb "abs" (by decide)
  have g_int := G.nb "int" (by decide)
  -- if 0 - 10 < cell < 10:
  refine ab_cons (as_if ?_)
  refine AT.mono (R := fun _ S' => S' = S) ?_ (fun b S' e => ?_)
  · refine at_chain ?_
    refine ax_bin ?_
    refine ax_int ?_
    refine ax_int ?_
    refine bd_sub ?_
    refine ax_var c 0 (by decide +kernel) rfl ?_
    refine bd_lt ?_
    refine ⟨_, rfl, iteB (fun h => ?_) (fun h => ?_)⟩
    · refine ax_int ?_
      refine bd_lt ?_
      exact ⟨_, rfl, rfl⟩
    · exact rfl
  subst e
  refine iteB (fun h => ?_) (fun h => ?_)
  · -- return [abs(cell), 0, 2]
    refine ab_cons (as_ret ?_)
    refine ax_lstM ?_
    refine aa_cons ?_
    refine ax_bi c (by decide +kernel) g_abs rfl ?_
    refine aa_cons ?_
    refine ax_var c 0 (by decide +kernel) rfl ?_
    refine aa_nil ?_
    refine cd_abs ?_
    refine aa_cons ?_
    refine ax_int ?_
    refine aa_cons ?_
    refine ax_int ?_
    refine aa_nil ?_
    exact ⟨by walk_at "ln", fun p hp => SR.of (hR p _ _ _ hp)⟩
  refine ab_nil ?_
  -- return [cell, 1 + int(cell) % 1009, int(cell >= 10 ** 18)]
  refine ab_one (as_ret ?_)
  refine ax_lstM ?_
  refine aa_cons ?_
  refine ax_var c 0 (by decide +kernel) rfl ?_
  refine aa_cons ?_
  refine ax_bin ?_
  refine ax_int ?_
  refine ax_bin ?_
  refine ax_ty c (by decide +kernel) g_int rfl ?_
  refine aa_cons ?_
  refine ax_var c 0 (by decide +kernel) rfl ?_
  refine aa_nil ?_
  refine cd_int ?_
  refine ax_int ?_
  refine bd_mod (by decide) ?_
  refine bd_add ?_
  refine aa_cons ?_
  refine ax_ty c (by decide +kernel) g_int rfl ?_
  refine aa_cons ?_
  refine ax_cmp (by first | exact nomark _ | rfl) ?_
  refine ax_var c 0 (by decide +kernel) rfl ?_
  refine ax_bin ?_
  refine ax_int ?_
  refine ax_int ?_
  refine bd_pow ⟨by decide, by decide, by decide⟩ ?_
  refine bd_ge ?_
  refine aa_nil ?_
  refine cd_intb ?_
  refine aa_nil ?_
  exact ⟨by walk_at "ln", fun p hp => SR.of (hR p _ _ _ hp)⟩
abbrev sRoll : Stmt := topS 18
abbrev nRoll : List Str := ["dice", "many", "found"]
theorem scRoll : FnScope nRoll ["dice", "many"] (defScope sRoll) := ⟨rfl, rfl, rfl, by decide +kernel, rfl, by decide +kernel, by decide +kernel⟩
/-- a draw -/
def aRoll : ASp := fun ds S R _ => ∃ p a b z m, ds = [.ref p, .int m] ∧ S p = some (.lst [.int a, .int b, .int z]) ∧ 1 ≤ m ∧ m ≤ 100000000 ∧ ∀ r a' b' z', 0 ≤ r → r < m → R (.int r) (S.put p (.lst [.int a', .int b', .int z']))
set_option hygiene false in
theorem ok_roll (G : G1 F C CK CT CQ) {f : Addr} {fd : FuncData} (U : Fun F.M.K "_law_roll" "_law_roll" sRoll f fd) : FnOk F.P F.w F.M.K F.mg F.base (L2.CX F.P F.w) 1 f fd ["dice", "many"] (spOf F.M aRoll) := by
  refine fn_asS U scRoll (fun ds S R Z ⟨p, a, b, z, m, e, _⟩ => by rw [e]; rfl) (fun X W c hf hst ds S R Z ⟨p, a, b, z, m, e, hp, h1, h2, hR⟩ => ?_)
  subst e
  have g_int := G.nb "int" (by decide)
  have vw := view_lst hp
  -- if dice[2] == 2 or (dice[2] == 1 and dice[0] > 0):
  refine ab_cons (as_if ?_)
  refine AT.mono (R := fun _ S' => S' = S) ?_ (fun b' S' e => ?_)
  · refine at_aw (aw_or ?_)
    refine at_cmp (by first | exact nomark _ | rfl) ?_
    refine ax_ix (fun _ _ => rfl) ?_
    refine ax_var c 0 (by decide +kernel) rfl ?_
    refine ax_int ?_
    refine id_lst c.hK vw rfl ?_
    refine ax_int ?_
    refine bd_eqi ?_
    refine ⟨_, rfl, iteB (fun h => rfl) (fun h => ?_)⟩
    refine aw_or1 ?_
    refine at_aw (aw_and ?_)
    refine at_cmp (by first | exact nomark _ | rfl) ?_
    refine ax_ix (fun _ _ => rfl) ?_
    refine ax_var c 0 (by decide +kernel) rfl ?_
    refine ax_int ?_
    refine id_lst c.hK vw rfl ?_
    refine ax_int ?_
    refine bd_eqi ?_
    refine ⟨_, rfl, iteB (fun h => ?_) (fun h => rfl)⟩
    refine aw_and1 ?_
    refine at_cmp (by first | exact nomark _ | rfl) ?_
    refine ax_ix (fun _ _ => rfl) ?_
    refine ax_var c 0 (by decide +kernel) rfl ?_
    refine ax_int ?_
    refine id_lst c.hK vw rfl ?_
    refine ax_int ?_
    refine bd_gt ?_
    exact ⟨_, rfl, rfl⟩
  subst e
  refine iteB (fun h => ?_) (fun h => ?_)
  · -- found = int(dice[0]) % many
    refine ab_cons (as_set c hf 2 (by decide +kernel) ?_)
    refine ax_bin ?_
    refine ax_ty c (by decide +kernel) g_int rfl ?_
    refine aa_cons ?_
    refine ax_ix (fun _ _ => rfl) ?_
    refine ax_var c 0 (by decide +kernel) rfl ?_
    refine ax_int ?_
    refine id_lst c.hK vw rfl ?_
    refine aa_nil ?_
    refine cd_int ?_
    refine ax_var c 1 (by decide +kernel) rfl ?_
    refine bd_mod (by omega) ?_
    -- dice[0] = dice[0] // many
    refine ab_cons (as_setI ?_)
    refine ax_bin ?_
    refine ax_ix (fun _ _ => rfl) ?_
    refine ax_var c 0 (by decide +kernel) rfl ?_
    refine ax_int ?_
    refine id_lst c.hK vw rfl ?_
    refine ax_var c 1 (by decide +kernel) rfl ?_
    refine bd_div ⟨by omega, by omega⟩ ?_
    refine ax_var c 0 (by decide +kernel) rfl ?_
    refine ax_int ?_
    refine sd_lst hp rfl ?_
    -- return found
    refine ab_one (as_ret ?_)
    refine ax_var c 2 (by decide +kernel) rfl ?_
    exact SR.of (hR _ _ _ _ (Int.emod_nonneg _ (by omega)) (Int.emod_lt_of_pos _ (by omega)))
  refine ab_nil ?_
  -- dice[2] = 0
  refine ab_cons (as_setI ?_)
  refine ax_int ?_
  refine ax_var c 0 (by decide +kernel) rfl ?_
  refine ax_int ?_
  refine sd_lst hp rfl ?_
  show AB F.M X W _ [some (.ref p), some (.int m), none] (S'.put p (.lst [.int a, .int b, .int 0])) _ _
  -- if many > 100000000:
  refine ab_cons (as_if ?_)
  refine at_cmp (by first | exact nomark _ | rfl) ?_
  refine ax_var c 1 (by decide +kernel) rfl ?_
  refine ax_int ?_
  refine bd_gt ?_
  refine ⟨_, rfl, iteN (decide_eq_false (by omega)) ?_⟩
  refine ab_nil ?_
  have vw := view_lst (S := S'.put p (.lst [.int a, .int b, .int 0])) Sto.put_same
  -- dice[0] = int(dice[0] * 48271 + dice[1] * 69621 + 11) % 2147483647
  refine ab_cons (as_setI ?_)
  refine ax_bin ?_
  refine ax_ty c (by decide +kernel) g_int rfl ?_
  refine aa_cons ?_
  refine ax_bin ?_
  refine ax_bin ?_
  refine ax_bin ?_
  refine ax_ix (fun _ _ => rfl) ?_
  refine ax_var c 0 (by decide +kernel) rfl ?_
  refine ax_int ?_
  refine id_lst c.hK vw rfl ?_
  refine ax_int ?_
  refine bd_mul (.inr ⟨by decide, by decide⟩) ?_
  refine ax_bin ?_
  refine ax_ix (fun _ _ => rfl) ?_
  refine ax_var c 0 (by decide +kernel) rfl ?_
  refine ax_int ?_
  refine id_lst c.hK vw rfl ?_
  refine ax_int ?_
  refine bd_mul (.inr ⟨by decide, by decide⟩) ?_
  refine bd_add ?_
  refine ax_int ?_
  refine bd_add ?_
  refine aa_nil ?_
  refine cd_int ?_
  refine ax_int ?_
  refine bd_mod (by decide) ?_
  refine ax_var c 0 (by decide +kernel) rfl ?_
  refine ax_int ?_
  refine sd_lst Sto.put_same rfl ?_
  rw [Sto.put_put]
  generalize (a * 48271 + b * 69621 + 11) % 2147483647 = a2
  show AB F.M X W _ [some (.ref p), some (.int m), none] (S'.put p (.lst [.int a2, .int b, .int 0])) _ _
  have vw := view_lst (S := S'.put p (.lst [.int a2, .int b, .int 0])) Sto.put_same
  -- dice[1] = dice[1] + 1
  refine ab_cons (as_setI ?_)
  refine ax_bin ?_
  refine ax_ix (fun _ _ => rfl) ?_
  refine ax_var c 0 (by decide +kernel) rfl ?_
  refine ax_int ?_
  refine id_lst c.hK vw rfl ?_
  refine ax_int ?_
  refine bd_add ?_
  refine ax_var c 0 (by decide +kernel) rfl ?_
  refine ax_int ?_
  refine sd_lst Sto.put_same rfl ?_
  rw [Sto.put_put]
  show AB F.M X W _ [some (.ref p), some (.int m), none] (S'.put p (.lst [.int a2, .int (b + 1), .int 0])) _ _
  have vw := view_lst (S := S'.put p (.lst [.int a2, .int (b + 1), .int 0])) Sto.put_same
  -- return int(dice[0] // 7) % many
  refine ab_one (as_ret ?_)
  refine ax_bin ?_
  refine ax_ty c (by decide +kernel) g_int rfl ?_
  refine aa_cons ?_
  refine ax_bin ?_
  refine ax_ix (fun _ _ => rfl) ?_
  refine ax_var c 0 (by decide +kernel) rfl ?_
  refine ax_int ?_
  refine id_lst c.hK vw rfl ?_
  refine ax_int ?_
  refine bd_div ⟨by decide, by decide⟩ ?_
  refine aa_nil ?_
  refine cd_int ?_
  refine ax_var c 1 (by decide +kernel) rfl ?_
  refine bd_mod (by omega) ?_
  exact SR.of (hR _ _ _ _ (Int.emod_nonneg _ (by omega)) (Int.emod_lt_of_pos _ (by omega)))
/-- script[:1], [0] when it is empty: one list of dice -/
def aRounds : ASp := fun ds S R _ => ∃ ns, ds = [.scr ns, .int 1] ∧ ∀ p a b z, S p = none → R (.lst [.ref p]) (S.put p (.lst [.int a, .int b, .int z]))
abbrev sRounds : Stmt := topS 19
abbrev nRounds : List Str := ["script", "most", "cells", "cell"]
theorem scRounds : FnScope nRounds ["script", "most"] (defScope sRounds) := ⟨rfl, rfl, rfl, by decide +kernel, rfl, by decide +kernel, by decide +kernel⟩
set_option hygiene false in
theorem ok_rounds (G : G1 F C CK CT CQ) (GD : FOk F 1 "_law_dice" aDice) {f : Addr} {fd : FuncData} (U : Fun F.M.K "_law_rounds" "_law_rounds" sRounds f fd) : FnOk F.P F.w F.M.K F.mg F.base (L2.CX F.P F.w) 2 f fd ["script", "most"] (spOf F.M aRounds) := by
  refine fn_asS U scRounds (fun ds S R Z ⟨ns, e, _⟩ => by rw [e]; rfl) (fun X W c hf hst ds S R Z ⟨ns, e, hR⟩ => ?_)
  subst e
  -- cells = script[:most]
  refine ab_cons (as_set c hf 2 (by decide +kernel) ?_)
  refine ax_scrTo c ?_
  refine ax_var c 0 (by decide +kernel) rfl ?_
  refine ⟨ns, rfl, ?_⟩
  refine ax_var c 1 (by decide +kernel) rfl ?_
  refine ⟨1, rfl, by decide, ?_⟩
  have hu : X.A.units + 64 < cLine := by have := c.room.un; omega
  have fin : ∀ x : Int, AB F.M X W [(defBody sRounds).getD 2 (.Pass ⟨0, 0, 0, 0⟩)] [some (.scr ns), some (.int 1), some (.lst [.int x]), none] S { nx := fun _ S' => SR R .non S', rt := SR R } (SZ Z) := fun x => by
    -- return [_law_dice(cell) for cell in cells]
    refine ab_one (as_ret ?_)
    refine ax_lc c [("cell", 3)] (by decide +kernel) ?_
    refine ai_of c ?_
    refine ax_var c 2 (by decide +kernel) rfl ?_
    refine .inl ⟨_, .inl rfl, ?_⟩
    refine ⟨Nat.le_of_ble_eq_true rfl, fun l hl => ⟨fun i acc S' => (i = 0 ∧ acc = [] ∧ S' = S.put l (.lst [])) ∨ (i = 1 ∧ ∃ p a b z, acc = [.ref p] ∧ S p = none ∧ p ≠ l ∧ S' = ((S.put l (.lst [])).put p (.lst [.int a, .int b, .int z])).put l (.lst [.ref p])), .inl ⟨rfl, rfl, rfl⟩, fun i d acc S' hd hP _ => ?_, fun acc S' hP => ?_⟩⟩
    · have hi : i = 0 := by have := (List.getElem?_eq_some_iff.mp hd).1; simp at this; omega
      subst hi
      rcases hP with ⟨_, rfl, rfl⟩ | ⟨h, _⟩
      · have hd : d = .int x := by simpa using hd.symm
        subst hd
        refine ⟨trivial, fun Y hY => ?_⟩
        have c0 := c
        have c := c0.isblk hY
        refine ao_name c 3 (by decide +kernel) (by decide) ?_
        intro Y hY
        refine ats_nil (iteY rfl ?_)
        intro Y hY
        have c := c0.isblk hY
        refine ax_call c GD (by omega) (by decide +kernel) ?_
        refine aa_cons ?_
        refine ax_var c 3 (by decide +kernel) rfl ?_
        refine aa_nil ?_
        refine ⟨x, rfl, fun p a b z hp => ?_⟩
        have hpl : p ≠ l := fun e => by rw [e, Sto.put_same] at hp; cases hp
        rw [Sto.put_ne hpl] at hp
        refine ⟨by rw [Sto.put_ne (Ne.symm hpl), Sto.put_same], .inr ⟨rfl, p, a, b, z, rfl, hp, hpl, rfl⟩⟩
      · cases h
    · rcases hP with ⟨h, _⟩ | ⟨_, p, a, b, z, rfl, hp, hpl, rfl⟩
      · cases h
      · refine ⟨trivial, .inr ⟨Sto.put_same, ?_⟩⟩
        refine ⟨S.put p (.lst [.int a, .int b, .int z]), ?_, hR p a b z hp⟩
        rw [Sto.del_put2]
        refine Sub.del ?_ (by rw [Sto.put_ne (Ne.symm hpl)]; exact hl)
        exact Sub.put2 (Sub.refl.put hl)
  show AB F.M X W _ [some (.scr ns), some (.int 1), some (.lst ((ns.take 1).map D.int)), none] S _ _
  have hns : ns.take 1 = [] ∨ ∃ x, ns.take 1 = [x] := by
    cases ns with
    | nil => exact .inl rfl
    | cons x r => exact .inr ⟨x, by simp⟩
  -- if cells == []:
  rcases hns with e | ⟨x, e⟩
  · rw [e]
    refine ab_cons (as_if ?_)
    refine at_cmp (by first | exact nomark _ | rfl) ?_
    refine ax_var c 2 (by decide +kernel) rfl ?_
    refine ax_lst ?_
    refine aa_nil ?_
    refine ⟨by walk_at "ln", ?_⟩
    refine bd_eqP c.hK hu (p := .list []) (q := .list []) rfl rfl rfl rfl ?_
    refine ⟨_, rfl, iteY rfl ?_⟩
    -- cells = [0]
    refine ab_one (as_set c hf 2 (by decide +kernel) ?_)
    refine ax_lst ?_
    refine aa_cons ?_
    refine ax_int ?_
    refine aa_nil ?_
    refine ⟨by walk_at "ln", ?_⟩
    exact fin 0
  · rw [e]
    refine ab_cons (as_if ?_)
    refine at_cmp (by first | exact nomark _ | rfl) ?_
    refine ax_var c 2 (by decide +kernel) rfl ?_
    refine ax_lst ?_
    refine aa_nil ?_
    refine ⟨by walk_at "ln", ?_⟩
    refine bd_eqP c.hK hu (p := .list [.int x]) (q := .list []) rfl rfl rfl rfl ?_
    refine ⟨_, rfl, iteN rfl ?_⟩
    refine ab_nil ?_
    exact fin x
end
end QD
set_option maxHeartbeats 4000000
namespace QD
open PySem PySem.Spec PyProof.Rows L2 GenW
set_option hygiene false
local macro_rules | `(tactic| walk_at "mulc") => `(tactic| first | exact .inl ⟨by decide, by decide⟩ | exact .inr ⟨by decide, by decide⟩ | exact .inl ⟨by omega, by omega⟩ | exact .inr ⟨by omega, by omega⟩)
local macro_rules | `(tactic| walk_at "ne") => `(tactic| first | assumption | (apply Ne.symm; assumption))
local macro_rules | `(tactic| walk_at "sto") => `(tactic| first | assumption | exact Sto.put_same | (refine (Sto.put_ne (by walk_at "ne")).trans ?_; walk_at "sto"))
local macro_rules | `(tactic| walk_at "vw") => `(tactic| first | rfl | assumption | exact view_lst (by walk_at "sto") | exact view_dct (by walk_at "sto") | exact view_dcu (by walk_at "sto") | exact view_ins (by walk_at "sto") | exact view_fdct (by walk_at "sto"))
local macro_rules | `(tactic| walk_at "ln") => `(tactic| first | decide | exact Nat.le_of_ble_eq_true rfl | (simp only [sizeLine_eq]; omega) | assumption)
local macro_rules | `(tactic| walk_at "bd") => `(tactic| first
  | refine bd_add ?_ | refine bd_sub ?_ | refine bd_mul (by walk_at "mulc") ?_ | refine bd_div ⟨by first | decide | omega, by first | decide | omega⟩ ?_ | refine bd_mod (by first | decide | omega) ?_
  | refine bd_pow ⟨by decide, by decide, by decide⟩ ?_ | refine bd_adds (by walk_at "ln") ?_
  | refine bd_eqi ?_ | refine bd_nei ?_ | refine bd_eqs ?_ | refine bd_nes ?_ | refine bd_eqb ?_ | refine bd_lt ?_ | refine bd_le ?_ | refine bd_gt ?_ | refine bd_ge ?_ | refine bd_isN ?_ | refine bd_notN ?_
  | refine bd_inC ?_ | refine bd_ninC ?_ | refine bd_inS ?_ | refine bd_ninS ?_
  | refine bd_eq rfl rfl rfl ?_ | refine bd_ne rfl rfl rfl ?_
  | refine bd_inK (hu_of c.room) (by walk_at "vw") ?_ | refine bd_ninK (hu_of c.room) (by walk_at "vw") ?_
  | refine bd_inQ c.hK rfl (by first | exact .inl (by walk_at "vw") | exact .inr (by walk_at "vw")) rfl ?_ | refine bd_ninQ c.hK rfl (by first | exact .inl (by walk_at "vw") | exact .inr (by walk_at "vw")) rfl ?_
  | refine bd_cat (by walk_at "vw") (by walk_at "vw") (by walk_at "ln") ?_)
local macro_rules | `(tactic| walk_at "id") => `(tactic| first
  | refine id_lst c.hK (by walk_at "vw") (by rfl) ?_ | refine id_tup c.hK (by walk_at "vw") (by rfl) ?_ | refine id_str (by walk_at "ln") (by rfl) ?_ | refine id_dct (hu_of c.room) (by walk_at "vw") (by rfl) ?_)
local macro_rules | `(tactic| walk_at "lg") => `(tactic| first | decide | (apply log_lt; omega) | assumption)
local macro_rules | `(tactic| walk_at "cd") => `(tactic| first
  | refine cd_lens (by walk_at "ln") ?_ | refine cd_len c.hK (.inl (by walk_at "vw")) ?_ | refine cd_len c.hK (.inr (by walk_at "vw")) ?_ | refine cd_int ?_ | refine cd_intb ?_ | refine cd_str (by walk_at "lg") ?_
  | refine cd_abs ?_ | refine cd_tupleF c.hK (by walk_at "vw") ?_)
local macro_rules | `(tactic| walk_at "fld") => `(tactic| refine ⟨_, _, _, _, by walk_at "vw", G.cls, by first | exact G.naK | exact G.naM, rfl, ?_⟩)
open TL
section
variable {F : Fix} {C CK CT CQ : Addr}
def rowT (r : Row) : D := .tup [.int r.1, .str r.2.1, .int r.2.2]
def aLC : ASp := fun ds S R _ => ∃ m : Nat, ds = [.int m] ∧ m < 10 ^ 6 ∧ R (.lst ((rows m).map rowT)) S
abbrev sLC : Stmt := topS 21
abbrev nLC : List Str := ["number", "found", "text", "rank", "sign", "place", "digit", "kind"]
theorem scLC : FnScope nLC ["number"] (defScope sLC) := ⟨rfl, rfl, rfl, by decide +kernel, rfl, by decide +kernel, by decide +kernel⟩
theorem sg_one {x : Nat} (h : x < 10) : sg (x : Int) = ⟨#[48 + x]⟩ := by
  have h1 : ∀ x : Fin 10, sg ((x.val : Nat) : Int) = ⟨#[48 + x.val]⟩ := by decide +kernel
  exact h1 ⟨x, h⟩
set_option hygiene false in
theorem ok_lc (G : G1 F C CK CT CQ) {f : Addr} {fd : FuncData} (U : Fun F.M.K "_law_clusters" "_law_clusters" sLC f fd) : FnOk F.P F.w F.M.K F.mg F.base (L2.CX F.P F.w) 1 f fd ["number"] (spOf F.M aLC) := by
  refine fn_asS U scLC (fun ds S R Z ⟨t, e, _⟩ => by rw [e]; rfl) (fun X W c hf hst ds S R Z ⟨m, e, hm, hR⟩ => ?_)
  subst e
  have g_len := G.nb "len" (by decide)
  have g_int := G.nb "int" (by decide)
  have g_str := G.nb "str" (by decide)
  have g_enumerate := G.nb "enumerate" (by decide)
  have h6 : (dgs m).length ≤ 6 := (dgs_len (by decide)).mpr hm
  have e1 : (sg ((m : Nat) : Int)).length = (dgs m).length := sg_length m
  have e2 := sg_cps m
  generalize e0 : sg ((m : Nat) : Int) = t at e1 e2
  -- found, text = ([], str(number))
  refine ab_cons (as_par c 1 2 (by decide) (by decide +kernel) (by decide +kernel) (by decide +kernel) (by decide +kernel) (by have hs := c.hs; generalize X.env = e at hs ⊢; cases e; cases hs; rfl) ?_)
  refine ax_lst ?_
  refine aa_nil ?_
  refine ⟨by walk_at "ln", ?_⟩
  refine ax_is (.str t) ?_ ?_
  · refine ax_ty c (by decide +kernel) g_str rfl ?_
    refine aa_cons ?_
    refine ax_var c 0 (by decide +kernel) rfl ?_
    refine aa_nil ?_
    exact cd_str (by apply log_lt <;> omega) ⟨congrArg D.str e0, rfl⟩
  -- for rank, sign in enumerate(text):
  refine ab_cons (as_for c ?_)
  refine ai_enumS c (by decide +kernel) g_enumerate ?_
  refine ax_var c 2 (by decide +kernel) rfl ?_
  refine ⟨_, rfl, ?_⟩
  rw [e2]
  have hlen : (((dgs m).map (48 + ·)).zipIdx.map fun p => D.tup [.int (p.2 : Nat), .str ⟨#[p.1]⟩]).length = (dgs m).length := by simp
  refine ⟨fun i Γ' S' => ∃ a b c' d e, Γ' = [some (.int m), some (.lst ((cfN (dgs m).length 0 ((dgs m).take i)).map rowT)), some (.str t), a, b, c', d, e] ∧ S' = S, ⟨none, none, none, none, none, rfl, rfl⟩, fun i d Γ' S' hd hP => ⟨trivial, ?_⟩, fun Γ' S' hP => ⟨trivial, ?_⟩⟩
  · obtain ⟨a, b, c', dd, ee, rfl, rfl⟩ := hP
    obtain ⟨x, hx, rfl⟩ : ∃ x, (dgs m)[i]? = some x ∧ d = D.tup [.int (i : Nat), .str ⟨#[48 + x]⟩] := by
      have hi : i < (dgs m).length := by rw [← hlen]; exact (List.getElem?_eq_some_iff.mp hd).1
      refine ⟨(dgs m)[i], List.getElem?_eq_getElem hi, ?_⟩
      simp [hi] at hd
      exact hd.symm
    have hi : i < (dgs m).length := (List.getElem?_eq_some_iff.mp hx).1
    have hx9 : x < 10 := dgs_lt (List.mem_of_getElem? hx)
    have hlt : (cfN (dgs m).length 0 ((dgs m).take i)).length ≤ 6 := by
      have := cfN_le (dgs m).length ((dgs m).take i) 0
      rw [List.length_take] at this
      omega
    have hstep : cfN (dgs m).length 0 ((dgs m).take (i + 1)) = cfN (dgs m).length 0 ((dgs m).take i) ++ cfA ((dgs m).length - 1 - i) x := by
      rw [take_succ' hx, cfN_snoc, List.length_take, Nat.zero_add, Nat.min_eq_left (Nat.le_of_lt hi)]
    refine ag_tup c (ds := [.int (i : Nat), .str ⟨#[48 + x]⟩]) rfl rfl ?_
    refine ags_cons ?_
    refine ag_name c 3 (by decide +kernel) (.inl (hf _)) ?_
    refine ags_cons ?_
    refine ag_name c 4 (by decide +kernel) (.inl (hf _)) ?_
    refine ags_nil ?_
    -- place, digit = (len(text) - 1 - rank, int(sign))
    refine ab_cons (as_par c 5 6 (by decide) (by decide +kernel) (by decide +kernel) (by decide +kernel) (by decide +kernel) (by have hs := c.hs; generalize X.env = e at hs ⊢; cases e; cases hs; rfl) ?_)
    refine ax_is (.int (((dgs m).length - 1 - i : Nat) : Int)) ?_ ?_
    · refine ax_bin ?_
      refine ax_bin ?_
      refine ax_bi c (by decide +kernel) g_len rfl ?_
      refine aa_cons ?_
      refine ax_var c 2 (by decide +kernel) rfl ?_
      refine aa_nil ?_
      refine cd_lens (by rw [e1, sizeLine_eq]; omega) ?_
      refine ax_int ?_
      refine bd_sub ?_
      refine ax_var c 3 (by decide +kernel) rfl ?_
      refine bd_sub ?_
      rw [e1]
      exact ⟨congrArg D.int (by omega), rfl⟩
    refine ax_ty c (by decide +kernel) g_int rfl ?_
    refine aa_cons ?_
    refine ax_var c 4 (by decide +kernel) rfl ?_
    refine aa_nil ?_
    refine cd_ints (int_dig (by omega) (by omega)) (by simp [Str.length]) ?_
    rw [show (((48 + x : Nat) : Int) - 48) = (x : Int) by omega]
    generalize hp : (dgs m).length - 1 - i = p at hstep
    generalize hB : (cfN (dgs m).length 0 ((dgs m).take i)) = B at hstep hlt
    show AB F.M X W _ [some (.int m), some (.lst (B.map rowT)), some (.str t), some (.int i), some (.str ⟨#[48 + x]⟩), some (.int p), some (.int x), ee] _ _ _
    -- kind = 'single' if place > 0 else 'eight' if digit == 1 else 'long'
    refine ab_cons (as_set c hf 7 (by decide +kernel) ?_)
    refine ax_is (.str (kd p x)) ?_ ?_
    · refine ax_if ?_
      refine at_cmp (by first | exact nomark _ | rfl) ?_
      refine ax_var c 5 (by decide +kernel) rfl ?_
      refine ax_int ?_
      refine bd_gt ?_
      refine ⟨_, rfl, ?_⟩
      refine iteB (fun h => ?_) (fun h => ?_)
      · have := of_decide_eq_true h
        refine ax_str ⟨?_, rfl⟩
        rw [kd_single.mpr (by omega)]
      · have h1 := of_decide_eq_false h
        refine ax_if ?_
        refine at_cmp (by first | exact nomark _ | rfl) ?_
        refine ax_var c 6 (by decide +kernel) rfl ?_
        refine ax_int ?_
        refine bd_eqi ?_
        refine ⟨_, rfl, ?_⟩
        refine iteB (fun h => ?_) (fun h => ?_)
        · have h2 := of_decide_eq_true h
          refine ax_str ⟨?_, rfl⟩
          unfold kd
          rw [if_neg (by omega), if_pos (by omega)]
        · have h2 := of_decide_eq_false h
          refine ax_str ⟨?_, rfl⟩
          unfold kd
          rw [if_neg (by omega), if_neg (by omega)]
    -- found = found + [(place, kind, digit)] * int(digit > 0)
    refine ab_one (as_set c hf 1 (by decide +kernel) ?_)
    refine ax_bin ?_
    refine ax_var c 1 (by decide +kernel) rfl ?_
    refine ax_bin ?_
    refine ax_lst ?_
    refine aa_cons ?_
    refine ax_tup ?_
    refine aa_cons ?_
    refine ax_var c 5 (by decide +kernel) rfl ?_
    refine aa_cons ?_
    refine ax_var c 7 (by decide +kernel) rfl ?_
    refine aa_cons ?_
    refine ax_var c 6 (by decide +kernel) rfl ?_
    refine aa_nil ?_
    refine ⟨by walk_at "ln", ?_⟩
    refine aa_nil ?_
    refine ⟨by walk_at "ln", ?_⟩
    refine ax_ty c (by decide +kernel) g_int rfl ?_
    refine aa_cons ?_
    refine ax_cmp (by first | exact nomark _ | rfl) ?_
    refine ax_var c 6 (by decide +kernel) rfl ?_
    refine ax_int ?_
    refine bd_gt ?_
    refine aa_nil ?_
    refine cd_intb ?_
    refine bd_rep (xs := [rowT ((p : Int), kd p x, (x : Int))]) rfl (by split <;> decide) (by split <;> decide) (by split <;> exact Nat.le_of_ble_eq_true rfl) ?_
    have hb : B.length ≤ 6 := hlt
    refine bd_cat (xs := B.map rowT) rfl rfl ?_ ?_
    · rw [List.length_map, sizeLine_eq]
      split <;> simp <;> omega
    · refine ⟨some (.int i), some (.str ⟨#[48 + x]⟩), some (.int p), some (.int x), some (.str (kd p x)), ?_, rfl⟩
      rw [hstep, List.map_append, cfA]
      by_cases h0 : x = 0
      · rw [if_pos h0, h0]; rfl
      · rw [if_neg h0, decide_eq_true (show (0 : Int) < (x : Int) by omega)]; rfl
  · obtain ⟨a, b, c', dd, ee, rfl, rfl⟩ := hP
    rw [hlen, List.take_length]
    -- return found
    refine ab_one (as_ret ?_)
    refine ax_var c 1 (by decide +kernel) rfl ?_
    exact SR.of hR
def aLT : ASp := fun ds S R _ => ∃ m : Nat, ds = [.int m] ∧ m < 10 ^ 6 ∧ R (.str (lawText m)) S
abbrev sLT : Stmt := topS 22
abbrev nLT : List Str := ["number", "parts", "text", "rank", "sign", "last"]
theorem scLT : FnScope nLT ["number"] (defScope sLT) := ⟨rfl, rfl, rfl, by decide +kernel, rfl, by decide +kernel, by decide +kernel⟩
set_option hygiene false in
theorem ok_lt (G : G1 F C CK CT CQ) {f : Addr} {fd : FuncData} (U : Fun F.M.K "_law_text" "_law_text" sLT f fd) : FnOk F.P F.w F.M.K F.mg F.base (L2.CX F.P F.w) 1 f fd ["number"] (spOf F.M aLT) := by
  refine fn_asS U scLT (fun ds S R Z ⟨t, e, _⟩ => by rw [e]; rfl) (fun X W c hf hst ds S R Z ⟨m, e, hm, hR⟩ => ?_)
  subst e
  have g_len := G.nb "len" (by decide)
  have g_str := G.nb "str" (by decide)
  have g_enumerate := G.nb "enumerate" (by decide)
  -- if number == 0:
  refine ab_cons (as_if ?_)
  refine at_cmp (by first | exact nomark _ | rfl) ?_
  refine ax_var c 0 (by decide +kernel) rfl ?_
  refine ax_int ?_
  refine bd_eqi ?_
  refine ⟨_, rfl, ?_⟩
  rcases Nat.eq_zero_or_pos m with rfl | h0
  · refine iteY rfl ?_
    -- return '-'
    refine ab_cons (as_ret ?_)
    refine ax_str ?_
    exact SR.of hR
  refine iteN (decide_eq_false (by omega)) ?_
  refine ab_nil ?_
  have hT : lawText m = Txt.join " " (ptN (dgs m)) := by rw [lawText, if_neg (by omega)]
  rw [hT] at hR
  have h6 : (dgs m).length ≤ 6 := (dgs_len (by decide)).mpr hm
  have hd9 : ∀ x ∈ dgs m, x < 10 := fun x hx => dgs_lt hx
  have e1 : (sg ((m : Nat) : Int)).length = (dgs m).length := sg_length m
  have e2 := sg_cps m
  generalize e0 : sg ((m : Nat) : Int) = t at e1 e2
  -- parts, text = ([], str(number))
  refine ab_cons (as_par c 1 2 (by decide) (by decide +kernel) (by decide +kernel) (by decide +kernel) (by decide +kernel) (by have hs := c.hs; generalize X.env = e at hs ⊢; cases e; cases hs; rfl) ?_)
  refine ax_lst ?_
  refine aa_nil ?_
  refine ⟨by walk_at "ln", ?_⟩
  refine ax_is (.str t) ?_ ?_
  · refine ax_ty c (by decide +kernel) g_str rfl ?_
    refine aa_cons ?_
    refine ax_var c 0 (by decide +kernel) rfl ?_
    refine aa_nil ?_
    exact cd_str (by apply log_lt <;> omega) ⟨congrArg D.str e0, rfl⟩
  -- for rank, sign in enumerate(text):
  refine ab_cons (as_for c ?_)
  refine ai_enumS c (by decide +kernel) g_enumerate ?_
  refine ax_var c 2 (by decide +kernel) rfl ?_
  refine ⟨_, rfl, ?_⟩
  rw [e2]
  have hlen : (((dgs m).map (48 + ·)).zipIdx.map fun p => D.tup [.int (p.2 : Nat), .str ⟨#[p.1]⟩]).length = (dgs m).length := by simp
  refine ⟨fun i Γ' S' => ∃ a b c', Γ' = [some (.int m), some (.lst (((ptN (dgs m)).take i).map D.str)), some (.str t), a, b, c'] ∧ S' = S, ⟨none, none, none, rfl, rfl⟩, fun i d Γ' S' hd hP => ⟨trivial, ?_⟩, fun Γ' S' hP => ⟨trivial, ?_⟩⟩
  · obtain ⟨a, b, c', rfl, rfl⟩ := hP
    obtain ⟨x, hx, rfl⟩ : ∃ x, (dgs m)[i]? = some x ∧ d = D.tup [.int (i : Nat), .str ⟨#[48 + x]⟩] := by
      have hi : i < (dgs m).length := by rw [← hlen]; exact (List.getElem?_eq_some_iff.mp hd).1
      refine ⟨(dgs m)[i], List.getElem?_eq_getElem hi, ?_⟩
      simp [hi] at hd
      exact hd.symm
    have hi : i < (dgs m).length := (List.getElem?_eq_some_iff.mp hx).1
    have hx9 : x < 10 := hd9 x (List.mem_of_getElem? hx)
    have hpt : (ptN (dgs m))[i]? = some (pt ((dgs m).length - 1 - i) x) := by rw [ptN_get, hx]; rfl
    have hst := take_succ' hpt
    refine ag_tup c (ds := [.int (i : Nat), .str ⟨#[48 + x]⟩]) rfl rfl ?_
    refine ags_cons ?_
    refine ag_name c 3 (by decide +kernel) (.inl (hf _)) ?_
    refine ags_cons ?_
    refine ag_name c 4 (by decide +kernel) (.inl (hf _)) ?_
    refine ags_nil ?_
    -- last = rank == len(text) - 1
    refine ab_cons (as_set c hf 5 (by decide +kernel) ?_)
    refine ax_is (.bl (decide ((dgs m).length - 1 - i = 0))) ?_ ?_
    · refine ax_cmp (by first | exact nomark _ | rfl) ?_
      refine ax_var c 3 (by decide +kernel) rfl ?_
      refine ax_bin ?_
      refine ax_bi c (by decide +kernel) g_len rfl ?_
      refine aa_cons ?_
      refine ax_var c 2 (by decide +kernel) rfl ?_
      refine aa_nil ?_
      refine cd_lens (by rw [e1, sizeLine_eq]; omega) ?_
      refine ax_int ?_
      refine bd_sub ?_
      refine bd_eqi ?_
      rw [e1]
      exact ⟨congrArg D.bl (decide_eq_decide.mpr (by omega)), rfl⟩
    generalize (dgs m).length - 1 - i = p at hst
    have hB : ((ptN (dgs m)).take i).length ≤ 6 := by rw [List.length_take, ptN_len]; omega
    generalize (ptN (dgs m)).take i = B at hB hst
    show AB F.M X W _ [some (.int m), some (.lst (B.map D.str)), some (.str t), some (.int i), some (.str ⟨#[48 + x]⟩), some (.bl (decide (p = 0)))] _ _ _
    -- parts = parts + ['.' if sign == '0' else 's' + sign if not last else 'e' if sign == '1' else 'l' + sign]
    refine ab_one (as_set c hf 1 (by decide +kernel) ?_)
    refine ax_bin ?_
    refine ax_var c 1 (by decide +kernel) rfl ?_
    refine ax_lst ?_
    refine aa_cons ?_
    have es : ∀ j : Nat, j < 10 → (((⟨#[48 + x]⟩ : Str) = ⟨#[48 + j]⟩) ↔ x = j) := fun j _ => by
      constructor
      · intro h
        have := congrArg (fun s : Str => s.cps.toList) h
        simp at this
        exact this
      · intro h; rw [h]
    have z0 : ("0" : Str) = ⟨#[48 + 0]⟩ := by decide +kernel
    have z1 : ("1" : Str) = ⟨#[48 + 1]⟩ := by decide +kernel
    refine ax_is (.str (pt p x)) ?_ ?_
    · refine ax_if ?_
      refine at_cmp (by first | exact nomark _ | rfl) ?_
      refine ax_var c 4 (by decide +kernel) rfl ?_
      refine ax_str ?_
      refine bd_eqs ?_
      refine ⟨_, rfl, ?_⟩
      refine iteB (fun h => ?_) (fun h => ?_)
      · have h := of_decide_eq_true h
        refine ax_str ⟨?_, rfl⟩
        rw [pt, if_pos ((es 0 (by decide)).mp (h.trans z0))]
      · have hx0 : x ≠ 0 := fun z => of_decide_eq_false h (((es 0 (by decide)).mpr z).trans z0.symm)
        refine ax_if ?_
        refine at_not ?_
        refine at_val ?_
        refine ax_var c 5 (by decide +kernel) rfl ?_
        refine ⟨_, rfl, ?_⟩
        refine iteB (fun h => ?_) (fun h => ?_)
        · have hp0 : ¬ p = 0 := of_decide_eq_false (by rw [Bool.not_eq_true'] at h; exact h)
          refine ax_bin ?_
          refine ax_str ?_
          refine ax_var c 4 (by decide +kernel) rfl ?_
          refine bd_adds (show 1 + 1 ≤ sizeLine by decide) ⟨?_, rfl⟩
          rw [pt, if_neg hx0, kd_single.mpr (by omega), cText, if_neg (by decide), if_pos rfl, sg_one hx9]
        · have hp0 : p = 0 := of_decide_eq_true (by rw [Bool.not_eq_false'] at h; exact h)
          subst hp0
          refine ax_if ?_
          refine at_cmp (by first | exact nomark _ | rfl) ?_
          refine ax_var c 4 (by decide +kernel) rfl ?_
          refine ax_str ?_
          refine bd_eqs ?_
          refine ⟨_, rfl, ?_⟩
          refine iteB (fun h => ?_) (fun h => ?_)
          · have h := of_decide_eq_true h
            refine ax_str ⟨?_, rfl⟩
            have h1 := (es 1 (by decide)).mp (h.trans z1)
            rw [pt, if_neg hx0, h1]
            exact congrArg D.str (by decide +kernel)
          · have hx1 : x ≠ 1 := fun z => of_decide_eq_false h (((es 1 (by decide)).mpr z).trans z1.symm)
            refine ax_bin ?_
            refine ax_str ?_
            refine ax_var c 4 (by decide +kernel) rfl ?_
            refine bd_adds (show 1 + 1 ≤ sizeLine by decide) ⟨?_, rfl⟩
            have ek : kd 0 x = "long" := by unfold kd; rw [if_neg (by decide), if_neg hx1]
            rw [pt, if_neg hx0, ek, cText, if_neg (by decide), if_neg (by decide), sg_one hx9]
    refine aa_nil ?_
    refine ⟨by walk_at "ln", ?_⟩
    refine bd_cat (xs := B.map D.str) (ys := [.str (pt p x)]) rfl rfl ?_ ?_
    · rw [List.length_map, sizeLine_eq]
      simp
      omega
    · refine ⟨some (.int i), some (.str ⟨#[48 + x]⟩), some (.bl (decide (p = 0))), ?_, rfl⟩
      rw [hst, List.map_append]
      rfl
  · obtain ⟨a, b, c', rfl, rfl⟩ := hP
    rw [hlen, show (ptN (dgs m)).take (dgs m).length = ptN (dgs m) by rw [← ptN_len, List.take_length]]
    -- return ' '.join(parts)
    refine ab_one (as_ret ?_)
    refine ax_join ?_
    refine ax_str ?_
    refine ⟨_, rfl, ?_⟩
    refine ax_var c 1 (by decide +kernel) rfl ?_
    refine ⟨ptN (dgs m), rfl, ?_, SR.of hR⟩
    have h1 := ptN_sum (dgs m) hd9
    have h2 := ptN_len (dgs m)
    have h3 : (Str.ofString " ").length = 1 := by decide +kernel
    rw [h3, h2]
    omega
end
end QD
set_option maxHeartbeats 4000000
namespace QD
open PySem PySem.Spec PyProof.Rows L2 GenW
set_option hygiene false
local macro_rules | `(tactic| walk_at "mulc") => `(tactic| first | exact .inl ⟨by decide, by decide⟩ | exact .inr ⟨by decide, by decide⟩ | exact .inl ⟨by omega, by omega⟩ | exact .inr ⟨by omega, by omega⟩)
local macro_rules | `(tactic| walk_at "ne") => `(tactic| first | assumption | (apply Ne.symm; assumption))
local macro_rules | `(tactic| walk_at "sto") => `(tactic| first | assumption | exact Sto.put_same | (refine (Sto.put_ne (by walk_at "ne")).trans ?_; walk_at "sto"))
local macro_rules | `(tactic| walk_at "vw") => `(tactic| first | rfl | assumption | exact view_lst (by walk_at "sto") | exact view_dct (by walk_at "sto") | exact view_dcu (by walk_at "sto") | exact view_ins (by walk_at "sto") | exact view_fdct (by walk_at "sto"))
local macro_rules | `(tactic| walk_at "ln") => `(tactic| first | decide | exact Nat.le_of_ble_eq_true rfl | (simp only [sizeLine_eq]; omega) | assumption)
local macro_rules | `(tactic| walk_at "bd") => `(tactic| first
  | refine bd_add ?_ | refine bd_sub ?_ | refine bd_mul (by walk_at "mulc") ?_ | refine bd_div ⟨by first | decide | omega, by first | decide | omega⟩ ?_ | refine bd_mod (by first | decide | omega) ?_
  | refine bd_pow ⟨by decide, by decide, by decide⟩ ?_ | refine bd_adds (by walk_at "ln") ?_
  | refine bd_eqi ?_ | refine bd_nei ?_ | refine bd_eqs ?_ | refine bd_nes ?_ | refine bd_eqb ?_ | refine bd_lt ?_ | refine bd_le ?_ | refine bd_gt ?_ | refine bd_ge ?_ | refine bd_isN ?_ | refine bd_notN ?_
  | refine bd_inC ?_ | refine bd_ninC ?_ | refine bd_inS ?_ | refine bd_ninS ?_
  | refine bd_eq rfl rfl rfl ?_ | refine bd_ne rfl rfl rfl ?_
  | refine bd_inK (hu_of c.room) (by walk_at "vw") ?_ | refine bd_ninK (hu_of c.room) (by walk_at "vw") ?_
  | refine bd_inQ c.hK rfl (by first | exact .inl (by walk_at "vw") | exact .inr (by walk_at "vw")) rfl ?_ | refine bd_ninQ c.hK rfl (by first | exact .inl (by walk_at "vw") | exact .inr (by walk_at "vw")) rfl ?_
  | refine bd_cat (by walk_at "vw") (by walk_at "vw") (by walk_at "ln") ?_)
local macro_rules | `(tactic| walk_at "id") => `(tactic| first
  | refine id_lst c.hK (by walk_at "vw") (by rfl) ?_ | refine id_tup c.hK (by walk_at "vw") (by rfl) ?_ | refine id_str (by walk_at "ln") (by rfl) ?_ | refine id_dct (hu_of c.room) (by walk_at "vw") (by rfl) ?_)
local macro_rules | `(tactic| walk_at "lg") => `(tactic| first | decide | (apply log_lt; omega) | assumption)
local macro_rules | `(tactic| walk_at "cd") => `(tactic| first
  | refine cd_lens (by walk_at "ln") ?_ | refine cd_len c.hK (.inl (by walk_at "vw")) ?_ | refine cd_len c.hK (.inr (by walk_at "vw")) ?_ | refine cd_int ?_ | refine cd_intb ?_ | refine cd_str (by walk_at "lg") ?_
  | refine cd_abs ?_ | refine cd_tupleF c.hK (by walk_at "vw") ?_)
local macro_rules | `(tactic| walk_at "fld") => `(tactic| refine ⟨_, _, _, _, by walk_at "vw", G.cls, by first | exact G.naK | exact G.naM, rfl, ?_⟩)
open TL
/-- the store with the dice -/
abbrev dS (S : Sto) (p : Addr) (a b z : Int) : Sto := S.put p (.lst [.int a, .int b, .int z])
abbrev nLaw : List Str := ["script", "dice", "number", "rows", "own", "place", "cluster", "gap", "knots", "kind", "many", "string", "places", "good", "text", "long", "again", "parts", "k", "fits", "one", "drawn", "due", "bad", "f"]
abbrev sLaw : Stmt := topS 23
theorem scLaw : FnScope nLaw ["script"] (defScope sLaw) := ⟨rfl, rfl, rfl, by decide +kernel, rfl, by decide +kernel, by decide +kernel⟩
def forB : List Stmt := match (defBody sLaw).getD 0 (.Pass ⟨0, 0, 0, 0⟩) with
  | .For _ _ b _ _ => b
  | _ => []
/-- the defs that the law calls -/
structure GL (F : Fix) (C CK CT CQ : Addr) : Prop where
  G : G1 F C CK CT CQ
  rounds : FOk F 2 "_law_rounds" aRounds
  roll : FOk F 1 "_law_roll" aRoll
  lc : FOk F 1 "_law_clusters" aLC
  lt : FOk F 1 "_law_text" aLT
  told : Told F "_law_told" "QuipuError" "QuipuError" CQ
  Cluster : COk F 1 "Cluster" C (aInit C CK)
  text : MOk F 1 C "text" (aCl (fun k m => .str (cText k m)) C)
  length : MOk F 1 C "length" (aCl (fun k m => .int (cLen k m)) C)
  cof : FOk F 3 "cluster_of" (aCof C CT)
  cfs : FOk F 3 "clusters_for" (aCfs C CK)
  num : FOk F 1 "number_of" (aNum C CK)
  kt : FOk F 4 "knots_text" (aKT CK)
  rd : FOk F 4 "read_knots" (aRead CK CT)
  cnt : FOk F 4 "knot_count" (aCnt CK)
  str : FOk F 4 "string_for" (aStr CK)
section
variable {F : Fix} {C CK CT CQ : Addr} {N : List Str} {sc : Scope} {k : Nat} {X : Cx} {W : WX} {Γ : Ga} {S : Sto} {R : RK} {Z : ZK}
/-- _law_roll(dice, n) -/
theorem ax_roll (c : XC F N sc k X W) (GR : FOk F 1 "_law_roll" aRoll) (hk : 1 ≤ k) {dp : Addr} {a b z n : Int} {p1 p2 p3 p4 : Pos} {j : Nat} (hg : glB sc "_law_roll" = true) (hs : slotB N sc 1 "dice" = true) (hi : Γ[1]? = some (some (.ref dp))) (h1 : 1 ≤ n) (h2 : n ≤ 100000000)
    (h : ∀ r a b z, 0 ≤ r → r < n → R (.int r) (dS S dp a b z)) : AX F.M X W (.Call (.Name "_law_roll" p1) [.Name "dice" p2, .Constant (.int n) j p3] [] p4) Γ (dS S dp a b z) R Z := by
  refine ax_call c GR hk hg ?_
  refine aa_cons ?_
  refine ax_var c 1 hs hi ?_
  refine aa_cons ?_
  refine ax_int ?_
  refine aa_nil ?_
  refine ⟨dp, a, b, z, n, rfl, Sto.put_same, h1, h2, fun r a' b' z' h3 h4 => ?_⟩
  rw [Sto.put_put]
  exact h r a' b' z' h3 h4
theorem lt_parts {n : Nat} (h : n < 10 ^ 6) (h0 : 0 < n) : Txt.split (lawText n) " " = ptN (dgs n) := by
  have h1 : lawText n = Txt.join " " (ptN (dgs n)) := by rw [lawText, if_neg (by omega)]
  rw [h1]
  refine TL.split_join (s := 32) (S := []) (by decide +kernel) (by decide +kernel) ?_ ?_
  · intro e
    have := congrArg List.length e
    rw [ptN_len] at this
    exact dgs_ne n (List.length_eq_zero_iff.mp this)
  · intro p hp
    obtain ⟨j, hj, rfl⟩ := List.mem_iff_getElem.mp hp
    have h2 := ptN_get (dgs n) j
    rw [List.getElem?_eq_getElem hj] at h2
    rw [ptN_len] at hj
    rw [List.getElem?_eq_getElem hj] at h2
    rw [Option.some.inj h2]
    have h9 := dgs_lt (List.getElem_mem hj)
    generalize (dgs n)[j] = d at h9
    have hs : ∀ d : Fin 10, 32 ∉ tl ("s" ++ sg ((d.val : Nat) : Int)) := by decide +kernel
    have hl : ∀ d : Fin 10, 32 ∉ tl ("l" ++ sg ((d.val : Nat) : Int)) := by decide +kernel
    have he : 32 ∉ tl ("e" : Str) := by decide +kernel
    have hd : 32 ∉ tl ("." : Str) := by decide +kernel
    unfold pt cText
    split
    · exact hd
    · split
      · exact he
      · split
        · exact hs ⟨d, h9⟩
        · exact hl ⟨d, h9⟩
theorem lt_ne {n : Nat} (h : n < 10 ^ 6) (h0 : 0 < n) : lawText n ≠ "-" := fun e => by
  have h1 := lt_parts h h0
  rw [e] at h1
  have h2 : Txt.split ("-" : Str) " " = (["-"] : List Str) := by
    have := TL.split_join (y := (" " : Str)) (s := 32) (S := []) (by decide +kernel) (by decide +kernel) (parts := ["-"]) (by simp) (by intro p hp; rw [List.mem_singleton.mp hp]; decide +kernel)
    exact this
  rw [h2] at h1
  obtain ⟨d, r, e, hd⟩ := dgs_head h0
  rw [e, ptN] at h1
  have h3 := (List.cons.inj h1).1
  have h9 : d < 10 := dgs_lt (by rw [e]; simp)
  have h4 := cof_pt (p := r.length) (d := d) (by omega) h9
  rw [← h3] at h4
  have h5 : cof "-" = none := by decide +kernel
  rw [h5] at h4
  cases h4
theorem lt_len {n : Nat} (h : n < 10 ^ 6) : (lawText n).length + 2 ≤ sizeLine := by
  unfold lawText
  split
  · decide +kernel
  · have h1 := StrLaws.join_length_le " " (ptN (dgs n))
    rw [TL.join_eq]
    have h2 := ptN_sum (dgs n) fun x hx => dgs_lt hx
    have h3 := ptN_len (dgs n)
    have h6 : (dgs n).length ≤ 6 := (dgs_len (by decide)).mpr h
    have h4 : (Str.ofString " ").length = 1 := by decide +kernel
    rw [h4] at h1
    rw [sizeLine_eq]
    omega
theorem lt_read {n : Nat} (h : n < 10 ^ 6) : rdk (lawText n) = some (n : Int) := by
  rcases Nat.eq_zero_or_pos n with rfl | h0
  · rw [rdk, lawText, if_pos rfl, if_pos rfl]; rfl
  · rw [rdk, if_neg (lt_ne h h0), lt_parts h h0, rdP_law h0 h]
theorem lt_split {n : Nat} (h : n < 10 ^ 6) : lawText n ≠ "-" → Txt.split (lawText n) " " ≠ [] ∧ ∀ p ∈ Txt.split (lawText n) " ", p.length ≤ sizeLine := fun hne => by
  rcases Nat.eq_zero_or_pos n with rfl | h0
  · exact absurd rfl hne
  rw [lt_parts h h0]
  refine ⟨fun e => ?_, fun p hp => ?_⟩
  · have := congrArg List.length e
    rw [ptN_len] at this
    exact dgs_ne n (List.length_eq_zero_iff.mp this)
  · have h2 := ptN_sum (dgs n) fun x hx => dgs_lt hx
    have h6 : (dgs n).length ≤ 6 := (dgs_len (by decide)).mpr h
    obtain ⟨j, hj, rfl⟩ := List.mem_iff_getElem.mp hp
    have h3 := ptN_get (dgs n) j
    rw [List.getElem?_eq_getElem hj] at h3
    rw [ptN_len] at hj
    rw [List.getElem?_eq_getElem hj] at h3
    rw [Option.some.inj h3, sizeLine_eq]
    have := pt_len (p := (dgs n).length - 1 - j) (dgs_lt (List.getElem_mem hj))
    omega
end
end QD
set_option maxHeartbeats 4000000
namespace QD
open PySem PySem.Spec PyProof.Rows L2 GenW
set_option hygiene false
local macro_rules | `(tactic| walk_at "mulc") => `(tactic| first | exact .inl ⟨by decide, by decide⟩ | exact .inr ⟨by decide, by decide⟩ | exact .inl ⟨by omega, by omega⟩ | exact .inr ⟨by omega, by omega⟩)
local macro_rules | `(tactic| walk_at "ne") => `(tactic| first | assumption | (apply Ne.symm; assumption))
local macro_rules | `(tactic| walk_at "sto") => `(tactic| first | assumption | exact Sto.put_same | (refine (Sto.put_ne (by walk_at "ne")).trans ?_; walk_at "sto"))
local macro_rules | `(tactic| walk_at "vw") => `(tactic| first | rfl | assumption | exact view_lst (by walk_at "sto") | exact view_dct (by walk_at "sto") | exact view_dcu (by walk_at "sto") | exact view_ins (by walk_at "sto") | exact view_fdct (by walk_at "sto"))
local macro_rules | `(tactic| walk_at "ln") => `(tactic| first | decide | exact Nat.le_of_ble_eq_true rfl | (simp only [sizeLine_eq]; omega) | assumption)
local macro_rules | `(tactic| walk_at "bd") => `(tactic| first
  | refine bd_add ?_ | refine bd_sub ?_ | refine bd_mul (by walk_at "mulc") ?_ | refine bd_div ⟨by first | decide | omega, by first | decide | omega⟩ ?_ | refine bd_mod (by first | decide | omega) ?_
  | refine bd_pow ⟨by decide, by decide, by decide⟩ ?_ | refine bd_adds (by walk_at "ln") ?_
  | refine bd_eqi ?_ | refine bd_nei ?_ | refine bd_eqs ?_ | refine bd_nes ?_ | refine bd_eqb ?_ | refine bd_lt ?_ | refine bd_le ?_ | refine bd_gt ?_ | refine bd_ge ?_ | refine bd_isN ?_ | refine bd_notN ?_
  | refine bd_inC ?_ | refine bd_ninC ?_ | refine bd_inS ?_ | refine bd_ninS ?_
  | refine bd_eq rfl rfl rfl ?_ | refine bd_ne rfl rfl rfl ?_
  | refine bd_inK (hu_of c.room) (by walk_at "vw") ?_ | refine bd_ninK (hu_of c.room) (by walk_at "vw") ?_
  | refine bd_inQ c.hK rfl (by first | exact .inl (by walk_at "vw") | exact .inr (by walk_at "vw")) rfl ?_ | refine bd_ninQ c.hK rfl (by first | exact .inl (by walk_at "vw") | exact .inr (by walk_at "vw")) rfl ?_
  | refine bd_cat (by walk_at "vw") (by walk_at "vw") (by walk_at "ln") ?_)
local macro_rules | `(tactic| walk_at "id") => `(tactic| first
  | refine id_lst c.hK (by walk_at "vw") (by rfl) ?_ | refine id_tup c.hK (by walk_at "vw") (by rfl) ?_ | refine id_str (by walk_at "ln") (by rfl) ?_ | refine id_dct (hu_of c.room) (by walk_at "vw") (by rfl) ?_)
local macro_rules | `(tactic| walk_at "lg") => `(tactic| first | decide | (apply log_lt; omega) | assumption)
local macro_rules | `(tactic| walk_at "cd") => `(tactic| first
  | refine cd_lens (by walk_at "ln") ?_ | refine cd_len c.hK (.inl (by walk_at "vw")) ?_ | refine cd_len c.hK (.inr (by walk_at "vw")) ?_ | refine cd_int ?_ | refine cd_intb ?_ | refine cd_str (by walk_at "lg") ?_
  | refine cd_abs ?_ | refine cd_tupleF c.hK (by walk_at "vw") ?_)
local macro_rules | `(tactic| walk_at "fld") => `(tactic| refine ⟨_, _, _, _, by walk_at "vw", G.cls, by first | exact G.naK | exact G.naM, rfl, ?_⟩)
open TL
def rowP (r : Row) : PyData := .tuple [.int r.1, .str r.2.1, .int r.2.2]
theorem rowP_eqv : ∀ rs : List Row, PyData.eqvAll (rs.map rowP) (rs.map rowP) = true
  | [] => rfl
  | r :: rs => by
    show (PyData.eqv (rowP r) (rowP r) && PyData.eqvAll (rs.map rowP) (rs.map rowP)) = true
    rw [rowP_eqv rs, Bool.and_true]
    show ((r.1 == r.1) && ((r.2.1 == r.2.1) && ((r.2.2 == r.2.2) && true))) = true
    simp
theorem rowP_shaped (n : Nat) : SeqAt.shaped (.list ((rows n).map rowP)) = true := shaped_list (n := 2) (fun x hx => by
  refine ⟨?_, by show max 0 (max 0 (max 0 0)) + 1 ≤ 2; decide⟩
  show (true && (PyData.strOk x.2.1 && (true && true))) = true
  have h1 : PyData.strOk ("single" : Str) = true := by decide +kernel
  have h2 : PyData.strOk ("long" : Str) = true := by decide +kernel
  have h3 : PyData.strOk ("eight" : Str) = true := by decide +kernel
  rcases okC_cases (rows_mem hx) with ⟨e, _⟩ | ⟨e, _⟩ | ⟨e, _⟩ <;> rw [e]
  · rw [h1]; rfl
  · rw [h2]; rfl
  · rw [h3]; rfl) (by decide)
section
variable {F : Fix} {C CK CT CQ : Addr} {X : Cx} {W : WX} {S : Sto} {K : AK} {Z : ZK}
set_option hygiene false in
theorem law_a (c : XC F nLaw (defScope sLaw) 6 X W) (hf : ∀ x, X.fn x = true) (L : GL F C CK CT CQ) {dp : Addr} {a b z : Int} {x0 x2 x3 x4 x5 x6 x7 x8 x9 x10 x11 x12 x13 x14 x15 x16 x17 x18 x19 x20 x21 x22 x23 x24 : Option D}
    (h : ∀ (m : Nat) (g a b z : Int), m < 10 ^ 6 → 0 ≤ g → g < 20 → AB F.M X W (forB.drop 4) [x0, some (.ref dp), some (.int m), some (.tupf ((rows m).map (rowD C))), some (.lst ((rows m).map rowT)), x5, x6, some (.int g), x8, x9, x10, x11, x12, x13, x14, x15, x16, x17, x18, x19, x20, x21, x22, x23, x24] (dS S dp a b z) K Z) :
    AB F.M X W forB [x0, some (.ref dp), x2, x3, x4, x5, x6, x7, x8, x9, x10, x11, x12, x13, x14, x15, x16, x17, x18, x19, x20, x21, x22, x23, x24] (dS S dp a b z) K Z := by
  have G := L.G
  have hu : X.A.units + 64 < cLine := by have := c.room.un; omega
  have c0 := c
  -- number = [..][_law_roll(dice, 4)]
  refine ab_cons (as_set c hf 2 (by decide +kernel) ?_)
  refine ax_ix (fun _ _ => rfl) ?_
  refine ax_lst ?_
  refine aa_cons ?_
  refine ax_roll c L.roll (by omega) (by decide +kernel) (by decide +kernel) rfl (by decide) (by decide) (fun r1 a b z h1 h1' => ?_)
  refine aa_cons ?_
  refine ax_roll c L.roll (by omega) (by decide +kernel) (by decide +kernel) rfl (by decide) (by decide) (fun r2 a b z h2 h2' => ?_)
  refine aa_cons ?_
  refine ax_roll c L.roll (by omega) (by decide +kernel) (by decide +kernel) rfl (by decide) (by decide) (fun r3 a b z h3 h3' => ?_)
  refine aa_cons ?_
  refine ax_bin ?_
  refine ax_int ?_
  refine ax_roll c L.roll (by omega) (by decide +kernel) (by decide +kernel) rfl (by decide) (by decide) (fun r4 a b z h4 h4' => ?_)
  refine bd_mul (.inl ⟨by decide, by decide⟩) ?_
  refine aa_nil ?_
  refine ⟨by walk_at "ln", ?_⟩
  refine ax_roll c L.roll (by omega) (by decide +kernel) (by decide +kernel) rfl (by decide) (by decide) (fun r5 a b z h5 h5' => ?_)
  have hpick : ∃ m : Nat, m < 10 ^ 6 ∧ atI [D.int r1, .int r2, .int r3, .int (1000 * r4)] r5 = some (.int m) := by
    have hr : r5 = 0 ∨ r5 = 1 ∨ r5 = 2 ∨ r5 = 3 := by omega
    rcases hr with rfl | rfl | rfl | rfl
    · exact ⟨r1.toNat, by omega, by rw [show ((r1.toNat : Nat) : Int) = r1 by omega]; rfl⟩
    · exact ⟨r2.toNat, by omega, by rw [show ((r2.toNat : Nat) : Int) = r2 by omega]; rfl⟩
    · exact ⟨r3.toNat, by omega, by rw [show ((r3.toNat : Nat) : Int) = r3 by omega]; rfl⟩
    · exact ⟨(1000 * r4).toNat, by omega, by rw [show (((1000 * r4).toNat : Nat) : Int) = 1000 * r4 by omega]; rfl⟩
  obtain ⟨m, hm, hat⟩ := hpick
  refine id_lst c.hK rfl hat ?_
  -- rows, own = (clusters_for(number), _law_clusters(number))
  refine ab_cons (as_par c 3 4 (by decide) (by decide +kernel) (by decide +kernel) (by decide +kernel) (by decide +kernel) (by have hs := c.hs; generalize X.env = e at hs ⊢; cases e; cases hs; rfl) ?_)
  refine ax_call c L.cfs (by omega) (by decide +kernel) ?_
  refine aa_cons ?_
  refine ax_var c 2 (by decide +kernel) rfl ?_
  refine aa_nil ?_
  refine ⟨m, rfl, by omega, by omega, fun m' em hm' => ?_, fun hx => absurd ⟨by omega, by omega⟩ hx⟩
  have em : m = m' := by omega
  subst em
  refine ax_call c L.lc (by omega) (by decide +kernel) ?_
  refine aa_cons ?_
  refine ax_var c 2 (by decide +kernel) rfl ?_
  refine aa_nil ?_
  refine ⟨m, rfl, hm, ?_⟩
  show AB F.M X W _ [x0, some (.ref dp), some (.int m), some (.tupf ((rows m).map (rowD C))), some (.lst ((rows m).map rowT)), x5, x6, x7, x8, x9, x10, x11, x12, x13, x14, x15, x16, x17, x18, x19, x20, x21, x22, x23, x24] (dS S dp a b z) K Z
  -- if [(place, cluster.kind, cluster.many) for place, cluster in rows] != own or number_of(rows) != number or ..
  refine ab_cons (as_if ?_)
  refine at_is false ?_ ?_
  · refine at_aw (aw_or ?_)
    refine at_cmp (by first | exact nomark _ | rfl) ?_
    refine ax_lc c [("place", 5), ("cluster", 6)] (by decide +kernel) ?_
    refine ai_of c ?_
    refine ax_var c 3 (by decide +kernel) rfl ?_
    refine .inl ⟨_, .inr (.inr rfl), ?_⟩
    refine lcq_pure (fs := (rows m).map fun r => some (rowT r)) (by simp) (by simp; have := rows_len hm; rw [sizeLine_eq]; omega) (fun _ _ => trivial) (fun i d o hd ho S' hS Y hY => ?_) ?_
    · have c := c0.isblk hY
      obtain ⟨⟨p, k, v⟩, hr, rfl, rfl⟩ : ∃ r, (rows m)[i]? = some r ∧ d = rowD C r ∧ o = some (rowT r) := by
        rw [List.getElem?_map] at hd
        obtain ⟨r, h1, h2⟩ := Option.map_eq_some_iff.mp hd
        refine ⟨r, h1, h2.symm, ?_⟩
        rw [List.getElem?_map, h1] at ho
        exact (Option.some.inj ho).symm
      refine ao_tup c (ds := [.int p, clu C k v]) rfl rfl ?_
      refine aos_cons ?_
      refine ao_name c 5 (by decide +kernel) (by decide) ?_
      refine aos_cons ?_
      refine ao_name c 6 (by decide +kernel) (by decide) ?_
      refine aos_nil ?_
      refine ⟨rfl, fun Y hY => ?_⟩
      refine ats_nil ⟨rfl, iteY rfl ?_⟩
      intro Y hY
      have c := c0.isblk hY
      refine ax_tup ?_
      refine aa_cons ?_
      refine ax_var c 5 (by decide +kernel) rfl ?_
      refine aa_cons ?_
      refine ax_fld c ?_ -- cluster.kind
      refine ax_var c 6 (by decide +kernel) rfl ?_
      refine ⟨C, _, _, .str k, rfl, G.cls, G.naK, rfl, ?_⟩
      refine aa_cons ?_
      refine ax_fld c ?_ -- cluster.many
      refine ax_var c 6 (by decide +kernel) rfl ?_
      refine ⟨C, _, _, .int v, rfl, G.cls, G.naM, rfl, ?_⟩
      refine aa_nil ?_
      refine ⟨by walk_at "ln", rfl, rfl⟩
    rw [filterMap_some]
    refine ax_var c 4 (by decide +kernel) rfl ?_
    have hP : toP (.lst ((rows m).map rowT)) = some (.list ((rows m).map rowP)) := by
      show (toPs ((rows m).map rowT)).map PyData.list = _
      rw [toPs_map (g := rowP) (fun x => rfl)]
      rfl
    refine bd_neP c.hK hu hP hP (rowP_shaped _) (rowP_shaped _) ?_
    refine ⟨_, rfl, iteN (by show (!PyData.eqvAll _ _) = false; rw [rowP_eqv]; rfl) ?_⟩
    refine aw_or ?_
    refine at_cmp (by first | exact nomark _ | rfl) ?_
    refine ax_call c L.num (by omega) (by decide +kernel) ?_
    refine aa_cons ?_
    refine ax_var c 3 (by decide +kernel) rfl ?_
    refine aa_nil ?_
    refine ⟨_, rows m, rfl, .inr (.inl rfl), fun v hv => ?_, fun hn => by rw [nOf_rows hm] at hn; cases hn⟩
    rw [nOf_rows hm] at hv
    cases hv
    refine ax_var c 2 (by decide +kernel) rfl ?_
    refine bd_nei ?_
    refine ⟨_, rfl, iteN (by simp) ?_⟩
    refine aw_or ?_
    refine at_cmp (by first | exact nomark _ | rfl) ?_
    refine ax_call c L.kt (by omega) (by decide +kernel) ?_
    refine aa_cons ?_
    refine ax_var c 2 (by decide +kernel) rfl ?_
    refine aa_nil ?_
    refine ⟨m, rfl, by omega, by omega, fun m' em hm' => ?_, fun hx => absurd ⟨by omega, by omega⟩ hx⟩
    have em : m = m' := by omega
    subst em
    refine ax_call c L.lt (by omega) (by decide +kernel) ?_
    refine aa_cons ?_
    refine ax_var c 2 (by decide +kernel) rfl ?_
    refine aa_nil ?_
    refine ⟨m, rfl, hm, ?_⟩
    refine bd_nes ?_
    refine ⟨_, rfl, iteN (by simp) ?_⟩
    refine aw_or1 ?_
    refine at_cmp (by first | exact nomark _ | rfl) ?_
    refine ax_call c L.rd (by omega) (by decide +kernel) ?_
    refine aa_cons ?_
    refine ax_call c L.lt (by omega) (by decide +kernel) ?_
    refine aa_cons ?_
    refine ax_var c 2 (by decide +kernel) rfl ?_
    refine aa_nil ?_
    refine ⟨m, rfl, hm, ?_⟩
    refine aa_nil ?_
    refine ⟨_, rfl, lt_len hm, lt_split hm, fun v hv => ?_, fun hn => by rw [lt_read hm] at hn; cases hn⟩
    rw [lt_read hm] at hv
    cases hv
    refine ax_var c 2 (by decide +kernel) rfl ?_
    refine bd_nei ?_
    exact ⟨_, rfl, by simp, rfl⟩
  refine iteN rfl ?_
  refine ab_nil ?_
  -- gap = _law_roll(dice, 20)
  refine ab_cons (as_set c hf 7 (by decide +kernel) ?_)
  refine ax_roll c L.roll (by omega) (by decide +kernel) (by decide +kernel) rfl (by decide) (by decide) (fun g a b z h1 h1' => ?_)
  exact h m g a b z hm h1 h1'
end
end QD
set_option maxHeartbeats 4000000
namespace QD
open PySem PySem.Spec PyProof.Rows L2 GenW
set_option hygiene false
local macro_rules | `(tactic| walk_at "mulc") => `(tactic| first | exact .inl ⟨by decide, by decide⟩ | exact .inr ⟨by decide, by decide⟩ | exact .inl ⟨by omega, by omega⟩ | exact .inr ⟨by omega, by omega⟩)
local macro_rules | `(tactic| walk_at "ne") => `(tactic| first | assumption | (apply Ne.symm; assumption))
local macro_rules | `(tactic| walk_at "sto") => `(tactic| first | assumption | exact Sto.put_same | (refine (Sto.put_ne (by walk_at "ne")).trans ?_; walk_at "sto"))
local macro_rules | `(tactic| walk_at "vw") => `(tactic| first | rfl | assumption | exact view_lst (by walk_at "sto") | exact view_dct (by walk_at "sto") | exact view_dcu (by walk_at "sto") | exact view_ins (by walk_at "sto") | exact view_fdct (by walk_at "sto"))
local macro_rules | `(tactic| walk_at "ln") => `(tactic| first | decide | exact Nat.le_of_ble_eq_true rfl | (simp only [sizeLine_eq]; omega) | assumption)
local macro_rules | `(tactic| walk_at "bd") => `(tactic| first
  | refine bd_add ?_ | refine bd_sub ?_ | refine bd_mul (by walk_at "mulc") ?_ | refine bd_div ⟨by first | decide | omega, by first | decide | omega⟩ ?_ | refine bd_mod (by first | decide | omega) ?_
  | refine bd_pow ⟨by decide, by decide, by decide⟩ ?_ | refine bd_adds (by walk_at "ln") ?_
  | refine bd_eqi ?_ | refine bd_nei ?_ | refine bd_eqs ?_ | refine bd_nes ?_ | refine bd_eqb ?_ | refine bd_lt ?_ | refine bd_le ?_ | refine bd_gt ?_ | refine bd_ge ?_ | refine bd_isN ?_ | refine bd_notN ?_
  | refine bd_inC ?_ | refine bd_ninC ?_ | refine bd_inS ?_ | refine bd_ninS ?_
  | refine bd_eq rfl rfl rfl ?_ | refine bd_ne rfl rfl rfl ?_
  | refine bd_inK (hu_of c.room) (by walk_at "vw") ?_ | refine bd_ninK (hu_of c.room) (by walk_at "vw") ?_
  | refine bd_inQ c.hK rfl (by first | exact .inl (by walk_at "vw") | exact .inr (by walk_at "vw")) rfl ?_ | refine bd_ninQ c.hK rfl (by first | exact .inl (by walk_at "vw") | exact .inr (by walk_at "vw")) rfl ?_
  | refine bd_cat (by walk_at "vw") (by walk_at "vw") (by walk_at "ln") ?_)
local macro_rules | `(tactic| walk_at "id") => `(tactic| first
  | refine id_lst c.hK (by walk_at "vw") (by rfl) ?_ | refine id_tup c.hK (by walk_at "vw") (by rfl) ?_ | refine id_str (by walk_at "ln") (by rfl) ?_ | refine id_dct (hu_of c.room) (by walk_at "vw") (by rfl) ?_)
local macro_rules | `(tactic| walk_at "lg") => `(tactic| first | decide | (apply log_lt; omega) | assumption)
local macro_rules | `(tactic| walk_at "cd") => `(tactic| first
  | refine cd_lens (by walk_at "ln") ?_ | refine cd_len c.hK (.inl (by walk_at "vw")) ?_ | refine cd_len c.hK (.inr (by walk_at "vw")) ?_ | refine cd_int ?_ | refine cd_intb ?_ | refine cd_str (by walk_at "lg") ?_
  | refine cd_abs ?_ | refine cd_tupleF c.hK (by walk_at "vw") ?_)
local macro_rules | `(tactic| walk_at "fld") => `(tactic| refine ⟨_, _, _, _, by walk_at "vw", G.cls, by first | exact G.naK | exact G.naM, rfl, ?_⟩)
open TL
section
variable {F : Fix} {C CK CT CQ : Addr} {X : Cx} {W : WX} {S : Sto} {K : AK} {Z : ZK}
set_option hygiene false in
theorem law_b (c : XC F nLaw (defScope sLaw) 6 X W) (hf : ∀ x, X.fn x = true) (L : GL F C CK CT CQ) {dp : Addr} {a b z g : Int} {m : Nat} {rr : D} {x0 x5 x6 x8 x9 x10 x11 x12 x13 x14 x15 x16 x17 x18 x19 x20 x21 x22 x23 x24 : Option D} (hm : m < 10 ^ 6) (hg0 : 0 ≤ g) (hg1 : g < 20)
    (h : ∀ x8 x11 x12, AB F.M X W (forB.drop 8) [x0, some (.ref dp), some (.int m), some rr, some (.lst ((rows m).map rowT)), x5, x6, some (.int g), x8, x9, x10, x11, x12, x13, x14, x15, x16, x17, x18, x19, x20, x21, x22, x23, x24] (dS S dp a b z) K Z) :
    AB F.M X W (forB.drop 4) [x0, some (.ref dp), some (.int m), some rr, some (.lst ((rows m).map rowT)), x5, x6, some (.int g), x8, x9, x10, x11, x12, x13, x14, x15, x16, x17, x18, x19, x20, x21, x22, x23, x24] (dS S dp a b z) K Z := by
  have G := L.G
  have g_sum := G.nb "sum" (by decide)
  have g_len := G.nb "len" (by decide)
  have g_str := G.nb "str" (by decide)
  have c0 := c
  have hl6 := rows_len hm
  -- knots = sum([many if kind == 'single' else 1 for place, kind, many in own])
  refine ab_cons (as_set c hf 8 (by decide +kernel) ?_)
  refine ax_bi c (by decide +kernel) g_sum rfl ?_
  refine aa_cons ?_
  refine ax_lc c [("place", 5), ("kind", 9), ("many", 10)] (by decide +kernel) ?_
  refine ai_of c ?_
  refine ax_var c 4 (by decide +kernel) rfl ?_
  refine .inl ⟨_, .inl rfl, ?_⟩
  refine lcq_pure (fs := ((rows m).map cnt).map fun r => some (D.int r)) (by simp) (by simp; rw [sizeLine_eq]; omega) (fun _ _ => trivial) (fun i d o hd ho S' hS Y hY => ?_) ?_
  · have c := c0.isblk hY
    obtain ⟨⟨p, k, v⟩, hr, rfl, rfl⟩ : ∃ r, (rows m)[i]? = some r ∧ d = rowT r ∧ o = some (.int (cnt r)) := by
      rw [List.getElem?_map] at hd
      obtain ⟨r, h1, h2⟩ := Option.map_eq_some_iff.mp hd
      refine ⟨r, h1, h2.symm, ?_⟩
      rw [List.getElem?_map, List.getElem?_map, h1] at ho
      exact (Option.some.inj ho).symm
    refine ao_tup c (ds := [.int p, .str k, .int v]) rfl rfl ?_
    refine aos_cons ?_
    refine ao_name c 5 (by decide +kernel) (by decide) ?_
    refine aos_cons ?_
    refine ao_name c 9 (by decide +kernel) (by decide) ?_
    refine aos_cons ?_
    refine ao_name c 10 (by decide +kernel) (by decide) ?_
    refine aos_nil ?_
    refine ⟨rfl, fun Y hY => ?_⟩
    refine ats_nil ⟨rfl, iteY rfl ?_⟩
    intro Y hY
    have c := c0.isblk hY
    refine ax_if ?_
    refine at_cmp (by first | exact nomark _ | rfl) ?_
    refine ax_var c 9 (by decide +kernel) rfl ?_
    refine ax_str ?_
    refine bd_eqs ?_
    refine ⟨_, rfl, ?_⟩
    refine iteB (fun h => ?_) (fun h => ?_)
    · refine ax_var c 10 (by decide +kernel) rfl ⟨rfl, ?_⟩
      show some (D.int (if k = "single" then v else 1)) = _
      rw [if_pos (of_decide_eq_true h)]
    · refine ax_int ⟨rfl, ?_⟩
      show some (D.int (if k = "single" then v else 1)) = _
      rw [if_neg (of_decide_eq_false h)]
  rw [filterMap_ints]
  refine aa_nil ?_
  refine cd_sum c.hK c.calm rfl ?_
  -- string = sum([3 * many if kind == 'single' else 6 if kind == 'eight' else 4 + 2 * many for place, kind, many in own])
  refine ab_cons (as_set c hf 11 (by decide +kernel) ?_)
  refine ax_bi c (by decide +kernel) g_sum rfl ?_
  refine aa_cons ?_
  refine ax_lc c [("place", 5), ("kind", 9), ("many", 10)] (by decide +kernel) ?_
  refine ai_of c ?_
  refine ax_var c 4 (by decide +kernel) rfl ?_
  refine .inl ⟨_, .inl rfl, ?_⟩
  refine lcq_pure (fs := ((rows m).map str1).map fun r => some (D.int r)) (by simp) (by simp; rw [sizeLine_eq]; omega) (fun _ _ => trivial) (fun i d o hd ho S' hS Y hY => ?_) ?_
  · have c := c0.isblk hY
    obtain ⟨⟨p, k, v⟩, hr, rfl, rfl⟩ : ∃ r, (rows m)[i]? = some r ∧ d = rowT r ∧ o = some (.int (str1 r)) := by
      rw [List.getElem?_map] at hd
      obtain ⟨r, h1, h2⟩ := Option.map_eq_some_iff.mp hd
      refine ⟨r, h1, h2.symm, ?_⟩
      rw [List.getElem?_map, List.getElem?_map, h1] at ho
      exact (Option.some.inj ho).symm
    refine ao_tup c (ds := [.int p, .str k, .int v]) rfl rfl ?_
    refine aos_cons ?_
    refine ao_name c 5 (by decide +kernel) (by decide) ?_
    refine aos_cons ?_
    refine ao_name c 9 (by decide +kernel) (by decide) ?_
    refine aos_cons ?_
    refine ao_name c 10 (by decide +kernel) (by decide) ?_
    refine aos_nil ?_
    refine ⟨rfl, fun Y hY => ?_⟩
    refine ats_nil ⟨rfl, iteY rfl ?_⟩
    intro Y hY
    have c := c0.isblk hY
    show AX F.M Y W0 _ _ S' (fun y S4 => S4 = S' ∧ some (D.int (if k = "single" then 3 * v else if k = "eight" then 6 else 4 + 2 * v)) = some y) _
    refine ax_if ?_
    refine at_cmp (by first | exact nomark _ | rfl) ?_
    refine ax_var c 9 (by decide +kernel) rfl ?_
    refine ax_str ?_
    refine bd_eqs ?_
    refine ⟨_, rfl, ?_⟩
    refine iteB (fun h => ?_) (fun h => ?_)
    · refine ax_bin ?_
      refine ax_int ?_
      refine ax_var c 10 (by decide +kernel) rfl ?_
      refine bd_mul (.inl ⟨by decide, by decide⟩) ⟨rfl, ?_⟩
      rw [if_pos (of_decide_eq_true h)]
    · rw [if_neg (of_decide_eq_false h)]
      refine ax_if ?_
      refine at_cmp (by first | exact nomark _ | rfl) ?_
      refine ax_var c 9 (by decide +kernel) rfl ?_
      refine ax_str ?_
      refine bd_eqs ?_
      refine ⟨_, rfl, ?_⟩
      refine iteB (fun h => ?_) (fun h => ?_)
      · refine ax_int ⟨rfl, ?_⟩
        rw [if_pos (of_decide_eq_true h)]
      · rw [if_neg (of_decide_eq_false h)]
        refine ax_bin ?_
        refine ax_int ?_
        refine ax_bin ?_
        refine ax_int ?_
        refine ax_var c 10 (by decide +kernel) rfl ?_
        refine bd_mul (.inl ⟨by decide, by decide⟩) ?_
        exact bd_add ⟨rfl, rfl⟩
  rw [filterMap_ints]
  refine aa_nil ?_
  refine cd_sum c.hK c.calm rfl ?_
  -- places = len(str(number)) if number > 0 else 0
  refine ab_cons (as_set c hf 12 (by decide +kernel) ?_)
  refine ax_is (.int (plc m)) ?_ ?_
  · refine ax_if ?_
    refine at_cmp (by first | exact nomark _ | rfl) ?_
    refine ax_var c 2 (by decide +kernel) rfl ?_
    refine ax_int ?_
    refine bd_gt ?_
    refine ⟨_, rfl, ?_⟩
    refine iteB (fun h => ?_) (fun h => ?_)
    · have h := of_decide_eq_true h
      have h6 : (dgs m).length ≤ 6 := (dgs_len (by decide)).mpr hm
      have e1 : (sg ((m : Nat) : Int)).length = (dgs m).length := sg_length m
      refine ax_bi c (by decide +kernel) g_len rfl ?_
      refine aa_cons ?_
      refine ax_ty c (by decide +kernel) g_str rfl ?_
      refine aa_cons ?_
      refine ax_var c 2 (by decide +kernel) rfl ?_
      refine aa_nil ?_
      refine cd_str (by apply log_lt <;> omega) ?_
      refine aa_nil ?_
      refine cd_lens (by rw [e1, sizeLine_eq]; omega) ?_
      rw [e1, plc, if_pos (by omega)]
      exact ⟨rfl, rfl⟩
    · have h := of_decide_eq_false h
      refine ax_int ?_
      rw [plc, if_neg (by omega)]
      exact ⟨rfl, rfl⟩
  show AB F.M X W _ [x0, some (.ref dp), some (.int m), some rr, some (.lst ((rows m).map rowT)), x5, x6, some (.int g), some (.int ((rows m).map cnt).sum), x9, x10, some (.int ((rows m).map str1).sum), some (.int (plc m)), x13, x14, x15, x16, x17, x18, x19, x20, x21, x22, x23, x24] (dS S dp a b z) K Z
  -- if knot_count(number) != knots or string_for(number, gap) != string + gap * places:
  refine ab_cons (as_if ?_)
  refine at_is false ?_ ?_
  · refine at_aw (aw_or ?_)
    refine at_cmp (by first | exact nomark _ | rfl) ?_
    refine ax_call c L.cnt (by omega) (by decide +kernel) ?_
    refine aa_cons ?_
    refine ax_var c 2 (by decide +kernel) rfl ?_
    refine aa_nil ?_
    refine ⟨m, rfl, by omega, by omega, fun m' em hm' => ?_, fun hx => absurd ⟨by omega, by omega⟩ hx⟩
    have em : m = m' := by omega
    subst em
    refine ax_var c 8 (by decide +kernel) rfl ?_
    refine bd_nei ?_
    refine ⟨_, rfl, iteN (by simp) ?_⟩
    refine aw_or1 ?_
    refine at_cmp (by first | exact nomark _ | rfl) ?_
    refine ax_call c L.str (by omega) (by decide +kernel) ?_
    refine aa_cons ?_
    refine ax_var c 2 (by decide +kernel) rfl ?_
    refine aa_cons ?_
    refine ax_var c 7 (by decide +kernel) rfl ?_
    refine aa_nil ?_
    refine ⟨m, g, rfl, by omega, by omega, by omega, by omega, fun m' em hm' _ => ?_, fun hx => absurd ⟨by omega, by omega, hg0⟩ hx⟩
    have em : m = m' := by omega
    subst em
    refine ax_bin ?_
    refine ax_var c 11 (by decide +kernel) rfl ?_
    refine ax_bin ?_
    refine ax_var c 7 (by decide +kernel) rfl ?_
    refine ax_var c 12 (by decide +kernel) rfl ?_
    refine bd_mul (.inl ⟨by omega, by omega⟩) ?_
    refine bd_add ?_
    refine bd_nei ?_
    exact ⟨_, rfl, by simp, rfl⟩
  refine iteN rfl ?_
  refine ab_nil ?_
  exact h _ _ _
end
end QD
set_option maxHeartbeats 4000000
namespace QD
open PySem PySem.Spec PyProof.Rows L2 GenW
set_option hygiene false
local macro_rules | `(tactic| walk_at "mulc") => `(tactic| first | exact .inl ⟨by decide, by decide⟩ | exact .inr ⟨by decide, by decide⟩ | exact .inl ⟨by omega, by omega⟩ | exact .inr ⟨by omega, by omega⟩)
local macro_rules | `(tactic| walk_at "ne") => `(tactic| first | assumption | (apply Ne.symm; assumption))
local macro_rules | `(tactic| walk_at "sto") => `(tactic| first | assumption | exact Sto.put_same | (refine (Sto.put_ne (by walk_at "ne")).trans ?_; walk_at "sto"))
local macro_rules | `(tactic| walk_at "vw") => `(tactic| first | rfl | assumption | exact view_lst (by walk_at "sto") | exact view_dct (by walk_at "sto") | exact view_dcu (by walk_at "sto") | exact view_ins (by walk_at "sto") | exact view_fdct (by walk_at "sto"))
local macro_rules | `(tactic| walk_at "ln") => `(tactic| first | decide | exact Nat.le_of_ble_eq_true rfl | (simp only [sizeLine_eq]; omega) | assumption)
local macro_rules | `(tactic| walk_at "bd") => `(tactic| first
  | refine bd_add ?_ | refine bd_sub ?_ | refine bd_mul (by walk_at "mulc") ?_ | refine bd_div ⟨by first | decide | omega, by first | decide | omega⟩ ?_ | refine bd_mod (by first | decide | omega) ?_
  | refine bd_pow ⟨by decide, by decide, by decide⟩ ?_ | refine bd_adds (by walk_at "ln") ?_
  | refine bd_eqi ?_ | refine bd_nei ?_ | refine bd_eqs ?_ | refine bd_nes ?_ | refine bd_eqb ?_ | refine bd_lt ?_ | refine bd_le ?_ | refine bd_gt ?_ | refine bd_ge ?_ | refine bd_isN ?_ | refine bd_notN ?_
  | refine bd_inC ?_ | refine bd_ninC ?_ | refine bd_inS ?_ | refine bd_ninS ?_
  | refine bd_eq rfl rfl rfl ?_ | refine bd_ne rfl rfl rfl ?_
  | refine bd_inK (hu_of c.room) (by walk_at "vw") ?_ | refine bd_ninK (hu_of c.room) (by walk_at "vw") ?_
  | refine bd_inQ c.hK rfl (by first | exact .inl (by walk_at "vw") | exact .inr (by walk_at "vw")) rfl ?_ | refine bd_ninQ c.hK rfl (by first | exact .inl (by walk_at "vw") | exact .inr (by walk_at "vw")) rfl ?_
  | refine bd_cat (by walk_at "vw") (by walk_at "vw") (by walk_at "ln") ?_)
local macro_rules | `(tactic| walk_at "id") => `(tactic| first
  | refine id_lst c.hK (by walk_at "vw") (by rfl) ?_ | refine id_tup c.hK (by walk_at "vw") (by rfl) ?_ | refine id_str (by walk_at "ln") (by rfl) ?_ | refine id_dct (hu_of c.room) (by walk_at "vw") (by rfl) ?_)
local macro_rules | `(tactic| walk_at "lg") => `(tactic| first | decide | (apply log_lt; omega) | assumption)
local macro_rules | `(tactic| walk_at "cd") => `(tactic| first
  | refine cd_lens (by walk_at "ln") ?_ | refine cd_len c.hK (.inl (by walk_at "vw")) ?_ | refine cd_len c.hK (.inr (by walk_at "vw")) ?_ | refine cd_int ?_ | refine cd_intb ?_ | refine cd_str (by walk_at "lg") ?_
  | refine cd_abs ?_ | refine cd_tupleF c.hK (by walk_at "vw") ?_)
local macro_rules | `(tactic| walk_at "fld") => `(tactic| refine ⟨_, _, _, _, by walk_at "vw", G.cls, by first | exact G.naK | exact G.naM, rfl, ?_⟩)
open TL
theorem cof_text {k : Str} {m : Int} (h : okC k m = true) : cof (cText k m) = some (k, m) := by
  rcases okC_cases h with ⟨rfl, b1, b2⟩ | ⟨rfl, b1, b2⟩ | ⟨rfl, rfl⟩
  · obtain ⟨d, rfl⟩ := Int.eq_ofNat_of_zero_le (show 0 ≤ m by omega)
    have h1 := cof_pt (p := 1) (d := d) (by omega) (by omega)
    have e : kd 1 d = "single" := kd_single.mpr (by decide)
    rw [pt, if_neg (by omega), e] at h1
    exact h1
  · obtain ⟨d, rfl⟩ := Int.eq_ofNat_of_zero_le (show 0 ≤ m by omega)
    have h1 := cof_pt (p := 0) (d := d) (by omega) (by omega)
    have e : kd 0 d = "long" := by unfold kd; rw [if_neg (by decide), if_neg (by omega)]
    rw [pt, if_neg (by omega), e] at h1
    exact h1
  · decide +kernel
theorem cText_len {k : Str} {m : Int} (h : okC k m = true) : (cText k m).length ≤ 2 := by
  have hs : ∀ d : Fin 10, ("s" ++ sg ((d.val : Nat) : Int)).length ≤ 2 := by decide +kernel
  have hl : ∀ d : Fin 10, ("l" ++ sg ((d.val : Nat) : Int)).length ≤ 2 := by decide +kernel
  rcases okC_cases h with ⟨rfl, b1, b2⟩ | ⟨rfl, b1, b2⟩ | ⟨rfl, rfl⟩
  · obtain ⟨d, rfl⟩ := Int.eq_ofNat_of_zero_le (show 0 ≤ m by omega)
    rw [cText, if_neg (by decide), if_pos rfl]
    exact hs ⟨d, by omega⟩
  · obtain ⟨d, rfl⟩ := Int.eq_ofNat_of_zero_le (show 0 ≤ m by omega)
    rw [cText, if_neg (by decide), if_neg (by decide)]
    exact hl ⟨d, by omega⟩
  · decide +kernel
section
variable {F : Fix} {C CK CT CQ : Addr} {X : Cx} {W : WX} {S : Sto} {K : AK} {Z : ZK}
/-- what told gives of Cluster(kind, many) -/
def toldC (C : Addr) (k : Str) (m : Int) : D := if okC k m = true then clu C k m else .str "QuipuError"
set_option hygiene false in
theorem law_c (c : XC F nLaw (defScope sLaw) 6 X W) (hf : ∀ x, X.fn x = true) (L : GL F C CK CT CQ) (HL : XL F X) {dp : Addr} {a b z : Int} {x0 x2 x3 x4 x5 x6 x7 x8 x9 x10 x11 x12 x13 x14 x15 x16 x17 x18 x19 x20 x21 x22 x23 x24 : Option D}
    (h : ∀ (kind : Str) (many : Int) (a b z : Int), (kind = "single" ∨ kind = "long" ∨ kind = "eight" ∨ kind = "loop") → 0 ≤ many → many < 11 → AB F.M X W (forB.drop 12) [x0, some (.ref dp), x2, x3, x4, x5, some (toldC C kind many), x7, x8, some (.str kind), some (.int many), x11, x12, some (.bl (okC kind many)), x14, x15, x16, x17, x18, x19, x20, x21, x22, x23, x24] (dS S dp a b z) K Z) :
    AB F.M X W (forB.drop 8) [x0, some (.ref dp), x2, x3, x4, x5, x6, x7, x8, x9, x10, x11, x12, x13, x14, x15, x16, x17, x18, x19, x20, x21, x22, x23, x24] (dS S dp a b z) K Z := by
  have G := L.G
  -- kind, many = (['single', 'long', 'eight', 'loop'][_law_roll(dice, 4)], _law_roll(dice, 11))
  refine ab_cons (as_asg ?_ (hs := by rfl) (hw := by have hs := c.hs; generalize X.env = e at hs ⊢; cases e; cases hs; rfl))
  refine ax_tup ?_
  refine aa_cons ?_
  refine ax_ix (fun _ _ => rfl) ?_
  refine ax_lst ?_
  refine aa_cons ?_
  refine ax_str ?_
  refine aa_cons ?_
  refine ax_str ?_
  refine aa_cons ?_
  refine ax_str ?_
  refine aa_cons ?_
  refine ax_str ?_
  refine aa_nil ?_
  refine ⟨by walk_at "ln", ?_⟩
  refine ax_roll c L.roll (by omega) (by decide +kernel) (by decide +kernel) rfl (by decide) (by decide) (fun r1 a b z h1 h1' => ?_)
  have hpick : ∃ kind : Str, (kind = "single" ∨ kind = "long" ∨ kind = "eight" ∨ kind = "loop") ∧ atI [D.str "single", .str "long", .str "eight", .str "loop"] r1 = some (.str kind) := by
    have hr : r1 = 0 ∨ r1 = 1 ∨ r1 = 2 ∨ r1 = 3 := by omega
    rcases hr with rfl | rfl | rfl | rfl
    · exact ⟨_, .inl rfl, rfl⟩
    · exact ⟨_, .inr (.inl rfl), rfl⟩
    · exact ⟨_, .inr (.inr (.inl rfl)), rfl⟩
    · exact ⟨_, .inr (.inr (.inr rfl)), rfl⟩
  obtain ⟨kind, hkind, hat⟩ := hpick
  refine id_lst c.hK rfl hat ?_
  refine aa_cons ?_
  refine ax_roll c L.roll (by omega) (by decide +kernel) (by decide +kernel) rfl (by decide) (by decide) (fun many a b z h2 h2' => ?_)
  refine aa_nil ?_
  refine ⟨by walk_at "ln", ?_⟩
  refine ag_tup c (ds := [.str kind, .int many]) rfl rfl ?_
  refine ags_cons ?_
  refine ag_name c 9 (by decide +kernel) (.inl (hf _)) ?_
  refine ags_cons ?_
  refine ag_name c 10 (by decide +kernel) (.inl (hf _)) ?_
  refine ags_nil ?_
  show AB F.M X W _ [x0, some (.ref dp), x2, x3, x4, x5, x6, x7, x8, some (.str kind), some (.int many), x11, x12, x13, x14, x15, x16, x17, x18, x19, x20, x21, x22, x23, x24] (dS S dp a b z) K Z
  -- good = ..
  refine ab_cons (as_set c hf 13 (by decide +kernel) ?_)
  refine ax_is (.bl (okC kind many)) ?_ ?_
  · have eok : okC kind many = ((decide (kind = "single") && decide (1 ≤ many ∧ many ≤ 9)) || (decide (kind = "long") && decide (2 ≤ many ∧ many ≤ 9)) || (decide (kind = "eight") && decide (many = 1))) := rfl
    rw [eok]
    refine ax_or ?_
    refine ax_is (.bl (decide (kind = "single") && decide (1 ≤ many ∧ many ≤ 9))) ?_ ⟨_, rfl, ?_⟩
    · refine ax_and ?_
      refine ax_cmp (by first | exact nomark _ | rfl) ?_
      refine ax_var c 9 (by decide +kernel) rfl ?_
      refine ax_str ?_
      refine bd_eqs ?_
      refine ⟨_, rfl, iteB (fun h => ?_) (fun h => ?_)⟩
      · rw [h, Bool.true_and]
        refine ax_one ?_
        refine ax_chain ?_
        refine ax_int ?_
        refine ax_var c 10 (by decide +kernel) rfl ?_
        refine bd_le ?_
        refine ⟨_, rfl, iteB (fun h => ?_) (fun h => ?_)⟩
        · have h := of_decide_eq_true h
          refine ax_int ?_
          refine bd_le ⟨congrArg D.bl (decide_eq_decide.mpr ⟨fun x => ⟨h, x⟩, fun x => x.2⟩), rfl⟩
        · have h := of_decide_eq_false h
          exact ⟨congrArg D.bl (decide_eq_false fun x => h x.1).symm, rfl⟩
      · rw [h]
        exact ⟨rfl, rfl⟩
    refine iteB (fun h => ?_) (fun h => ?_)
    · rw [h]
      exact ⟨rfl, rfl⟩
    rw [h, Bool.false_or]
    refine ax_or ?_
    refine ax_is (.bl (decide (kind = "long") && decide (2 ≤ many ∧ many ≤ 9))) ?_ ⟨_, rfl, ?_⟩
    · refine ax_and ?_
      refine ax_cmp (by first | exact nomark _ | rfl) ?_
      refine ax_var c 9 (by decide +kernel) rfl ?_
      refine ax_str ?_
      refine bd_eqs ?_
      refine ⟨_, rfl, iteB (fun h => ?_) (fun h => ?_)⟩
      · rw [h, Bool.true_and]
        refine ax_one ?_
        refine ax_chain ?_
        refine ax_int ?_
        refine ax_var c 10 (by decide +kernel) rfl ?_
        refine bd_le ?_
        refine ⟨_, rfl, iteB (fun h => ?_) (fun h => ?_)⟩
        · have h := of_decide_eq_true h
          refine ax_int ?_
          refine bd_le ⟨congrArg D.bl (decide_eq_decide.mpr ⟨fun x => ⟨h, x⟩, fun x => x.2⟩), rfl⟩
        · have h := of_decide_eq_false h
          exact ⟨congrArg D.bl (decide_eq_false fun x => h x.1).symm, rfl⟩
      · rw [h]
        exact ⟨rfl, rfl⟩
    refine iteB (fun h => ?_) (fun h => ?_)
    · rw [h]
      exact ⟨rfl, rfl⟩
    rw [h, Bool.false_or]
    refine ax_one ?_
    refine ax_and ?_
    refine ax_cmp (by first | exact nomark _ | rfl) ?_
    refine ax_var c 9 (by decide +kernel) rfl ?_
    refine ax_str ?_
    refine bd_eqs ?_
    refine ⟨_, rfl, iteB (fun h => ?_) (fun h => ?_)⟩
    · rw [h, Bool.true_and]
      refine ax_one ?_
      refine ax_cmp (by first | exact nomark _ | rfl) ?_
      refine ax_var c 10 (by decide +kernel) rfl ?_
      refine ax_int ?_
      exact bd_eqi ⟨rfl, rfl⟩
    · rw [h]
      exact ⟨rfl, rfl⟩
  -- cluster = _law_told(lambda: Cluster(kind, many))
  refine ab_cons (as_set c hf 6 (by decide +kernel) ?_)
  refine ax_is (toldC C kind many) ?_ ?_
  · refine ax_told (k := 4) c HL L.told (by decide +kernel) (by decide +kernel) rfl (by intros; rfl) (fun Y WY hY => ?_)
    have cY := hY.1
    rw [c.hN] at cY
    refine AX.sub ?_
    refine ax_make cY L.Cluster (by omega) (by decide +kernel) ?_
    refine aa_cons ?_
    refine ax_var cY 9 (by decide +kernel) rfl ?_
    refine aa_cons ?_
    refine ax_var cY 10 (by decide +kernel) rfl ?_
    refine aa_nil ?_
    refine made (A := True) (CK := CK) (fun hok => SR.of ⟨?_, rfl⟩) (fun hok => ⟨G.exK, ?_, rfl⟩)
    · rw [toldC, if_pos hok]
    · rw [toldC, if_neg (by rw [hok]; decide)]
  show AB F.M X W _ [x0, some (.ref dp), x2, x3, x4, x5, some (toldC C kind many), x7, x8, some (.str kind), some (.int many), x11, x12, some (.bl (okC kind many)), x14, x15, x16, x17, x18, x19, x20, x21, x22, x23, x24] (dS S dp a b z) K Z
  -- if (cluster == 'QuipuError') == good:
  refine ab_cons (as_if ?_)
  refine at_is false ?_ ?_
  · refine at_cmp (by first | exact nomark _ | rfl) ?_
    refine ax_is (.bl (!okC kind many)) ?_ ?_
    · refine ax_cmp (by first | exact nomark _ | rfl) ?_
      refine ax_var c 6 (by decide +kernel) rfl ?_
      refine ax_str ?_
      by_cases hok : okC kind many = true
      · rw [toldC, if_pos hok]
        refine bd_eqO c.hK (Nat.lt_of_succ_lt (hu_of c.room)) (C := C) (ns := ["kind", "many"]) (ds := [.str kind, .int many]) rfl G.neq ?_
        rw [hok]
        exact ⟨rfl, rfl⟩
      · rw [toldC, if_neg hok]
        refine bd_eqs ?_
        rw [Bool.not_eq_true] at hok
        rw [hok]
        exact ⟨rfl, rfl⟩
    · refine ax_var c 13 (by decide +kernel) rfl ?_
      refine bd_eqb ⟨_, rfl, ?_, rfl⟩
      cases okC kind many <;> rfl
  refine iteN rfl ?_
  refine ab_nil ?_
  exact h kind many a b z hkind h2 h2'
end
end QD
set_option maxHeartbeats 4000000
namespace QD
open PySem PySem.Spec PyProof.Rows L2 GenW
set_option hygiene false
local macro_rules | `(tactic| walk_at "mulc") => `(tactic| first | exact .inl ⟨by decide, by decide⟩ | exact .inr ⟨by decide, by decide⟩ | exact .inl ⟨by omega, by omega⟩ | exact .inr ⟨by omega, by omega⟩)
local macro_rules | `(tactic| walk_at "ne") => `(tactic| first | assumption | (apply Ne.symm; assumption))
local macro_rules | `(tactic| walk_at "sto") => `(tactic| first | assumption | exact Sto.put_same | (refine (Sto.put_ne (by walk_at "ne")).trans ?_; walk_at "sto"))
local macro_rules | `(tactic| walk_at "vw") => `(tactic| first | rfl | assumption | exact view_lst (by walk_at "sto") | exact view_dct (by walk_at "sto") | exact view_dcu (by walk_at "sto") | exact view_ins (by walk_at "sto") | exact view_fdct (by walk_at "sto"))
local macro_rules | `(tactic| walk_at "ln") => `(tactic| first | decide | exact Nat.le_of_ble_eq_true rfl | (simp only [sizeLine_eq]; omega) | assumption)
local macro_rules | `(tactic| walk_at "bd") => `(tactic| first
  | refine bd_add ?_ | refine bd_sub ?_ | refine bd_mul (by walk_at "mulc") ?_ | refine bd_div ⟨by first | decide | omega, by first | decide | omega⟩ ?_ | refine bd_mod (by first | decide | omega) ?_
  | refine bd_pow ⟨by decide, by decide, by decide⟩ ?_ | refine bd_adds (by walk_at "ln") ?_
  | refine bd_eqi ?_ | refine bd_nei ?_ | refine bd_eqs ?_ | refine bd_nes ?_ | refine bd_eqb ?_ | refine bd_lt ?_ | refine bd_le ?_ | refine bd_gt ?_ | refine bd_ge ?_ | refine bd_isN ?_ | refine bd_notN ?_
  | refine bd_inC ?_ | refine bd_ninC ?_ | refine bd_inS ?_ | refine bd_ninS ?_
  | refine bd_eq rfl rfl rfl ?_ | refine bd_ne rfl rfl rfl ?_
  | refine bd_inK (hu_of c.room) (by walk_at "vw") ?_ | refine bd_ninK (hu_of c.room) (by walk_at "vw") ?_
  | refine bd_inQ c.hK rfl (by first | exact .inl (by walk_at "vw") | exact .inr (by walk_at "vw")) rfl ?_ | refine bd_ninQ c.hK rfl (by first | exact .inl (by walk_at "vw") | exact .inr (by walk_at "vw")) rfl ?_
  | refine bd_cat (by walk_at "vw") (by walk_at "vw") (by walk_at "ln") ?_)
local macro_rules | `(tactic| walk_at "id") => `(tactic| first
  | refine id_lst c.hK (by walk_at "vw") (by rfl) ?_ | refine id_tup c.hK (by walk_at "vw") (by rfl) ?_ | refine id_str (by walk_at "ln") (by rfl) ?_ | refine id_dct (hu_of c.room) (by walk_at "vw") (by rfl) ?_)
local macro_rules | `(tactic| walk_at "lg") => `(tactic| first | decide | (apply log_lt; omega) | assumption)
local macro_rules | `(tactic| walk_at "cd") => `(tactic| first
  | refine cd_lens (by walk_at "ln") ?_ | refine cd_len c.hK (.inl (by walk_at "vw")) ?_ | refine cd_len c.hK (.inr (by walk_at "vw")) ?_ | refine cd_int ?_ | refine cd_intb ?_ | refine cd_str (by walk_at "lg") ?_
  | refine cd_abs ?_ | refine cd_tupleF c.hK (by walk_at "vw") ?_)
local macro_rules | `(tactic| walk_at "fld") => `(tactic| refine ⟨_, _, _, _, by walk_at "vw", G.cls, by first | exact G.naK | exact G.naM, rfl, ?_⟩)
open TL
section
variable {F : Fix} {C CK CT CQ : Addr} {X : Cx} {W : WX} {S : Sto} {K : AK} {Z : ZK}
set_option hygiene false in
theorem law_d (c : XC F nLaw (defScope sLaw) 6 X W) (hf : ∀ x, X.fn x = true) (L : GL F C CK CT CQ) {dp : Addr} {a b z : Int} {kind : Str} {many : Int} {x0 x2 x3 x4 x5 x7 x8 x11 x12 x14 x15 x16 x17 x18 x19 x20 x21 x22 x23 x24 : Option D}
    (hm0 : 0 ≤ many) (hm1 : many < 11)
    (h : ∀ x14 x15 x16, AB F.M X W (forB.drop 13) [x0, some (.ref dp), x2, x3, x4, x5, some (toldC C kind many), x7, x8, some (.str kind), some (.int many), x11, x12, some (.bl (okC kind many)), x14, x15, x16, x17, x18, x19, x20, x21, x22, x23, x24] (dS S dp a b z) K Z) :
    AB F.M X W (forB.drop 12) [x0, some (.ref dp), x2, x3, x4, x5, some (toldC C kind many), x7, x8, some (.str kind), some (.int many), x11, x12, some (.bl (okC kind many)), x14, x15, x16, x17, x18, x19, x20, x21, x22, x23, x24] (dS S dp a b z) K Z := by
  have G := L.G
  have g_str := G.nb "str" (by decide)
  have hu : X.A.units + 64 < cLine := by have := c.room.un; omega
  refine ab_cons (as_if ?_)
  refine at_val ?_
  refine ax_var c 13 (by decide +kernel) rfl ?_
  refine ⟨_, rfl, iteB (fun hok => ?_) (fun hok => ?_)⟩
  · have ht : toldC C kind many = clu C kind many := by rw [toldC, if_pos hok]
    rw [ht, hok]
    rw [ht, hok] at h
    -- text = 'e' if kind == 'eight' else kind[0] + str(many)
    refine ab_cons (as_set c hf 14 (by decide +kernel) ?_)
    refine ax_is (.str (cText kind many)) ?_ ?_
    · refine ax_if ?_
      refine at_cmp (by first | exact nomark _ | rfl) ?_
      refine ax_var c 9 (by decide +kernel) rfl ?_
      refine ax_str ?_
      refine bd_eqs ?_
      refine ⟨_, rfl, ?_⟩
      refine iteB (fun h => ?_) (fun h => ?_)
      · refine ax_str ?_
        exact ⟨by rw [cText, if_pos (of_decide_eq_true h)], rfl⟩
      · have ne : kind ≠ "eight" := of_decide_eq_false h
        have hc : (kind = "single" ∨ kind = "long") ∧ 0 ≤ many ∧ many ≤ 9 := by
          rcases okC_cases hok with ⟨a, b⟩ | ⟨a, b⟩ | ⟨a, b⟩
          · exact ⟨.inl a, by omega, by omega⟩
          · exact ⟨.inr a, by omega, by omega⟩
          · exact absurd a ne
        obtain ⟨hk, m0, m9⟩ := hc
        have hl := sg_len m0 m9
        refine ax_bin ?_
        refine ax_ix (fun _ _ => rfl) ?_
        refine ax_var c 9 (by decide +kernel) rfl ?_
        refine ax_int ?_
        rcases hk with hk | hk
        · subst hk
          refine id_str (c := 115) (by decide +kernel) (by decide +kernel) ?_
          refine ax_ty c (by decide +kernel) g_str rfl ?_
          refine aa_cons ?_
          refine ax_var c 10 (by decide +kernel) rfl ?_
          refine aa_nil ?_
          refine cd_str (by apply log_lt <;> omega) ?_
          refine bd_adds (by rw [hl]; decide) ?_
          exact ⟨by rw [cText, if_neg ne, if_pos rfl]; rfl, rfl⟩
        · subst hk
          refine id_str (c := 108) (by decide +kernel) (by decide +kernel) ?_
          refine ax_ty c (by decide +kernel) g_str rfl ?_
          refine aa_cons ?_
          refine ax_var c 10 (by decide +kernel) rfl ?_
          refine aa_nil ?_
          refine cd_str (by apply log_lt <;> omega) ?_
          refine bd_adds (by rw [hl]; decide) ?_
          exact ⟨by rw [cText, if_neg ne, if_neg (by decide)]; rfl, rfl⟩
    -- long = many if kind == 'single' else 2 if kind == 'eight' else 2 + -(-many // 2)
    refine ab_cons (as_set c hf 15 (by decide +kernel) ?_)
    refine ax_is (.int (cLen kind many)) ?_ ?_
    · refine ax_if ?_
      refine at_cmp (by first | exact nomark _ | rfl) ?_
      refine ax_var c 9 (by decide +kernel) rfl ?_
      refine ax_str ?_
      refine bd_eqs ?_
      refine ⟨_, rfl, ?_⟩
      refine iteB (fun h => ?_) (fun h => ?_)
      · refine ax_var c 10 (by decide +kernel) rfl ?_
        exact ⟨by rw [cLen, if_pos (of_decide_eq_true h)], rfl⟩
      · have h1 := of_decide_eq_false h
        refine ax_if ?_
        refine at_cmp (by first | exact nomark _ | rfl) ?_
        refine ax_var c 9 (by decide +kernel) rfl ?_
        refine ax_str ?_
        refine bd_eqs ?_
        refine ⟨_, rfl, ?_⟩
        refine iteB (fun h => ?_) (fun h => ?_)
        · refine ax_int ?_
          exact ⟨by rw [cLen, if_neg h1, if_pos (of_decide_eq_true h)], rfl⟩
        · have h2 := of_decide_eq_false h
          refine ax_bin ?_
          refine ax_int ?_
          refine ax_un ?_
          refine ax_bin ?_
          refine ax_un ?_
          refine ax_var c 10 (by decide +kernel) rfl ?_
          refine ud_neg ?_
          refine ax_int ?_
          refine bd_div ⟨by decide, by decide⟩ ?_
          refine ud_neg ?_
          refine bd_add ⟨?_, rfl⟩
          rw [cLen, if_neg h1, if_neg h2]
          exact congrArg D.int (by omega)
    -- again = cluster_of(text)
    refine ab_cons (as_set c hf 16 (by decide +kernel) ?_)
    refine ax_call c L.cof (by omega) (by decide +kernel) ?_
    refine aa_cons ?_
    refine ax_var c 14 (by decide +kernel) rfl ?_
    refine aa_nil ?_
    refine ⟨_, rfl, Nat.le_trans (cText_len hok) (by decide), fun k' m' hc => ?_, fun hc => by rw [cof_text hok] at hc; cases hc⟩
    rw [cof_text hok] at hc
    cases hc
    -- if cluster.text() != text or cluster.length() != long or (again.kind, again.many) != (kind, many):
    refine ab_one (as_if ?_)
    refine at_is false ?_ ?_
    · refine at_aw (aw_or ?_)
      refine at_cmp (by first | exact nomark _ | rfl) ?_
      refine ax_meth0 c L.text (by omega) ?_
      refine ax_var c 6 (by decide +kernel) rfl ?_
      refine ⟨_, _, rfl, rfl, ?_⟩
      refine ⟨_, kind, many, rfl, rfl, hok, ?_⟩
      refine ax_var c 14 (by decide +kernel) rfl ?_
      refine bd_nes ?_
      refine ⟨_, rfl, iteN (by simp) ?_⟩
      refine aw_or ?_
      refine at_cmp (by first | exact nomark _ | rfl) ?_
      refine ax_meth0 c L.length (by omega) ?_
      refine ax_var c 6 (by decide +kernel) rfl ?_
      refine ⟨_, _, rfl, rfl, ?_⟩
      refine ⟨_, kind, many, rfl, rfl, hok, ?_⟩
      refine ax_var c 15 (by decide +kernel) rfl ?_
      refine bd_nei ?_
      refine ⟨_, rfl, iteN (by simp) ?_⟩
      refine aw_or1 ?_
      refine at_cmp (by first | exact nomark _ | rfl) ?_
      refine ax_tup ?_
      refine aa_cons ?_
      refine ax_fld c ?_ -- again.kind
      refine ax_var c 16 (by decide +kernel) rfl ?_
      refine ⟨C, _, _, .str kind, rfl, G.cls, G.naK, rfl, ?_⟩
      refine aa_cons ?_
      refine ax_fld c ?_ -- again.many
      refine ax_var c 16 (by decide +kernel) rfl ?_
      refine ⟨C, _, _, .int many, rfl, G.cls, G.naM, rfl, ?_⟩
      refine aa_nil ?_
      refine ⟨by walk_at "ln", ?_⟩
      refine ax_tup ?_
      refine aa_cons ?_
      refine ax_var c 9 (by decide +kernel) rfl ?_
      refine aa_cons ?_
      refine ax_var c 10 (by decide +kernel) rfl ?_
      refine aa_nil ?_
      refine ⟨by walk_at "ln", ?_⟩
      have hso : PyData.strOk kind = true := by
        rcases okC_cases hok with ⟨e, _⟩ | ⟨e, _⟩ | ⟨e, _⟩ <;> rw [e] <;> decide +kernel
      have hsk : SeqAt.shaped (.tuple [.str kind, .int many]) = true := by
        show ((PyData.strOk kind && (true && true)) && decide (max 0 (max 0 0) + 1 ≤ 64)) = true
        rw [hso]
        rfl
      refine bd_neP c.hK hu (p := .tuple [.str kind, .int many]) (q := .tuple [.str kind, .int many]) rfl rfl hsk hsk ?_
      refine ⟨_, rfl, ?_, rfl⟩
      show (!((kind == kind) && ((many == many) && true))) = false
      simp
    refine iteN rfl ?_
    refine ab_nil ?_
    exact h _ _ _
  · exact ab_nil (h _ _ _)
end
end QD
set_option maxHeartbeats 4000000
namespace QD
open PySem PySem.Spec PyProof.Rows L2 GenW
set_option hygiene false
local macro_rules | `(tactic| walk_at "mulc") => `(tactic| first | exact .inl ⟨by decide, by decide⟩ | exact .inr ⟨by decide, by decide⟩ | exact .inl ⟨by omega, by omega⟩ | exact .inr ⟨by omega, by omega⟩)
local macro_rules | `(tactic| walk_at "ne") => `(tactic| first | assumption | (apply Ne.symm; assumption))
local macro_rules | `(tactic| walk_at "sto") => `(tactic| first | assumption | exact Sto.put_same | (refine (Sto.put_ne (by walk_at "ne")).trans ?_; walk_at "sto"))
local macro_rules | `(tactic| walk_at "vw") => `(tactic| first | rfl | assumption | exact view_lst (by walk_at "sto") | exact view_dct (by walk_at "sto") | exact view_dcu (by walk_at "sto") | exact view_ins (by walk_at "sto") | exact view_fdct (by walk_at "sto"))
local macro_rules | `(tactic| walk_at "ln") => `(tactic| first | decide | exact Nat.le_of_ble_eq_true rfl | (simp only [sizeLine_eq]; omega) | assumption)
local macro_rules | `(tactic| walk_at "bd") => `(tactic| first
  | refine bd_add ?_ | refine bd_sub ?_ | refine bd_mul (by walk_at "mulc") ?_ | refine bd_div ⟨by first | decide | omega, by first | decide | omega⟩ ?_ | refine bd_mod (by first | decide | omega) ?_
  | refine bd_pow ⟨by decide, by decide, by decide⟩ ?_ | refine bd_adds (by walk_at "ln") ?_
  | refine bd_eqi ?_ | refine bd_nei ?_ | refine bd_eqs ?_ | refine bd_nes ?_ | refine bd_eqb ?_ | refine bd_lt ?_ | refine bd_le ?_ | refine bd_gt ?_ | refine bd_ge ?_ | refine bd_isN ?_ | refine bd_notN ?_
  | refine bd_inC ?_ | refine bd_ninC ?_ | refine bd_inS ?_ | refine bd_ninS ?_
  | refine bd_eq rfl rfl rfl ?_ | refine bd_ne rfl rfl rfl ?_
  | refine bd_inK (hu_of c.room) (by walk_at "vw") ?_ | refine bd_ninK (hu_of c.room) (by walk_at "vw") ?_
  | refine bd_inQ c.hK rfl (by first | exact .inl (by walk_at "vw") | exact .inr (by walk_at "vw")) rfl ?_ | refine bd_ninQ c.hK rfl (by first | exact .inl (by walk_at "vw") | exact .inr (by walk_at "vw")) rfl ?_
  | refine bd_cat (by walk_at "vw") (by walk_at "vw") (by walk_at "ln") ?_)
local macro_rules | `(tactic| walk_at "id") => `(tactic| first
  | refine id_lst c.hK (by walk_at "vw") (by rfl) ?_ | refine id_tup c.hK (by walk_at "vw") (by rfl) ?_ | refine id_str (by walk_at "ln") (by rfl) ?_ | refine id_dct (hu_of c.room) (by walk_at "vw") (by rfl) ?_)
local macro_rules | `(tactic| walk_at "lg") => `(tactic| first | decide | (apply log_lt; omega) | assumption)
local macro_rules | `(tactic| walk_at "cd") => `(tactic| first
  | refine cd_lens (by walk_at "ln") ?_ | refine cd_len c.hK (.inl (by walk_at "vw")) ?_ | refine cd_len c.hK (.inr (by walk_at "vw")) ?_ | refine cd_int ?_ | refine cd_intb ?_ | refine cd_str (by walk_at "lg") ?_
  | refine cd_abs ?_ | refine cd_tupleF c.hK (by walk_at "vw") ?_)
local macro_rules | `(tactic| walk_at "fld") => `(tactic| refine ⟨_, _, _, _, by walk_at "vw", G.cls, by first | exact G.naK | exact G.naM, rfl, ?_⟩)
open TL
def toks : List Str := ["s3", "s1", "l4", "e", ".", "-", "l1", "x"]
section
variable {F : Fix} {C CK CT CQ : Addr} {X : Cx} {W : WX} {S : Sto} {K : AK} {Z : ZK}
theorem ax_rollG {N : List Str} {sc : Scope} {k : Nat} {Γ : Ga} {R : RK} (c : XC F N sc k X W) (GR : FOk F 1 "_law_roll" aRoll) (hk : 1 ≤ k) {dp : Addr} {a b z n : Int} {p1 p2 p3 p4 : Pos} {j : Nat} (hg : glB sc "_law_roll" = true) (hs : slotB N sc 1 "dice" = true) (hi : Γ[1]? = some (some (.ref dp))) (h1 : 1 ≤ n) (h2 : n ≤ 100000000) (hp : S dp = some (.lst [.int a, .int b, .int z]))
    (h : ∀ r a b z, 0 ≤ r → r < n → R (.int r) (S.put dp (.lst [.int a, .int b, .int z]))) : AX F.M X W (.Call (.Name "_law_roll" p1) [.Name "dice" p2, .Constant (.int n) j p3] [] p4) Γ S R Z := by
  refine ax_call c GR hk hg ?_
  refine aa_cons ?_
  refine ax_var c 1 hs hi ?_
  refine aa_cons ?_
  refine ax_int ?_
  refine aa_nil ?_
  exact ⟨dp, a, b, z, n, rfl, hp, h1, h2, fun r a' b' z' h3 h4 => h r a' b' z' h3 h4⟩
theorem tok_at {r : Int} (h0 : 0 ≤ r) (h1 : r < 8) : ∃ t : Str, t ∈ toks ∧ atI [D.str "s3", .str "s1", .str "l4", .str "e", .str ".", .str "-", .str "l1", .str "x"] r = some (.str t) := by
  have hr : r = 0 ∨ r = 1 ∨ r = 2 ∨ r = 3 ∨ r = 4 ∨ r = 5 ∨ r = 6 ∨ r = 7 := by omega
  rcases hr with rfl | rfl | rfl | rfl | rfl | rfl | rfl | rfl
  · exact ⟨"s3", by simp [toks], rfl⟩
  · exact ⟨"s1", by simp [toks], rfl⟩
  · exact ⟨"l4", by simp [toks], rfl⟩
  · exact ⟨"e", by simp [toks], rfl⟩
  · exact ⟨".", by simp [toks], rfl⟩
  · exact ⟨"-", by simp [toks], rfl⟩
  · exact ⟨"l1", by simp [toks], rfl⟩
  · exact ⟨"x", by simp [toks], rfl⟩
theorem tok_len {t : Str} (h : t ∈ toks) : t.length ≤ 2 := by
  have key : ∀ t ∈ toks, t.length ≤ 2 := by decide +kernel
  exact key t h
theorem toks_sum : ∀ {ps : List Str}, (∀ p ∈ ps, p ∈ toks) → (ps.map (·.length)).sum ≤ 2 * ps.length
  | [], _ => by simp
  | p :: ps, h => by
    have h1 := tok_len (h p (List.mem_cons_self ..))
    have h2 := toks_sum fun x hx => h x (List.mem_cons_of_mem _ hx)
    rw [List.map_cons, List.sum_cons, List.length_cons]
    omega
set_option hygiene false in
theorem law_e (c : XC F nLaw (defScope sLaw) 6 X W) (hf : ∀ x, X.fn x = true) (L : GL F C CK CT CQ) {dp : Addr} {a b z : Int} {x0 x2 x3 x4 x5 x6 x7 x8 x9 x10 x11 x12 x13 x14 x15 x16 x17 x18 x19 x20 x21 x22 x23 x24 : Option D}
    (h : ∀ (ps : List Str) (a b z : Int), (∀ p ∈ ps, p ∈ toks) → 1 ≤ ps.length → ps.length ≤ 4 → AB F.M X W (forB.drop 15) [x0, some (.ref dp), x2, x3, x4, x5, x6, x7, x8, x9, x10, x11, x12, x13, some (.str (Txt.join " " ps)), x15, x16, some (.lst (ps.map D.str)), x18, x19, x20, x21, x22, x23, x24] (dS S dp a b z) K Z) :
    AB F.M X W (forB.drop 13) [x0, some (.ref dp), x2, x3, x4, x5, x6, x7, x8, x9, x10, x11, x12, x13, x14, x15, x16, x17, x18, x19, x20, x21, x22, x23, x24] (dS S dp a b z) K Z := by
  have G := L.G
  have g_range := G.nb "range" (by decide)
  have c0 := c
  have hkind : X.env.scope.kind = .function := by rw [c.hs]; rfl
  -- parts = [[..][_law_roll(dice, 8)] for k in range(1 + _law_roll(dice, 4))]
  refine ab_cons (as_set c hf 17 (by decide +kernel) ?_ (hs := by have hs := c.hs; generalize X.env = e at hs ⊢; cases e; cases hs; rfl))
  refine ax_lc c [("k", 18)] (by decide +kernel) ?_
  refine ai_range1 c (by decide +kernel) g_range ?_
  refine ax_bin ?_
  refine ax_int ?_
  refine ax_roll c L.roll (by omega) (by decide +kernel) (by decide +kernel) rfl (by decide) (by decide) (fun r a b z h1 h1' => ?_)
  refine bd_add ?_
  refine ⟨_, rfl, by omega, by omega, ?_⟩
  obtain ⟨n, hn⟩ : ∃ n : Nat, (1 + r).toNat = n := ⟨_, rfl⟩
  rw [hn]
  have hlen : (intsUp 0 n).length = n := by simp [intsUp]
  refine ⟨by rw [hlen, sizeLine_eq]; omega, fun l hl => ⟨fun i acc S' => ∃ ps : List Str, acc = ps.map D.str ∧ ps.length = i ∧ (∀ p ∈ ps, p ∈ toks) ∧ ∃ a b z, S' = (dS S dp a b z).put l (.lst acc), ⟨[], rfl, rfl, by simp, a, b, z, rfl⟩, fun i d acc S' hd hP _ => ?_, fun acc S' hP => ?_⟩⟩
  · obtain ⟨ps, rfl, hi, hps, a, b, z, rfl⟩ := hP
    have hdl : dp ≠ l := fun e => by rw [← e] at hl; unfold dS at hl; rw [Sto.put_same] at hl; cases hl
    refine ⟨trivial, fun Y hY => ?_⟩
    have c := c0.isblk hY
    refine ao_name c 18 (by decide +kernel) (by decide) ?_
    intro Y hY
    refine ats_nil (iteY rfl ?_)
    intro Y hY
    have c := c0.isblk hY
    refine ax_ix (fun _ _ => rfl) ?_
    refine ax_lst ?_
    refine aa_cons ?_
    refine ax_str ?_
    refine aa_cons ?_
    refine ax_str ?_
    refine aa_cons ?_
    refine ax_str ?_
    refine aa_cons ?_
    refine ax_str ?_
    refine aa_cons ?_
    refine ax_str ?_
    refine aa_cons ?_
    refine ax_str ?_
    refine aa_cons ?_
    refine ax_str ?_
    refine aa_cons ?_
    refine ax_str ?_
    refine aa_nil ?_
    refine ⟨by walk_at "ln", ?_⟩
    refine ax_rollG c L.roll (by omega) (by decide +kernel) (by decide +kernel) rfl (by decide) (by decide) (by rw [Sto.put_ne hdl]; unfold dS; exact Sto.put_same) (fun r a' b' z' h1 h1' => ?_)
    obtain ⟨t, ht, hat⟩ := tok_at h1 h1'
    refine id_lst c.hK rfl hat ?_
    refine ⟨by rw [Sto.put_ne (Ne.symm hdl), Sto.put_same], ps ++ [t], by rw [List.map_append]; rfl, by simp [hi], fun p hp => ?_, a', b', z', ?_⟩
    · rcases List.mem_append.mp hp with hp | hp
      · exact hps p hp
      · rw [List.mem_singleton.mp hp]; exact ht
    · unfold dS; rw [Sto.put_comm (Ne.symm hdl), Sto.put_put, Sto.put_put]
  · obtain ⟨ps, rfl, hi, hps, a, b, z, rfl⟩ := hP
    rw [hlen] at hi
    have hdl : dp ≠ l := fun e => by rw [← e] at hl; unfold dS at hl; rw [Sto.put_same] at hl; cases hl
    refine ⟨trivial, .inr ⟨Sto.put_same, ?_⟩⟩
    rw [Sto.del_put (by unfold dS at hl ⊢; rw [Sto.put_ne (Ne.symm hdl)] at hl ⊢; exact hl)]
    show AB F.M X W _ [x0, some (.ref dp), x2, x3, x4, x5, x6, x7, x8, x9, x10, x11, x12, x13, x14, x15, x16, some (.lst (ps.map D.str)), x18, x19, x20, x21, x22, x23, x24] (dS S dp a b z) K Z
    -- text = ' '.join(parts)
    refine ab_cons (as_set c hf 14 (by decide +kernel) ?_)
    refine ax_join ?_
    refine ax_str ?_
    refine ⟨_, rfl, ?_⟩
    refine ax_var c 17 (by decide +kernel) rfl ?_
    refine ⟨ps, rfl, ?_, ?_⟩
    · have h1 := toks_sum hps
      have h3 : (Str.ofString " ").length = 1 := by decide +kernel
      rw [h3]
      omega
    · exact h ps a b z hps (by omega) (by omega)
end
end QD
set_option maxHeartbeats 4000000
namespace QD
open PySem PySem.Spec PyProof.Rows L2 GenW
set_option hygiene false
local macro_rules | `(tactic| walk_at "mulc") => `(tactic| first | exact .inl ⟨by decide, by decide⟩ | exact .inr ⟨by decide, by decide⟩ | exact .inl ⟨by omega, by omega⟩ | exact .inr ⟨by omega, by omega⟩)
local macro_rules | `(tactic| walk_at "ne") => `(tactic| first | assumption | (apply Ne.symm; assumption))
local macro_rules | `(tactic| walk_at "sto") => `(tactic| first | assumption | exact Sto.put_same | (refine (Sto.put_ne (by walk_at "ne")).trans ?_; walk_at "sto"))
local macro_rules | `(tactic| walk_at "vw") => `(tactic| first | rfl | assumption | exact view_lst (by walk_at "sto") | exact view_dct (by walk_at "sto") | exact view_dcu (by walk_at "sto") | exact view_ins (by walk_at "sto") | exact view_fdct (by walk_at "sto"))
local macro_rules | `(tactic| walk_at "ln") => `(tactic| first | decide | exact Nat.le_of_ble_eq_true rfl | (simp only [sizeLine_eq]; omega) | assumption)
local macro_rules | `(tactic| walk_at "bd") => `(tactic| first
  | refine bd_add ?_ | refine bd_sub ?_ | refine bd_mul (by walk_at "mulc") ?_ | refine bd_div ⟨by first | decide | omega, by first | decide | omega⟩ ?_ | refine bd_mod (by first | decide | omega) ?_
  | refine bd_pow ⟨by decide, by decide, by decide⟩ ?_ | refine bd_adds (by walk_at "ln") ?_
  | refine bd_eqi ?_ | refine bd_nei ?_ | refine bd_eqs ?_ | refine bd_nes ?_ | refine bd_eqb ?_ | refine bd_lt ?_ | refine bd_le ?_ | refine bd_gt ?_ | refine bd_ge ?_ | refine bd_isN ?_ | refine bd_notN ?_
  | refine bd_inC ?_ | refine bd_ninC ?_ | refine bd_inS ?_ | refine bd_ninS ?_
  | refine bd_eq rfl rfl rfl ?_ | refine bd_ne rfl rfl rfl ?_
  | refine bd_inK (hu_of c.room) (by walk_at "vw") ?_ | refine bd_ninK (hu_of c.room) (by walk_at "vw") ?_
  | refine bd_inQ c.hK rfl (by first | exact .inl (by walk_at "vw") | exact .inr (by walk_at "vw")) rfl ?_ | refine bd_ninQ c.hK rfl (by first | exact .inl (by walk_at "vw") | exact .inr (by walk_at "vw")) rfl ?_
  | refine bd_cat (by walk_at "vw") (by walk_at "vw") (by walk_at "ln") ?_)
local macro_rules | `(tactic| walk_at "id") => `(tactic| first
  | refine id_lst c.hK (by walk_at "vw") (by rfl) ?_ | refine id_tup c.hK (by walk_at "vw") (by rfl) ?_ | refine id_str (by walk_at "ln") (by rfl) ?_ | refine id_dct (hu_of c.room) (by walk_at "vw") (by rfl) ?_)
local macro_rules | `(tactic| walk_at "lg") => `(tactic| first | decide | (apply log_lt; omega) | assumption)
local macro_rules | `(tactic| walk_at "cd") => `(tactic| first
  | refine cd_lens (by walk_at "ln") ?_ | refine cd_len c.hK (.inl (by walk_at "vw")) ?_ | refine cd_len c.hK (.inr (by walk_at "vw")) ?_ | refine cd_int ?_ | refine cd_intb ?_ | refine cd_str (by walk_at "lg") ?_
  | refine cd_abs ?_ | refine cd_tupleF c.hK (by walk_at "vw") ?_)
local macro_rules | `(tactic| walk_at "fld") => `(tactic| refine ⟨_, _, _, _, by walk_at "vw", G.cls, by first | exact G.naK | exact G.naM, rfl, ?_⟩)
open TL
section
theorem inV_str {x : Str} (ps : List Str) : inV (.str x) (ps.map V.str) = decide (x ∈ ps) := by
  induction ps with
  | nil => simp [inV]
  | cons p ps ih =>
    have e : inV (.str x) ((p :: ps).map V.str) = ((p == x) || inV (.str x) (ps.map V.str)) := rfl
    rw [e, ih]
    by_cases h : x = p
    · subst h; simp
    · have h2 : (p == x) = false := by simpa using fun z => h z.symm
      rw [h2]
      simp [h]
def okOne (ps : List Str) (t : Str) (one : Nat) : Bool := (decide (one % 10 = 0 ∨ one % 10 = 1 ∨ one % 10 = 4) && decide ((dgs one).length = ps.length)) && decide (lawText one = t)
def fitsOf (ps : List Str) (t : Str) : List Int := if ("-" : Str) ∈ ps then (if t = "-" then [0] else []) else ((List.range 10000).filter (okOne ps t)).map fun (one : Nat) => (one : Int)
theorem tok_sp {p : Str} (h : p ∈ toks) : 32 ∉ tl p := by
  have key : ∀ p ∈ toks, 32 ∉ tl p := by decide +kernel
  exact key p h
theorem tok_split {ps : List Str} (h : ∀ p ∈ ps, p ∈ toks) (hl : 1 ≤ ps.length) : Txt.split (Txt.join " " ps) " " = ps :=
  TL.split_join (s := 32) (S := []) (by decide +kernel) (by decide +kernel) (by intro e; rw [e] at hl; cases hl) (fun p hp => tok_sp (h p hp))
theorem dash_split : Txt.split ("-" : Str) " " = (["-"] : List Str) := by
  have := TL.split_join (y := (" " : Str)) (s := 32) (S := []) (by decide +kernel) (by decide +kernel) (parts := ["-"]) (by simp) (by intro p hp; rw [List.mem_singleton.mp hp]; decide +kernel)
  exact this
theorem last_dgs (n : Nat) : ∃ l, dgs n = l ++ [n % 10] := by
  by_cases h : n < 10
  · exact ⟨[], by rw [dgs_small h, Nat.mod_eq_of_lt h]; rfl⟩
  · exact ⟨dgs (n / 10), dgs_step (by omega)⟩
theorem fits_ok {ps : List Str} (hps : ∀ p ∈ ps, p ∈ toks) (h1 : 1 ≤ ps.length) (h4 : ps.length ≤ 4) :
    (fitsOf ps (Txt.join " " ps) = [] → rdk (Txt.join " " ps) = none) ∧ ∀ x r, fitsOf ps (Txt.join " " ps) = x :: r → rdk (Txt.join " " ps) = some x := by
  have hsp := tok_split hps h1
  have hne : ps ≠ [] := fun e => by rw [e] at h1; cases h1
  generalize Txt.join " " ps = t at hsp
  have hdash : t = "-" → ps = (["-"] : List Str) := fun e => by rw [e, dash_split] at hsp; exact hsp.symm
  unfold fitsOf
  by_cases hd : ("-" : Str) ∈ ps
  · rw [if_pos hd]
    by_cases ht : t = "-"
    · rw [if_pos ht]
      refine ⟨fun e => (by cases e), fun x r e => ?_⟩
      cases e
      rw [rdk, if_pos ht]
    · rw [if_neg ht]
      refine ⟨fun _ => ?_, fun x r e => by cases e⟩
      rw [rdk, if_neg ht, hsp]
      cases hr : rdP ps with
      | none => rfl
      | some v =>
        obtain ⟨n, _, n0, e⟩ := rdP_back hne hr
        rw [e] at hd
        obtain ⟨j, hj, ej⟩ := List.mem_iff_getElem.mp hd
        have h2 := ptN_get (dgs n) j
        rw [List.getElem?_eq_getElem hj, ej] at h2
        rw [ptN_len] at hj
        rw [List.getElem?_eq_getElem hj] at h2
        have h3 := Option.some.inj h2
        have h9 := dgs_lt (List.getElem_mem hj)
        generalize (dgs n)[j] = d at h3 h9
        generalize (dgs n).length - 1 - j = q at h3
        by_cases d0 : d = 0
        · rw [pt, if_pos d0] at h3
          exact absurd h3 (by decide +kernel)
        · have h4 := cof_pt (p := q) d0 h9
          rw [← h3] at h4
          have h5 : cof "-" = none := by decide +kernel
          rw [h5] at h4
          cases h4
  · rw [if_neg hd]
    have ht : t ≠ "-" := fun e => hd (by rw [hdash e]; simp)
    have hin : ∀ one ∈ (List.range 10000).filter (okOne ps t), rdk t = some (one : Int) := fun one h => by
      obtain ⟨h2, h3⟩ := List.mem_filter.mp h
      unfold okOne at h3
      rw [Bool.and_eq_true] at h3
      have h4 := of_decide_eq_true h3.2
      rw [← h4]
      exact lt_read (Nat.lt_trans (List.mem_range.mp h2) (by decide))
    refine ⟨fun e => ?_, fun x r e => ?_⟩
    · rw [List.map_eq_nil_iff] at e
      cases hr : rdk t with
      | none => rfl
      | some v =>
        rw [rdk, if_neg ht, hsp] at hr
        obtain ⟨n, rfl, n0, en⟩ := rdP_back hne hr
        have hl : (dgs n).length = ps.length := by rw [en, ptN_len]
        have hn4 : n < 10 ^ 4 := (dgs_len (by decide)).mp (by omega)
        have hmem : n ∈ (List.range 10000).filter (okOne ps t) := by
          refine List.mem_filter.mpr ⟨List.mem_range.mpr hn4, ?_⟩
          have e1 : n % 10 = 0 ∨ n % 10 = 1 ∨ n % 10 = 4 := by
            obtain ⟨l, el⟩ := last_dgs n
            have h2 := ptN_get (dgs n) ((dgs n).length - 1)
            have hlt : 0 < (dgs n).length := by omega
            have h3 : (dgs n)[(dgs n).length - 1]? = some (n % 10) := by
              rw [el, List.length_append]
              simp
            rw [h3, show (dgs n).length - 1 - ((dgs n).length - 1) = 0 by omega] at h2
            have h5 : pt 0 (n % 10) ∈ ps := by
              rw [en]
              exact List.mem_of_getElem? h2
            have h6 := hps _ h5
            have key : ∀ d : Fin 10, pt 0 d.val ∈ toks → d.val = 0 ∨ d.val = 1 ∨ d.val = 4 := by decide +kernel
            exact key ⟨n % 10, Nat.mod_lt _ (by decide)⟩ h6
          have e2 : lawText n = t := by
            have h2 := lt_parts (Nat.lt_trans hn4 (by decide)) n0
            rw [← en] at h2
            have h3 := PySem.StrLaws.join_split t " "
            have h4 := PySem.StrLaws.join_split (lawText n) " "
            rw [hsp] at h3
            rw [h2] at h4
            rw [← h4, h3]
          unfold okOne
          rw [decide_eq_true e1, decide_eq_true hl, decide_eq_true e2]
          rfl
        rw [e] at hmem
        cases hmem
    · obtain ⟨one, l, e2, rfl, _⟩ := List.map_eq_cons_iff.mp e
      exact hin one (by rw [e2]; simp)
end
end QD
set_option maxHeartbeats 4000000
namespace QD
open PySem PySem.Spec PyProof.Rows L2 GenW
set_option hygiene false
local macro_rules | `(tactic| walk_at "mulc") => `(tactic| first | exact .inl ⟨by decide, by decide⟩ | exact .inr ⟨by decide, by decide⟩ | exact .inl ⟨by omega, by omega⟩ | exact .inr ⟨by omega, by omega⟩)
local macro_rules | `(tactic| walk_at "ne") => `(tactic| first | assumption | (apply Ne.symm; assumption))
local macro_rules | `(tactic| walk_at "sto") => `(tactic| first | assumption | exact Sto.put_same | (refine (Sto.put_ne (by walk_at "ne")).trans ?_; walk_at "sto"))
local macro_rules | `(tactic| walk_at "vw") => `(tactic| first | rfl | assumption | exact view_lst (by walk_at "sto") | exact view_dct (by walk_at "sto") | exact view_dcu (by walk_at "sto") | exact view_ins (by walk_at "sto") | exact view_fdct (by walk_at "sto"))
local macro_rules | `(tactic| walk_at "ln") => `(tactic| first | decide | exact Nat.le_of_ble_eq_true rfl | (simp only [sizeLine_eq]; omega) | assumption)
local macro_rules | `(tactic| walk_at "bd") => `(tactic| first
  | refine bd_add ?_ | refine bd_sub ?_ | refine bd_mul (by walk_at "mulc") ?_ | refine bd_div ⟨by first | decide | omega, by first | decide | omega⟩ ?_ | refine bd_mod (by first | decide | omega) ?_
  | refine bd_pow ⟨by decide, by decide, by decide⟩ ?_ | refine bd_adds (by walk_at "ln") ?_
  | refine bd_eqi ?_ | refine bd_nei ?_ | refine bd_eqs ?_ | refine bd_nes ?_ | refine bd_eqb ?_ | refine bd_lt ?_ | refine bd_le ?_ | refine bd_gt ?_ | refine bd_ge ?_ | refine bd_isN ?_ | refine bd_notN ?_
  | refine bd_inC ?_ | refine bd_ninC ?_ | refine bd_inS ?_ | refine bd_ninS ?_
  | refine bd_eq rfl rfl rfl ?_ | refine bd_ne rfl rfl rfl ?_
  | refine bd_inK (hu_of c.room) (by walk_at "vw") ?_ | refine bd_ninK (hu_of c.room) (by walk_at "vw") ?_
  | refine bd_inQ c.hK rfl (by first | exact .inl (by walk_at "vw") | exact .inr (by walk_at "vw")) rfl ?_ | refine bd_ninQ c.hK rfl (by first | exact .inl (by walk_at "vw") | exact .inr (by walk_at "vw")) rfl ?_
  | refine bd_cat (by walk_at "vw") (by walk_at "vw") (by walk_at "ln") ?_)
local macro_rules | `(tactic| walk_at "id") => `(tactic| first
  | refine id_lst c.hK (by walk_at "vw") (by rfl) ?_ | refine id_tup c.hK (by walk_at "vw") (by rfl) ?_ | refine id_str (by walk_at "ln") (by rfl) ?_ | refine id_dct (hu_of c.room) (by walk_at "vw") (by rfl) ?_)
local macro_rules | `(tactic| walk_at "lg") => `(tactic| first | decide | (apply log_lt; omega) | assumption)
local macro_rules | `(tactic| walk_at "cd") => `(tactic| first
  | refine cd_lens (by walk_at "ln") ?_ | refine cd_len c.hK (.inl (by walk_at "vw")) ?_ | refine cd_len c.hK (.inr (by walk_at "vw")) ?_ | refine cd_int ?_ | refine cd_intb ?_ | refine cd_str (by walk_at "lg") ?_
  | refine cd_abs ?_ | refine cd_tupleF c.hK (by walk_at "vw") ?_)
local macro_rules | `(tactic| walk_at "fld") => `(tactic| refine ⟨_, _, _, _, by walk_at "vw", G.cls, by first | exact G.naK | exact G.naM, rfl, ?_⟩)
open TL
section
variable {F : Fix} {C CK CT CQ : Addr} {X : Cx} {W : WX} {S : Sto} {K : AK} {Z : ZK}
/-- what told gives of reading -/
def toldR (t : Str) : D := match rdk t with
  | some v => .int v
  | none => .str "QuipuError"
theorem toldR_some {t : Str} {v : Int} (h : rdk t = some v) : toldR t = .int v := by unfold toldR; rw [h]
theorem toldR_none {t : Str} (h : rdk t = none) : toldR t = .str "QuipuError" := by unfold toldR; rw [h]
theorem filterMap_ite {α : Type} (p : α → Bool) (f : α → D) : ∀ xs : List α, (xs.map fun x => if p x = true then some (f x) else none).filterMap id = (xs.filter p).map f
  | [] => rfl
  | x :: xs => by
    rw [List.map_cons, List.filterMap_cons]
    cases h : p x with
    | true => rw [List.filter_cons_of_pos h, List.map_cons, ← filterMap_ite p f xs]; rfl
    | false => rw [List.filter_cons_of_neg (by rw [h]; decide), ← filterMap_ite p f xs]; rfl
theorem inV_014 {x : Nat} : inV (.int ((x : Int) % 10)) [.int 0, .int 1, .int 4] = decide (x % 10 = 0 ∨ x % 10 = 1 ∨ x % 10 = 4) := by
  have e : inV (.int ((x : Int) % 10)) [.int 0, .int 1, .int 4] = (((0 : Int) == (x : Int) % 10) || (((1 : Int) == (x : Int) % 10) || (((4 : Int) == (x : Int) % 10) || false))) := rfl
  rw [e]
  have h1 : ((0 : Int) == (x : Int) % 10) = decide (x % 10 = 0) := by rw [Bool.beq_eq_decide_eq]; exact decide_eq_decide.mpr (by omega)
  have h2 : ((1 : Int) == (x : Int) % 10) = decide (x % 10 = 1) := by rw [Bool.beq_eq_decide_eq]; exact decide_eq_decide.mpr (by omega)
  have h3 : ((4 : Int) == (x : Int) % 10) = decide (x % 10 = 4) := by rw [Bool.beq_eq_decide_eq]; exact decide_eq_decide.mpr (by omega)
  rw [h1, h2, h3, Bool.or_false, ← Bool.decide_or, ← Bool.decide_or]
set_option hygiene false in
theorem law_f (c : XC F nLaw (defScope sLaw) 6 X W) (hf : ∀ x, X.fn x = true) (L : GL F C CK CT CQ) {dp : Addr} {a b z : Int} {ps : List Str} {t : Str} {x0 x2 x3 x4 x5 x6 x7 x8 x9 x10 x11 x12 x13 x15 x16 x18 x19 x20 x21 x22 x23 x24 : Option D} (hps : ∀ p ∈ ps, p ∈ toks) (h1 : 1 ≤ ps.length) (h4 : ps.length ≤ 4)
    (h : AB F.M X W (forB.drop 16) [x0, some (.ref dp), x2, x3, x4, x5, x6, x7, x8, x9, x10, x11, x12, x13, some (.str t), x15, x16, some (.lst (ps.map D.str)), x18, some (.lst ((fitsOf ps t).map D.int)), x20, x21, x22, x23, x24] (dS S dp a b z) K Z) :
    AB F.M X W (forB.drop 15) [x0, some (.ref dp), x2, x3, x4, x5, x6, x7, x8, x9, x10, x11, x12, x13, some (.str t), x15, x16, some (.lst (ps.map D.str)), x18, x19, x20, x21, x22, x23, x24] (dS S dp a b z) K Z := by
  have G := L.G
  have g_range := G.nb "range" (by decide)
  have g_len := G.nb "len" (by decide)
  have g_str := G.nb "str" (by decide)
  have g_int := G.nb "int" (by decide)
  have c0 := c
  refine ab_cons (as_set c hf 19 (by decide +kernel) ?_)
  refine ax_is (.lst ((fitsOf ps t).map D.int)) ?_ h
  refine ax_if ?_
  refine at_cmp (by first | exact nomark _ | rfl) ?_
  refine ax_str ?_
  refine ax_var c 17 (by decide +kernel) rfl ?_
  refine bd_ninQ c.hK (x := .str "-") (xs := ps.map V.str) rfl (.inl rfl) (by rw [List.map_map, List.map_map]; rfl) ?_
  rw [inV_str]
  refine ⟨_, rfl, ?_⟩
  refine iteB (fun hd => ?_) (fun hd => ?_)
  · have hd : ¬ ("-" : Str) ∈ ps := of_decide_eq_false (by rw [Bool.not_eq_true'] at hd; exact hd)
    have ef : fitsOf ps t = ((List.range 10000).filter (okOne ps t)).map fun (one : Nat) => (one : Int) := by unfold fitsOf; rw [if_neg hd]
    rw [ef, List.map_map]
    refine ax_lc c [("one", 20)] (by decide +kernel) ?_
    refine ai_range1 c (by decide +kernel) g_range ?_
    refine ax_int ?_
    refine ⟨_, rfl, by decide, by decide, ?_⟩
    have hlen : (intsUp 0 (10000 : Int).toNat).length = 10000 := by simp [intsUp]
    refine lcq_pure (fs := (List.range 10000).map fun one => if okOne ps t one = true then some (D.int (one : Nat)) else none) (by rw [hlen]; simp) (by rw [hlen]; decide) (fun _ _ => trivial) (fun i d o hd ho S' hS Y hY => ?_) ?_
    · have c := c0.isblk hY
      have hi : i < 10000 := by rw [← hlen]; exact (List.getElem?_eq_some_iff.mp hd).1
      have hdd : d = .int (i : Nat) := by
        have e : (intsUp 0 (10000 : Int).toNat)[i]? = some (.int (0 + (i : Int))) := by
          unfold intsUp
          rw [show (10000 : Int).toNat = 10000 from rfl, List.getElem?_map, List.getElem?_range hi]
          rfl
        rw [e] at hd
        rw [← Option.some.inj hd, Int.zero_add]
      have hoo : o = if okOne ps t i = true then some (D.int (i : Nat)) else none := by
        rw [List.getElem?_map, List.getElem?_range hi] at ho
        exact (Option.some.inj ho).symm
      subst hdd
      rw [hoo]
      have h6 : i < 10 ^ 6 := by omega
      have hl6 : (dgs i).length ≤ 6 := (dgs_len (by decide)).mpr h6
      have e1 : (sg ((i : Nat) : Int)).length = (dgs i).length := sg_length i
      refine ao_name c 20 (by decide +kernel) (by decide) ?_
      refine ⟨rfl, fun Y hY => ?_⟩
      have c := c0.isblk hY
      refine ats_one ?_
      refine at_is (okOne ps t i) ?_ ?_
      · refine at_aw (aw_and ?_)
        refine at_cmp (by first | exact nomark _ | rfl) ?_
        refine ax_bin ?_
        refine ax_var c 20 (by decide +kernel) rfl ?_
        refine ax_int ?_
        refine bd_mod (by decide) ?_
        refine ax_lst ?_
        refine aa_cons ?_
        refine ax_int ?_
        refine aa_cons ?_
        refine ax_int ?_
        refine aa_cons ?_
        refine ax_int ?_
        refine aa_nil ?_
        refine ⟨by walk_at "ln", ?_⟩
        refine bd_inQ c.hK (x := .int ((i : Int) % 10)) (xs := [.int 0, .int 1, .int 4]) rfl (.inl rfl) rfl ?_
        rw [inV_014]
        refine ⟨_, rfl, ?_⟩
        unfold okOne
        refine iteB (fun hx => ?_) (fun hx => ?_)
        · rw [hx, Bool.true_and]
          refine aw_and ?_
          refine at_cmp (by first | exact nomark _ | rfl) ?_
          refine ax_bi c (by decide +kernel) g_len rfl ?_
          refine aa_cons ?_
          refine ax_ty c (by decide +kernel) g_str rfl ?_
          refine aa_cons ?_
          refine ax_var c 20 (by decide +kernel) rfl ?_
          refine aa_nil ?_
          refine cd_str (by apply log_lt <;> omega) ?_
          refine aa_nil ?_
          refine cd_lens (by rw [e1, sizeLine_eq]; omega) ?_
          refine ax_bi c (by decide +kernel) g_len rfl ?_
          refine aa_cons ?_
          refine ax_var c 17 (by decide +kernel) rfl ?_
          refine aa_nil ?_
          refine cd_len c.hK (.inl rfl) ?_
          refine bd_eqi ?_
          refine ⟨_, rfl, ?_⟩
          rw [e1, List.length_map, show decide (((dgs i).length : Int) = (ps.length : Int)) = decide ((dgs i).length = ps.length) from decide_eq_decide.mpr (by omega)]
          refine iteB (fun hy => ?_) (fun hy => ?_)
          · rw [hy, Bool.true_and]
            refine aw_and1 ?_
            refine at_cmp (by first | exact nomark _ | rfl) ?_
            refine ax_call c L.lt (by omega) (by decide +kernel) ?_
            refine aa_cons ?_
            refine ax_var c 20 (by decide +kernel) rfl ?_
            refine aa_nil ?_
            refine ⟨i, rfl, h6, ?_⟩
            refine ax_var c 14 (by decide +kernel) rfl ?_
            refine bd_eqs ?_
            exact ⟨_, rfl, rfl, rfl⟩
          · rw [hy]
            exact ⟨rfl, rfl⟩
        · rw [hx]
          exact ⟨rfl, rfl⟩
      · refine ⟨rfl, iteB (fun hx => ?_) (fun hx => ?_)⟩
        · intro Y hY
          have c := c0.isblk hY
          refine ax_var c 20 (by decide +kernel) rfl ⟨rfl, ?_⟩
          rw [if_pos hx]
        · rw [if_neg (by rw [hx]; decide)]
    · rw [filterMap_ite]
      exact ⟨rfl, rfl⟩
  · have hd : ("-" : Str) ∈ ps := of_decide_eq_true (by rw [Bool.not_eq_false'] at hd; exact hd)
    have ef : fitsOf ps t = if t = "-" then [0] else [] := by unfold fitsOf; rw [if_pos hd]
    rw [ef]
    refine ax_bin ?_
    refine ax_lst ?_
    refine aa_cons ?_
    refine ax_int ?_
    refine aa_nil ?_
    refine ⟨by walk_at "ln", ?_⟩
    refine ax_ty c (by decide +kernel) g_int rfl ?_
    refine aa_cons ?_
    refine ax_cmp (by first | exact nomark _ | rfl) ?_
    refine ax_var c 14 (by decide +kernel) rfl ?_
    refine ax_str ?_
    refine bd_eqs ?_
    refine aa_nil ?_
    refine cd_intb ?_
    refine bd_rep (xs := [.int 0]) rfl (by split <;> decide) (by split <;> decide) (by split <;> exact Nat.le_of_ble_eq_true rfl) ?_
    by_cases ht : t = "-"
    · rw [if_pos ht, decide_eq_true ht]
      exact ⟨rfl, rfl⟩
    · rw [if_neg ht, decide_eq_false ht]
      exact ⟨rfl, rfl⟩
set_option hygiene false in
theorem law_g (c : XC F nLaw (defScope sLaw) 6 X W) (hf : ∀ x, X.fn x = true) (L : GL F C CK CT CQ) (HL : XL F X) {dp : Addr} {a b z : Int} {ps : List Str} {x0 x2 x3 x4 x5 x6 x7 x8 x9 x10 x11 x12 x13 x15 x16 x17 x18 x20 x21 x22 x23 x24 : Option D} (hps : ∀ p ∈ ps, p ∈ toks) (h1 : 1 ≤ ps.length) (h4 : ps.length ≤ 4)
    (h : AB F.M X W (forB.drop 17) [x0, some (.ref dp), x2, x3, x4, x5, x6, x7, x8, x9, x10, x11, x12, x13, some (.str (Txt.join " " ps)), x15, x16, x17, x18, some (.lst ((fitsOf ps (Txt.join " " ps)).map D.int)), x20, x21, x22, x23, x24] (dS S dp a b z) K Z) :
    AB F.M X W (forB.drop 16) [x0, some (.ref dp), x2, x3, x4, x5, x6, x7, x8, x9, x10, x11, x12, x13, some (.str (Txt.join " " ps)), x15, x16, x17, x18, some (.lst ((fitsOf ps (Txt.join " " ps)).map D.int)), x20, x21, x22, x23, x24] (dS S dp a b z) K Z := by
  have G := L.G
  have hu : X.A.units + 64 < cLine := by have := c.room.un; omega
  obtain ⟨f0, f1⟩ := fits_ok hps h1 h4
  have hsp := tok_split hps h1
  have hlen : (Txt.join " " ps).length ≤ 100 := by
    have h5 := StrLaws.join_length_le " " ps
    have h2 := toks_sum hps
    have h3 : (Str.ofString " ").length = 1 := by decide +kernel
    rw [h3] at h5
    rw [TL.join_eq]
    omega
  generalize Txt.join " " ps = t at *
  -- if _law_told(lambda: read_knots(text)) != (fits[0] if fits != [] else 'QuipuError'):
  refine ab_cons (as_if ?_)
  refine at_is false ?_ ?_
  · refine at_cmp (by first | exact nomark _ | rfl) ?_
    refine ax_is (toldR t) ?_ ?_
    · refine ax_told (k := 4) c HL L.told (by decide +kernel) (by decide +kernel) rfl (by intros; rfl) (fun Y WY hY => ?_)
      have cY := hY.1
      rw [c.hN] at cY
      refine ax_call cY L.rd (by omega) (by decide +kernel) ?_
      refine aa_cons ?_
      refine ax_var cY 14 (by decide +kernel) rfl ?_
      refine aa_nil ?_
      refine ⟨t, rfl, by rw [sizeLine_eq]; omega, fun _ => ?_, fun v hv => ⟨(toldR_some hv).symm, rfl⟩, fun hn => ⟨⟨G.exK, (toldR_none hn).symm, rfl⟩, ⟨G.exT, (toldR_none hn).symm, rfl⟩⟩⟩
      rw [hsp]
      refine ⟨fun e => (by rw [e] at h1; cases h1), fun p hp => ?_⟩
      have := tok_len (hps p hp)
      rw [sizeLine_eq]
      omega
    · refine ax_is (toldR t) ?_ ?_
      · refine ax_if ?_
        refine at_cmp (by first | exact nomark _ | rfl) ?_
        refine ax_var c 19 (by decide +kernel) rfl ?_
        refine ax_lst ?_
        refine aa_nil ?_
        refine ⟨by walk_at "ln", ?_⟩
        have hP : toP (.lst ((fitsOf ps t).map D.int)) = some (.list ((fitsOf ps t).map PyData.int)) := by
          show (toPs ((fitsOf ps t).map D.int)).map PyData.list = _
          rw [toPs_map (g := PyData.int) (fun x => rfl)]
          rfl
        refine bd_neP c.hK hu (q := .list []) hP rfl (shaped_list (n := 0) (fun x _ => ⟨rfl, Nat.le_refl _⟩) (by decide)) rfl ?_
        refine ⟨_, rfl, ?_⟩
        cases hfi : fitsOf ps t with
        | nil =>
          refine iteN rfl ?_
          exact ax_str ⟨(toldR_none (f0 hfi)).symm, rfl⟩
        | cons x r =>
          refine iteY rfl ?_
          refine ax_ix (fun _ _ => rfl) ?_
          refine ax_var c 19 (by decide +kernel) rfl ?_
          refine ax_int ?_
          refine id_lst c.hK (ds := (x :: r).map D.int) (x := .int x) rfl (atI_nat (i := 0) rfl) ?_
          exact ⟨(toldR_some (f1 x r hfi)).symm, rfl⟩
      · unfold toldR
        cases rdk t with
        | none => exact bd_nes ⟨_, rfl, by simp, rfl⟩
        | some v => exact bd_nei ⟨_, rfl, by simp, rfl⟩
  refine iteN rfl ?_
  exact ab_nil h
end
end QD
set_option maxHeartbeats 4000000
namespace QD
open PySem PySem.Spec PyProof.Rows L2 GenW
set_option hygiene false
local macro_rules | `(tactic| walk_at "mulc") => `(tactic| first | exact .inl ⟨by decide, by decide⟩ | exact .inr ⟨by decide, by decide⟩ | exact .inl ⟨by omega, by omega⟩ | exact .inr ⟨by omega, by omega⟩)
local macro_rules | `(tactic| walk_at "ne") => `(tactic| first | assumption | (apply Ne.symm; assumption))
local macro_rules | `(tactic| walk_at "sto") => `(tactic| first | assumption | exact Sto.put_same | (refine (Sto.put_ne (by walk_at "ne")).trans ?_; walk_at "sto"))
local macro_rules | `(tactic| walk_at "vw") => `(tactic| first | rfl | assumption | exact view_lst (by walk_at "sto") | exact view_dct (by walk_at "sto") | exact view_dcu (by walk_at "sto") | exact view_ins (by walk_at "sto") | exact view_fdct (by walk_at "sto"))
local macro_rules | `(tactic| walk_at "ln") => `(tactic| first | decide | exact Nat.le_of_ble_eq_true rfl | (simp only [sizeLine_eq]; omega) | assumption)
local macro_rules | `(tactic| walk_at "bd") => `(tactic| first
  | refine bd_add ?_ | refine bd_sub ?_ | refine bd_mul (by walk_at "mulc") ?_ | refine bd_div ⟨by first | decide | omega, by first | decide | omega⟩ ?_ | refine bd_mod (by first | decide | omega) ?_
  | refine bd_pow ⟨by decide, by decide, by decide⟩ ?_ | refine bd_adds (by walk_at "ln") ?_
  | refine bd_eqi ?_ | refine bd_nei ?_ | refine bd_eqs ?_ | refine bd_nes ?_ | refine bd_eqb ?_ | refine bd_lt ?_ | refine bd_le ?_ | refine bd_gt ?_ | refine bd_ge ?_ | refine bd_isN ?_ | refine bd_notN ?_
  | refine bd_inC ?_ | refine bd_ninC ?_ | refine bd_inS ?_ | refine bd_ninS ?_
  | refine bd_eq rfl rfl rfl ?_ | refine bd_ne rfl rfl rfl ?_
  | refine bd_inK (hu_of c.room) (by walk_at "vw") ?_ | refine bd_ninK (hu_of c.room) (by walk_at "vw") ?_
  | refine bd_inQ c.hK rfl (by first | exact .inl (by walk_at "vw") | exact .inr (by walk_at "vw")) rfl ?_ | refine bd_ninQ c.hK rfl (by first | exact .inl (by walk_at "vw") | exact .inr (by walk_at "vw")) rfl ?_
  | refine bd_cat (by walk_at "vw") (by walk_at "vw") (by walk_at "ln") ?_)
local macro_rules | `(tactic| walk_at "id") => `(tactic| first
  | refine id_lst c.hK (by walk_at "vw") (by rfl) ?_ | refine id_tup c.hK (by walk_at "vw") (by rfl) ?_ | refine id_str (by walk_at "ln") (by rfl) ?_ | refine id_dct (hu_of c.room) (by walk_at "vw") (by rfl) ?_)
local macro_rules | `(tactic| walk_at "lg") => `(tactic| first | decide | (apply log_lt; omega) | assumption)
local macro_rules | `(tactic| walk_at "cd") => `(tactic| first
  | refine cd_lens (by walk_at "ln") ?_ | refine cd_len c.hK (.inl (by walk_at "vw")) ?_ | refine cd_len c.hK (.inr (by walk_at "vw")) ?_ | refine cd_int ?_ | refine cd_intb ?_ | refine cd_str (by walk_at "lg") ?_
  | refine cd_abs ?_ | refine cd_tupleF c.hK (by walk_at "vw") ?_)
local macro_rules | `(tactic| walk_at "fld") => `(tactic| refine ⟨_, _, _, _, by walk_at "vw", G.cls, by first | exact G.naK | exact G.naM, rfl, ?_⟩)
open TL
section
variable {F : Fix} {C CK CT CQ : Addr} {X : Cx} {W : WX} {S : Sto} {K : AK} {Z : ZK}
theorem made0 {S : Sto} {R : RK} {Z : ZK} {k : Str} {m : Int} (hok : okC k m = true) (h1 : R (clu C k m) S) : ∀ x, S x = none → aInit C CK (.ref x :: [.str k, .int m]) (S.put x (.ins C [] [])) (fun d S2 => d = .non ∧ ∃ y S3, (y = .ref x ∧ S3 = S2 ∨ ∃ ns fs, S2 x = some (.ins C ns fs) ∧ y = .obj C ns fs ∧ S3 = S2.del x) ∧ R y S3) Z := fun x hx =>
  ⟨x, k, m, rfl, Sto.put_same, fun h => ⟨rfl, _, _, .inr ⟨_, _, Sto.put_same, rfl, rfl⟩, by rw [Sto.put_put, Sto.del_put hx]; exact h1⟩, fun h => by rw [hok] at h; cases h⟩
/-- a drawn row -/
def okR (r : Row) : Prop := 0 ≤ r.1 ∧ r.1 ≤ 6 ∧ ((r.2.1 = "single" ∧ r.2.2 = 3) ∨ (r.2.1 = "long" ∧ r.2.2 = 5) ∨ (r.2.1 = "eight" ∧ r.2.2 = 1))
set_option hygiene false in
theorem law_h (c : XC F nLaw (defScope sLaw) 6 X W) (hf : ∀ x, X.fn x = true) (L : GL F C CK CT CQ) {dp : Addr} {a b z : Int} {x0 x2 x3 x4 x5 x6 x7 x8 x9 x10 x11 x12 x13 x14 x15 x16 x17 x18 x19 x20 x21 x22 x23 x24 : Option D}
    (h : ∀ (rs : List Row) (a b z : Int), (∀ r ∈ rs, okR r) → rs.length ≤ 3 → AB F.M X W (forB.drop 18) [x0, some (.ref dp), x2, x3, x4, x5, x6, x7, x8, x9, x10, x11, x12, x13, x14, x15, x16, x17, x18, x19, x20, some (.lst (rs.map (rowD C))), x22, x23, x24] (dS S dp a b z) K Z) :
    AB F.M X W (forB.drop 17) [x0, some (.ref dp), x2, x3, x4, x5, x6, x7, x8, x9, x10, x11, x12, x13, x14, x15, x16, x17, x18, x19, x20, x21, x22, x23, x24] (dS S dp a b z) K Z := by
  have G := L.G
  have g_range := G.nb "range" (by decide)
  have c0 := c
  -- drawn = [(_law_roll(dice, 7), [..][_law_roll(dice, 3)]) for k in range(_law_roll(dice, 4))]
  refine ab_cons (as_set c hf 21 (by decide +kernel) ?_ (hs := by have hs := c.hs; generalize X.env = e at hs ⊢; cases e; cases hs; rfl))
  refine ax_lc c [("k", 18)] (by decide +kernel) ?_
  refine ai_range1 c (by decide +kernel) g_range ?_
  refine ax_roll c L.roll (by omega) (by decide +kernel) (by decide +kernel) rfl (by decide) (by decide) (fun r a b z h1 h1' => ?_)
  refine ⟨_, rfl, by omega, by omega, ?_⟩
  obtain ⟨n, hn⟩ : ∃ n : Nat, r.toNat = n := ⟨_, rfl⟩
  rw [hn]
  have hlen : (intsUp 0 n).length = n := by simp [intsUp]
  refine ⟨by rw [hlen, sizeLine_eq]; omega, fun l hl => ⟨fun i acc S' => ∃ rs : List Row, acc = rs.map (rowD C) ∧ rs.length = i ∧ (∀ r ∈ rs, okR r) ∧ ∃ a b z, S' = (dS S dp a b z).put l (.lst acc), ⟨[], rfl, rfl, by simp, a, b, z, rfl⟩, fun i d acc S' hd hP _ => ?_, fun acc S' hP => ?_⟩⟩
  · obtain ⟨rs, rfl, hi, hrs, a, b, z, rfl⟩ := hP
    have hdl : dp ≠ l := fun e => by rw [← e] at hl; unfold dS at hl; rw [Sto.put_same] at hl; cases hl
    refine ⟨trivial, fun Y hY => ?_⟩
    have c := c0.isblk hY
    refine ao_name c 18 (by decide +kernel) (by decide) ?_
    intro Y hY
    refine ats_nil (iteY rfl ?_)
    intro Y hY
    have c := c0.isblk hY
    refine ax_tup ?_
    refine aa_cons ?_
    refine ax_rollG c L.roll (by omega) (by decide +kernel) (by decide +kernel) rfl (by decide) (by decide) (by rw [Sto.put_ne hdl]; unfold dS; exact Sto.put_same) (fun p a b z hp1 hp2 => ?_)
    refine aa_cons ?_
    refine ax_ix (fun _ _ => rfl) ?_
    refine ax_lst ?_
    refine aa_cons ?_
    refine ax_make c L.Cluster (by omega) (by decide +kernel) ?_
    refine aa_cons ?_
    refine ax_str ?_
    refine aa_cons ?_
    refine ax_int ?_
    refine aa_nil ?_
    refine made0 (by decide +kernel) ?_
    refine aa_cons ?_
    refine ax_make c L.Cluster (by omega) (by decide +kernel) ?_
    refine aa_cons ?_
    refine ax_str ?_
    refine aa_cons ?_
    refine ax_int ?_
    refine aa_nil ?_
    refine made0 (by decide +kernel) ?_
    refine aa_cons ?_
    refine ax_make c L.Cluster (by omega) (by decide +kernel) ?_
    refine aa_cons ?_
    refine ax_str ?_
    refine aa_cons ?_
    refine ax_int ?_
    refine aa_nil ?_
    refine made0 (by decide +kernel) ?_
    refine aa_nil ?_
    refine ⟨by walk_at "ln", ?_⟩
    refine ax_rollG c L.roll (by omega) (by decide +kernel) (by decide +kernel) rfl (by decide) (by decide) Sto.put_same (fun q a' b' z' hq1 hq2 => ?_)
    have hpick : ∃ (k : Str) (m : Int), ((k = "single" ∧ m = 3) ∨ (k = "long" ∧ m = 5) ∨ (k = "eight" ∧ m = 1)) ∧ atI [clu C "single" 3, clu C "long" 5, clu C "eight" 1] q = some (clu C k m) := by
      have hr : q = 0 ∨ q = 1 ∨ q = 2 := by omega
      rcases hr with rfl | rfl | rfl
      · exact ⟨_, _, .inl ⟨rfl, rfl⟩, rfl⟩
      · exact ⟨_, _, .inr (.inl ⟨rfl, rfl⟩), rfl⟩
      · exact ⟨_, _, .inr (.inr ⟨rfl, rfl⟩), rfl⟩
    obtain ⟨k, m, hkm, hat⟩ := hpick
    refine id_lst c.hK rfl hat ?_
    refine aa_nil ?_
    refine ⟨by walk_at "ln", ?_⟩
    rw [Sto.put_put]
    refine ⟨by rw [Sto.put_ne (Ne.symm hdl), Sto.put_same], rs ++ [(p, k, m)], by rw [List.map_append]; rfl, by simp [hi], fun x hx => ?_, a', b', z', ?_⟩
    · rcases List.mem_append.mp hx with hx | hx
      · exact hrs x hx
      · rw [List.mem_singleton.mp hx]; exact ⟨hp1, by show p ≤ 6; omega, hkm⟩
    · unfold dS; rw [Sto.put_comm (Ne.symm hdl), Sto.put_put, Sto.put_put]
  · obtain ⟨rs, rfl, hi, hrs, a, b, z, rfl⟩ := hP
    rw [hlen] at hi
    have hdl : dp ≠ l := fun e => by rw [← e] at hl; unfold dS at hl; rw [Sto.put_same] at hl; cases hl
    refine ⟨trivial, .inr ⟨Sto.put_same, ?_⟩⟩
    rw [Sto.del_put (by unfold dS at hl ⊢; rw [Sto.put_ne (Ne.symm hdl)] at hl ⊢; exact hl)]
    exact h rs a b z hrs (by omega)
end
end QD
set_option maxHeartbeats 4000000
namespace QD
open PySem PySem.Spec PyProof.Rows L2 GenW
set_option hygiene false
local macro_rules | `(tactic| walk_at "mulc") => `(tactic| first | exact .inl ⟨by decide, by decide⟩ | exact .inr ⟨by decide, by decide⟩ | exact .inl ⟨by omega, by omega⟩ | exact .inr ⟨by omega, by omega⟩)
local macro_rules | `(tactic| walk_at "ne") => `(tactic| first | assumption | (apply Ne.symm; assumption))
local macro_rules | `(tactic| walk_at "sto") => `(tactic| first | assumption | exact Sto.put_same | (refine (Sto.put_ne (by walk_at "ne")).trans ?_; walk_at "sto"))
local macro_rules | `(tactic| walk_at "vw") => `(tactic| first | rfl | assumption | exact view_lst (by walk_at "sto") | exact view_dct (by walk_at "sto") | exact view_dcu (by walk_at "sto") | exact view_ins (by walk_at "sto") | exact view_fdct (by walk_at "sto"))
local macro_rules | `(tactic| walk_at "ln") => `(tactic| first | decide | exact Nat.le_of_ble_eq_true rfl | (simp only [sizeLine_eq]; omega) | assumption)
local macro_rules | `(tactic| walk_at "bd") => `(tactic| first
  | refine bd_add ?_ | refine bd_sub ?_ | refine bd_mul (by walk_at "mulc") ?_ | refine bd_div ⟨by first | decide | omega, by first | decide | omega⟩ ?_ | refine bd_mod (by first | decide | omega) ?_
  | refine bd_pow ⟨by decide, by decide, by decide⟩ ?_ | refine bd_adds (by walk_at "ln") ?_
  | refine bd_eqi ?_ | refine bd_nei ?_ | refine bd_eqs ?_ | refine bd_nes ?_ | refine bd_eqb ?_ | refine bd_lt ?_ | refine bd_le ?_ | refine bd_gt ?_ | refine bd_ge ?_ | refine bd_isN ?_ | refine bd_notN ?_
  | refine bd_inC ?_ | refine bd_ninC ?_ | refine bd_inS ?_ | refine bd_ninS ?_
  | refine bd_eq rfl rfl rfl ?_ | refine bd_ne rfl rfl rfl ?_
  | refine bd_inK (hu_of c.room) (by walk_at "vw") ?_ | refine bd_ninK (hu_of c.room) (by walk_at "vw") ?_
  | refine bd_inQ c.hK rfl (by first | exact .inl (by walk_at "vw") | exact .inr (by walk_at "vw")) rfl ?_ | refine bd_ninQ c.hK rfl (by first | exact .inl (by walk_at "vw") | exact .inr (by walk_at "vw")) rfl ?_
  | refine bd_cat (by walk_at "vw") (by walk_at "vw") (by walk_at "ln") ?_)
local macro_rules | `(tactic| walk_at "id") => `(tactic| first
  | refine id_lst c.hK (by walk_at "vw") (by rfl) ?_ | refine id_tup c.hK (by walk_at "vw") (by rfl) ?_ | refine id_str (by walk_at "ln") (by rfl) ?_ | refine id_dct (hu_of c.room) (by walk_at "vw") (by rfl) ?_)
local macro_rules | `(tactic| walk_at "lg") => `(tactic| first | decide | (apply log_lt; omega) | assumption)
local macro_rules | `(tactic| walk_at "cd") => `(tactic| first
  | refine cd_lens (by walk_at "ln") ?_ | refine cd_len c.hK (.inl (by walk_at "vw")) ?_ | refine cd_len c.hK (.inr (by walk_at "vw")) ?_ | refine cd_int ?_ | refine cd_intb ?_ | refine cd_str (by walk_at "lg") ?_
  | refine cd_abs ?_ | refine cd_tupleF c.hK (by walk_at "vw") ?_)
local macro_rules | `(tactic| walk_at "fld") => `(tactic| refine ⟨_, _, _, _, by walk_at "vw", G.cls, by first | exact G.naK | exact G.naM, rfl, ?_⟩)
open TL
section
theorem sort_eq : ∀ {l m : List Int}, l.Perm m → l.Pairwise (· ≤ ·) → m.Pairwise (· ≤ ·) → l = m
  | [], m, h, _, _ => (List.Perm.nil_eq h)
  | a :: l, [], h, _, _ => by have := h.length_eq; simp at this
  | a :: l, b :: m, h, h1, h2 => by
    have hab : a = b := by
      have ha : a ∈ b :: m := h.subset (List.mem_cons_self ..)
      have hb : b ∈ a :: l := h.symm.subset (List.mem_cons_self ..)
      have p1 := List.pairwise_cons.mp h1
      have p2 := List.pairwise_cons.mp h2
      rcases List.mem_cons.mp ha with e | e
      · exact e
      · rcases List.mem_cons.mp hb with e2 | e2
        · exact e2.symm
        · have := p1.1 b e2
          have := p2.1 a e
          omega
    subst hab
    have h3 : l.Perm m := List.Perm.cons_inv h
    rw [sort_eq h3 (List.pairwise_cons.mp h1).2 (List.pairwise_cons.mp h2).2]
theorem rev_sorted {ps ms : List Int} (h : ms.Perm ps) (hs : ms.Pairwise (· ≤ ·)) : ps = ms.reverse ↔ ps.Pairwise (· ≥ ·) := by
  constructor
  · intro e
    rw [e, List.pairwise_reverse]
    exact hs
  · intro hp
    have h1 : ps.reverse.Pairwise (· ≤ ·) := by
      rw [List.pairwise_reverse]
      exact hp
    have h2 : ps.reverse = ms := sort_eq ((List.reverse_perm ps).trans h.symm) h1 hs
    rw [← h2, List.reverse_reverse]
theorem mrg_len {κ : Type} [DecidableEq κ] : ∀ (m acc : List (κ × D)), (mrgP acc m).length ≤ acc.length + m.length ∧ ((mrgP acc m).length = acc.length + m.length → (acc.map (·.1)).Nodup → ((acc ++ m).map (·.1)).Nodup)
  | [], acc => ⟨Nat.le_refl _, fun _ h => by rw [List.append_nil]; exact h⟩
  | (k, d) :: m, acc => by
    have e : mrgP acc ((k, d) :: m) = mrgP (putP acc k d) m := rfl
    obtain ⟨h1, h2⟩ := mrg_len m (putP acc k d)
    rw [e, List.length_cons]
    by_cases hx : (acc.any fun p => decide (p.1 = k)) = true
    · have e2 : (putP acc k d).length = acc.length := by unfold putP; rw [if_pos hx, List.length_map]
      rw [e2] at h1
      exact ⟨by omega, fun h => by omega⟩
    · have e2 : putP acc k d = acc ++ [(k, d)] := by unfold putP; rw [if_neg hx]
      rw [e2, List.length_append] at h1 h2
      have hl : [(k, d)].length = 1 := rfl
      rw [hl] at h1 h2
      rw [e2]
      refine ⟨by omega, fun h hn => ?_⟩
      have h3 := h2 (by omega) (by
        rw [List.map_append, List.nodup_append]
        refine ⟨hn, by simp, fun a ha b hb => ?_⟩
        simp at hb
        subst hb
        intro e
        subst e
        obtain ⟨q, hq, e⟩ := List.mem_map.mp ha
        exact hx (List.any_eq_true.mpr ⟨q, hq, decide_eq_true e⟩))
      rw [List.append_assoc] at h3
      exact h3
def p1s (ps : List Int) : List (Key × D) := ps.map fun p => (.inl p, .int 1)
theorem p1s_nodup {ps : List Int} : ((p1s ps).map (·.1)).Nodup ↔ ps.Nodup := by
  have e : (p1s ps).map (·.1) = ps.map (Sum.inl : Int → Key) := by rw [p1s, List.map_map]; rfl
  rw [e]
  constructor
  · intro h
    exact List.Pairwise.of_map (S := (· ≠ ·)) (Sum.inl : Int → Key) (fun a b hab => fun z => hab (congrArg _ z)) h
  · intro h
    exact List.Pairwise.map (Sum.inl : Int → Key) (fun a b (hab : a ≠ b) he => hab (Sum.inl.inj he)) h
theorem p1s_len (ps : List Int) : (mrgP [] (p1s ps)).length = ps.length ↔ ps.Nodup := by
  obtain ⟨_, h2⟩ := mrg_len (p1s ps) []
  have hl : (p1s ps).length = ps.length := by rw [p1s, List.length_map]
  constructor
  · intro h
    have h3 := h2 (by rw [List.length_nil, Nat.zero_add, h, hl]) (by simp)
    exact p1s_nodup.mp h3
  · intro h
    rw [mrgP_app (p1s ps) [] (by rw [List.nil_append]; exact p1s_nodup.mpr h), List.nil_append, hl]
theorem nOf_char : ∀ (rs : List Row) (last found : Int), (∀ r ∈ rs, 0 ≤ r.1) → nOf last found rs = if ((rs.map (·.1)).Pairwise (· > ·) ∧ (∀ r ∈ rs, r.1 < last)) ∧ rs.any badR = false then some (found + (rs.map fun r => 10 ^ r.1.toNat * r.2.2).sum) else none
  | [], last, found, _ => by
    rw [nOf, if_pos ⟨⟨List.Pairwise.nil, fun r h => by cases h⟩, rfl⟩]
    simp
  | (p, k, m) :: rs, last, found, h0 => by
    have hp : 0 ≤ p := h0 (p, k, m) (List.mem_cons_self ..)
    have ih := nOf_char rs p (found + 10 ^ p.toNat * m) fun r hr => h0 r (List.mem_cons_of_mem _ hr)
    rw [nOf]
    by_cases h1 : (0 ≤ p ∧ p < last) ∧ ¬(decide (p = 0) = decide (k = "single"))
    · have hb : badR (p, k, m) = false := decide_eq_false h1.2
      rw [if_pos h1, ih]
      have hiff : (((rs.map (·.1)).Pairwise (· > ·) ∧ (∀ r ∈ rs, r.1 < p)) ∧ rs.any badR = false) ↔ (((((p, k, m) :: rs).map (·.1)).Pairwise (· > ·) ∧ (∀ r ∈ (p, k, m) :: rs, r.1 < last)) ∧ ((p, k, m) :: rs).any badR = false) := by
        rw [List.any_cons, hb, Bool.false_or, List.map_cons, List.pairwise_cons]
        constructor
        · rintro ⟨⟨a, b⟩, c⟩
          refine ⟨⟨⟨fun x hx => ?_, a⟩, fun r hr => ?_⟩, c⟩
          · obtain ⟨r, hr, rfl⟩ := List.mem_map.mp hx
            exact b r hr
          · rcases List.mem_cons.mp hr with rfl | hr
            · exact h1.1.2
            · have := b r hr
              have := h1.1.2
              omega
        · rintro ⟨⟨⟨a, b⟩, _⟩, c⟩
          exact ⟨⟨b, fun r hr => a r.1 (List.mem_map_of_mem hr)⟩, c⟩
      by_cases h2 : ((rs.map (·.1)).Pairwise (· > ·) ∧ (∀ r ∈ rs, r.1 < p)) ∧ rs.any badR = false
      · rw [if_pos h2, if_pos (hiff.mp h2), List.map_cons, List.sum_cons]
        exact congrArg some (Int.add_assoc ..)
      · rw [if_neg h2, if_neg fun z => h2 (hiff.mpr z)]
    · rw [if_neg h1, if_neg]
      rintro ⟨⟨_, b⟩, c⟩
      rw [List.any_cons, Bool.or_eq_false_iff] at c
      exact h1 ⟨⟨hp, b _ (List.mem_cons_self ..)⟩, of_decide_eq_false c.1⟩
end
end QD
set_option maxHeartbeats 4000000
namespace QD
open PySem PySem.Spec PyProof.Rows L2 GenW
set_option hygiene false
local macro_rules | `(tactic| walk_at "mulc") => `(tactic| first | exact .inl ⟨by decide, by decide⟩ | exact .inr ⟨by decide, by decide⟩ | exact .inl ⟨by omega, by omega⟩ | exact .inr ⟨by omega, by omega⟩)
local macro_rules | `(tactic| walk_at "ne") => `(tactic| first | assumption | (apply Ne.symm; assumption))
local macro_rules | `(tactic| walk_at "sto") => `(tactic| first | assumption | exact Sto.put_same | (refine (Sto.put_ne (by walk_at "ne")).trans ?_; walk_at "sto"))
local macro_rules | `(tactic| walk_at "vw") => `(tactic| first | rfl | assumption | exact view_lst (by walk_at "sto") | exact view_dct (by walk_at "sto") | exact view_dcu (by walk_at "sto") | exact view_ins (by walk_at "sto") | exact view_fdct (by walk_at "sto"))
local macro_rules | `(tactic| walk_at "ln") => `(tactic| first | decide | exact Nat.le_of_ble_eq_true rfl | (simp only [sizeLine_eq]; omega) | assumption)
local macro_rules | `(tactic| walk_at "bd") => `(tactic| first
  | refine bd_add ?_ | refine bd_sub ?_ | refine bd_mul (by walk_at "mulc") ?_ | refine bd_div ⟨by first | decide | omega, by first | decide | omega⟩ ?_ | refine bd_mod (by first | decide | omega) ?_
  | refine bd_pow ⟨by decide, by decide, by decide⟩ ?_ | refine bd_adds (by walk_at "ln") ?_
  | refine bd_eqi ?_ | refine bd_nei ?_ | refine bd_eqs ?_ | refine bd_nes ?_ | refine bd_eqb ?_ | refine bd_lt ?_ | refine bd_le ?_ | refine bd_gt ?_ | refine bd_ge ?_ | refine bd_isN ?_ | refine bd_notN ?_
  | refine bd_inC ?_ | refine bd_ninC ?_ | refine bd_inS ?_ | refine bd_ninS ?_
  | refine bd_eq rfl rfl rfl ?_ | refine bd_ne rfl rfl rfl ?_
  | refine bd_inK (hu_of c.room) (by walk_at "vw") ?_ | refine bd_ninK (hu_of c.room) (by walk_at "vw") ?_
  | refine bd_inQ c.hK rfl (by first | exact .inl (by walk_at "vw") | exact .inr (by walk_at "vw")) rfl ?_ | refine bd_ninQ c.hK rfl (by first | exact .inl (by walk_at "vw") | exact .inr (by walk_at "vw")) rfl ?_
  | refine bd_cat (by walk_at "vw") (by walk_at "vw") (by walk_at "ln") ?_)
local macro_rules | `(tactic| walk_at "id") => `(tactic| first
  | refine id_lst c.hK (by walk_at "vw") (by rfl) ?_ | refine id_tup c.hK (by walk_at "vw") (by rfl) ?_ | refine id_str (by walk_at "ln") (by rfl) ?_ | refine id_dct (hu_of c.room) (by walk_at "vw") (by rfl) ?_)
local macro_rules | `(tactic| walk_at "lg") => `(tactic| first | decide | (apply log_lt; omega) | assumption)
local macro_rules | `(tactic| walk_at "cd") => `(tactic| first
  | refine cd_lens (by walk_at "ln") ?_ | refine cd_len c.hK (.inl (by walk_at "vw")) ?_ | refine cd_len c.hK (.inr (by walk_at "vw")) ?_ | refine cd_int ?_ | refine cd_intb ?_ | refine cd_str (by walk_at "lg") ?_
  | refine cd_abs ?_ | refine cd_tupleF c.hK (by walk_at "vw") ?_)
local macro_rules | `(tactic| walk_at "fld") => `(tactic| refine ⟨_, _, _, _, by walk_at "vw", G.cls, by first | exact G.naK | exact G.naM, rfl, ?_⟩)
open TL
theorem eqv_ints : ∀ l m : List Int, PyData.eqvAll (l.map PyData.int) (m.map PyData.int) = decide (l = m)
  | [], [] => rfl
  | [], b :: m => rfl
  | a :: l, [] => rfl
  | a :: l, b :: m => by
    show ((a == b) && PyData.eqvAll (l.map PyData.int) (m.map PyData.int)) = _
    rw [eqv_ints l m, Bool.beq_eq_decide_eq, ← Bool.decide_and]
    exact decide_eq_decide.mpr (by simp)
theorem inV_int {x : Int} (ps : List Int) : inV (.int x) (ps.map V.int) = decide (x ∈ ps) := by
  induction ps with
  | nil => simp [inV]
  | cons p ps ih =>
    have e : inV (.int x) ((p :: ps).map V.int) = ((p == x) || inV (.int x) (ps.map V.int)) := rfl
    rw [e, ih]
    by_cases h : x = p
    · subst h; simp
    · have h2 : (p == x) = false := by simpa using fun z => h z.symm
      rw [h2]
      simp [h]
def goodR (rs : List Row) : Bool := decide ((rs.map (·.1)).Pairwise (· > ·) ∧ ∀ r ∈ rs, r.1 < 6)
theorem goodR_eq {rs : List Row} {ms : List Int} (h6 : ∀ r ∈ rs, okR r) (h : ms.Perm (rs.map (·.1))) (hs : ms.Pairwise (· ≤ ·)) :
    ((decide (rs.map (·.1) = ms.reverse) && decide (((mrgP [] (p1s (rs.map (·.1)))).length : Int) = ((rs.map (·.1)).length : Int))) && !decide ((6 : Int) ∈ rs.map (·.1))) = goodR rs := by
  have e1 := rev_sorted h hs
  have e2 := p1s_len (rs.map (·.1))
  have e3 : ((((mrgP [] (p1s (rs.map (·.1)))).length : Int) = ((rs.map (·.1)).length : Int))) ↔ (rs.map (·.1)).Nodup := by
    rw [← e2]; omega
  rw [decide_eq_decide.mpr e1, decide_eq_decide.mpr e3, ← Bool.decide_and, ← decide_not, ← Bool.decide_and]
  refine decide_eq_decide.mpr ⟨fun ⟨⟨a, b⟩, c⟩ => ⟨?_, fun r hr => ?_⟩, fun ⟨a, b⟩ => ⟨⟨?_, ?_⟩, fun hm => ?_⟩⟩
  · have := List.pairwise_and_iff.mpr ⟨a, b⟩
    exact this.imp fun {x y} h => by
      have h1 : x ≥ y := h.1
      have h2 : x ≠ y := h.2
      show x > y
      omega
  · have h1 := (h6 r hr).2.1
    have h2 : r.1 ≠ 6 := fun z => c (by rw [← z]; exact List.mem_map_of_mem hr)
    omega
  · exact a.imp fun {x y} h => by
      have h1 : x > y := h
      show x ≥ y
      omega
  · exact a.imp fun {x y} h => by
      have h1 : x > y := h
      show x ≠ y
      omega
  · obtain ⟨r, hr, e⟩ := List.mem_map.mp hm
    have := b r hr
    omega
def tab (p : Int) : Int := if p = 6 then 0 else 10 ^ p.toNat
def dueV (rs : List Row) : Int := (rs.map fun r => r.2.2 * tab r.1).sum
theorem tab_at {p : Int} (h0 : 0 ≤ p) (h6 : p ≤ 6) : atI [D.int 1, .int 10, .int 100, .int 1000, .int 10000, .int 100000, .int 0] p = some (.int (tab p)) := by
  have hp : p = 0 ∨ p = 1 ∨ p = 2 ∨ p = 3 ∨ p = 4 ∨ p = 5 ∨ p = 6 := by omega
  rcases hp with rfl | rfl | rfl | rfl | rfl | rfl | rfl <;> rfl
theorem drawn_nOf {rs : List Row} (h6 : ∀ r ∈ rs, okR r) : nOf 6 0 rs = if (goodR rs && !rs.any badR) = true then some (dueV rs) else none := by
  rw [nOf_char rs 6 0 fun r hr => (h6 r hr).1]
  by_cases h : ((rs.map (·.1)).Pairwise (· > ·) ∧ ∀ r ∈ rs, r.1 < 6) ∧ rs.any badR = false
  · rw [if_pos h, if_pos]
    · rw [Int.zero_add, dueV]
      congr 2
      refine List.map_congr_left fun r hr => ?_
      have := h.1.2 r hr
      rw [tab, if_neg (by omega), Int.mul_comm]
    · rw [goodR, decide_eq_true h.1, h.2]; rfl
  · rw [if_neg h, if_neg]
    intro z
    rw [Bool.and_eq_true, goodR] at z
    exact h ⟨of_decide_eq_true z.1, by simpa using z.2⟩
section
variable {F : Fix} {C CK CT CQ : Addr} {X : Cx} {W : WX} {S : Sto} {K : AK} {Z : ZK}
theorem row_at {rs : List Row} {i : Nat} {d : D} (hd : (rs.map (rowD C))[i]? = some d) : ∃ r, rs[i]? = some r ∧ d = rowD C r := by
  rw [List.getElem?_map] at hd
  obtain ⟨r, h1, h2⟩ := Option.map_eq_some_iff.mp hd
  exact ⟨r, h1, h2.symm⟩
set_option hygiene false in
theorem law_i (c : XC F nLaw (defScope sLaw) 6 X W) (hf : ∀ x, X.fn x = true) (L : GL F C CK CT CQ) {dp : Addr} {a b z : Int} {rs : List Row} {x0 x2 x3 x4 x5 x6 x7 x8 x9 x10 x11 x12 x13 x14 x15 x16 x17 x18 x19 x20 x22 x23 x24 : Option D} (hrs : ∀ r ∈ rs, okR r) (hl : rs.length ≤ 3)
    (h : ∀ x12, AB F.M X W (forB.drop 20) [x0, some (.ref dp), x2, x3, x4, x5, x6, x7, x8, x9, x10, x11, x12, some (.bl (goodR rs)), x14, x15, x16, x17, x18, x19, x20, some (.lst (rs.map (rowD C))), x22, x23, x24] (dS S dp a b z) K Z) :
    AB F.M X W (forB.drop 18) [x0, some (.ref dp), x2, x3, x4, x5, x6, x7, x8, x9, x10, x11, x12, x13, x14, x15, x16, x17, x18, x19, x20, some (.lst (rs.map (rowD C))), x22, x23, x24] (dS S dp a b z) K Z := by
  have G := L.G
  have hu : X.A.units + 64 < cLine := by have := c.room.un; omega
  have g_sorted := G.nb "sorted" (by decide)
  have g_len := G.nb "len" (by decide)
  have g_dict := G.nb "dict" (by decide)
  have c0 := c
  have hkind : X.env.scope.kind = .function := by rw [c.hs]; rfl
  -- places = [place for place, cluster in drawn]
  refine ab_cons (as_setLc c 12 [("place", 5), ("cluster", 6)] (by decide +kernel) (by decide +kernel) hkind rfl rfl ?_)
  refine ai_of c ?_
  refine ax_var c 21 (by decide +kernel) rfl ?_
  refine .inl ⟨_, .inl rfl, ?_⟩
  refine lcq_pure (fs := (rs.map (·.1)).map fun x => some (D.int x)) (by simp) (by simp; rw [sizeLine_eq]; omega) (fun _ _ => trivial) (fun i d o hd ho S' hS Y hY => ?_) ?_
  · have c := c0.isblk hY
    obtain ⟨⟨p, k, v⟩, hr, rfl⟩ := row_at hd
    have ho : o = some (.int p) := by
      rw [List.getElem?_map, List.getElem?_map, hr] at ho
      exact (Option.some.inj ho).symm
    refine ao_tup c (ds := [.int p, clu C k v]) rfl rfl ?_
    refine aos_cons ?_
    refine ao_name c 5 (by decide +kernel) (by decide) ?_
    refine aos_cons ?_
    refine ao_name c 6 (by decide +kernel) (by decide) ?_
    refine aos_nil ?_
    refine ⟨rfl, fun Y hY => ?_⟩
    refine ats_nil ⟨rfl, iteY rfl ?_⟩
    intro Y hY
    have c := c0.isblk hY
    exact ax_var c 5 (by decide +kernel) rfl ⟨rfl, ho⟩
  rw [filterMap_ints]
  show AB F.M X W _ [x0, some (.ref dp), x2, x3, x4, x5, x6, x7, x8, x9, x10, x11, some (.lst ((rs.map (·.1)).map D.int)), x13, x14, x15, x16, x17, x18, x19, x20, some (.lst (rs.map (rowD C))), x22, x23, x24] (dS S dp a b z) K Z
  have hP : ∀ l : List Int, toP (.lst (l.map D.int)) = some (.list (l.map PyData.int)) := fun l => by
    show (toPs (l.map D.int)).map PyData.list = _
    rw [toPs_map (g := PyData.int) (fun x => rfl)]
    rfl
  have hSh : ∀ l : List Int, SeqAt.shaped (.list (l.map PyData.int)) = true := fun l => shaped_list (n := 0) (fun x _ => ⟨rfl, Nat.le_refl _⟩) (by decide)
  -- good = places == sorted(places)[::-1] and len(dict([(place, 1) for place in places])) == len(places) and (6 not in places)
  refine ab_cons (as_set c hf 13 (by decide +kernel) ?_)
  refine ax_is (.bl (goodR rs)) ?_ (h _)
  refine ax_and ?_
  refine ax_cmp (by first | exact nomark _ | rfl) ?_
  refine ax_var c 12 (by decide +kernel) rfl ?_
  refine ax_rev ?_
  refine ax_bi c (by decide +kernel) g_sorted rfl ?_
  refine aa_cons ?_
  refine ax_var c 12 (by decide +kernel) rfl ?_
  refine aa_nil ?_
  refine cd_sorted c.hK (ns := rs.map (·.1)) rfl (by rw [List.length_map]; omega) (fun ms hp hs => ?_)
  refine ⟨_, rfl, ?_⟩
  rw [← List.map_reverse]
  refine bd_eqP c.hK hu (hP _) (hP _) (hSh _) (hSh _) ?_
  have key := goodR_eq hrs hp hs
  rw [← key]
  show ∃ k, D.bl (PyData.eqvAll _ _) = .bl k ∧ _
  rw [eqv_ints]
  refine ⟨_, rfl, iteB (fun hx => ?_) (fun hx => ?_)⟩
  · rw [hx, Bool.true_and]
    refine ax_and ?_
    refine ax_cmp (by first | exact nomark _ | rfl) ?_
    refine ax_bi c (by decide +kernel) g_len rfl ?_
    refine aa_cons ?_
    refine ax_ty c (by decide +kernel) g_dict rfl ?_
    refine aa_cons ?_
    refine ax_lc c [("place", 5)] (by decide +kernel) ?_
    refine ai_of c ?_
    refine ax_var c 12 (by decide +kernel) rfl ?_
    refine .inl ⟨_, .inl rfl, ?_⟩
    refine lcq_pure (fs := (rs.map (·.1)).map fun x => some (D.tup [.int x, .int 1])) (by simp) (by simp; rw [sizeLine_eq]; omega) (fun _ _ => trivial) (fun i d o hd ho S' hS Y hY => ?_) ?_
    · have c := c0.isblk hY
      obtain ⟨p, hr, rfl⟩ : ∃ p, (rs.map (·.1))[i]? = some p ∧ d = .int p := by
        rw [List.getElem?_map] at hd
        obtain ⟨r, h1, h2⟩ := Option.map_eq_some_iff.mp hd
        exact ⟨r, h1, h2.symm⟩
      have ho : o = some (.tup [.int p, .int 1]) := by
        rw [List.getElem?_map, hr] at ho
        exact (Option.some.inj ho).symm
      refine ao_name c 5 (by decide +kernel) (by decide) ?_
      refine ⟨rfl, fun Y hY => ?_⟩
      refine ats_nil ⟨rfl, iteY rfl ?_⟩
      intro Y hY
      have c := c0.isblk hY
      refine ax_tup ?_
      refine aa_cons ?_
      refine ax_var c 5 (by decide +kernel) rfl ?_
      refine aa_cons ?_
      refine ax_int ?_
      refine aa_nil ?_
      exact ⟨by walk_at "ln", rfl, ho⟩
    rw [filterMap_some]
    refine aa_nil ?_
    refine cd_dictP c.hK c.calm (m := p1s (rs.map (·.1))) (by show D.lst _ = D.lst _; simp only [p1s, List.map_map]; rfl) ?_
    refine aa_nil ?_
    refine cd_lend rfl ?_
    refine ax_bi c (by decide +kernel) g_len rfl ?_
    refine aa_cons ?_
    refine ax_var c 12 (by decide +kernel) rfl ?_
    refine aa_nil ?_
    refine cd_len c.hK (.inl rfl) ?_
    refine bd_eqi ?_
    rw [List.length_map, List.length_map]
    refine ⟨_, rfl, iteB (fun hy => ?_) (fun hy => ?_)⟩
    · rw [hy, Bool.true_and]
      refine ax_one ?_
      refine ax_cmp (by first | exact nomark _ | rfl) ?_
      refine ax_int ?_
      refine ax_var c 12 (by decide +kernel) rfl ?_
      refine bd_ninQ c.hK (x := .int 6) (xs := (rs.map (·.1)).map V.int) rfl (.inl rfl) (by simp only [List.map_map]; rfl) ?_
      rw [inV_int]
      exact ⟨rfl, rfl⟩
    · rw [hy]
      exact ⟨rfl, rfl⟩
  · rw [hx]
    exact ⟨rfl, rfl⟩
end
end QD
set_option maxHeartbeats 4000000
namespace QD
open PySem PySem.Spec PyProof.Rows L2 GenW
set_option hygiene false
local macro_rules | `(tactic| walk_at "mulc") => `(tactic| first | exact .inl ⟨by decide, by decide⟩ | exact .inr ⟨by decide, by decide⟩ | exact .inl ⟨by omega, by omega⟩ | exact .inr ⟨by omega, by omega⟩)
local macro_rules | `(tactic| walk_at "ne") => `(tactic| first | assumption | (apply Ne.symm; assumption))
local macro_rules | `(tactic| walk_at "sto") => `(tactic| first | assumption | exact Sto.put_same | (refine (Sto.put_ne (by walk_at "ne")).trans ?_; walk_at "sto"))
local macro_rules | `(tactic| walk_at "vw") => `(tactic| first | rfl | assumption | exact view_lst (by walk_at "sto") | exact view_dct (by walk_at "sto") | exact view_dcu (by walk_at "sto") | exact view_ins (by walk_at "sto") | exact view_fdct (by walk_at "sto"))
local macro_rules | `(tactic| walk_at "ln") => `(tactic| first | decide | exact Nat.le_of_ble_eq_true rfl | (simp only [sizeLine_eq]; omega) | assumption)
local macro_rules | `(tactic| walk_at "bd") => `(tactic| first
  | refine bd_add ?_ | refine bd_sub ?_ | refine bd_mul (by walk_at "mulc") ?_ | refine bd_div ⟨by first | decide | omega, by first | decide | omega⟩ ?_ | refine bd_mod (by first | decide | omega) ?_
  | refine bd_pow ⟨by decide, by decide, by decide⟩ ?_ | refine bd_adds (by walk_at "ln") ?_
  | refine bd_eqi ?_ | refine bd_nei ?_ | refine bd_eqs ?_ | refine bd_nes ?_ | refine bd_eqb ?_ | refine bd_lt ?_ | refine bd_le ?_ | refine bd_gt ?_ | refine bd_ge ?_ | refine bd_isN ?_ | refine bd_notN ?_
  | refine bd_inC ?_ | refine bd_ninC ?_ | refine bd_inS ?_ | refine bd_ninS ?_
  | refine bd_eq rfl rfl rfl ?_ | refine bd_ne rfl rfl rfl ?_
  | refine bd_inK (hu_of c.room) (by walk_at "vw") ?_ | refine bd_ninK (hu_of c.room) (by walk_at "vw") ?_
  | refine bd_inQ c.hK rfl (by first | exact .inl (by walk_at "vw") | exact .inr (by walk_at "vw")) rfl ?_ | refine bd_ninQ c.hK rfl (by first | exact .inl (by walk_at "vw") | exact .inr (by walk_at "vw")) rfl ?_
  | refine bd_cat (by walk_at "vw") (by walk_at "vw") (by walk_at "ln") ?_)
local macro_rules | `(tactic| walk_at "id") => `(tactic| first
  | refine id_lst c.hK (by walk_at "vw") (by rfl) ?_ | refine id_tup c.hK (by walk_at "vw") (by rfl) ?_ | refine id_str (by walk_at "ln") (by rfl) ?_ | refine id_dct (hu_of c.room) (by walk_at "vw") (by rfl) ?_)
local macro_rules | `(tactic| walk_at "lg") => `(tactic| first | decide | (apply log_lt; omega) | assumption)
local macro_rules | `(tactic| walk_at "cd") => `(tactic| first
  | refine cd_lens (by walk_at "ln") ?_ | refine cd_len c.hK (.inl (by walk_at "vw")) ?_ | refine cd_len c.hK (.inr (by walk_at "vw")) ?_ | refine cd_int ?_ | refine cd_intb ?_ | refine cd_str (by walk_at "lg") ?_
  | refine cd_abs ?_ | refine cd_tupleF c.hK (by walk_at "vw") ?_)
local macro_rules | `(tactic| walk_at "fld") => `(tactic| refine ⟨_, _, _, _, by walk_at "vw", G.cls, by first | exact G.naK | exact G.naM, rfl, ?_⟩)
open TL
theorem any_filter {rs : List Row} : ((rs.filter badR).isEmpty) = !rs.any badR := by
  induction rs with
  | nil => rfl
  | cons r rs ih =>
    rw [List.any_cons]
    cases h : badR r with
    | true => rw [List.filter_cons_of_pos h]; rfl
    | false => rw [List.filter_cons_of_neg (by rw [h]; decide), ih, Bool.false_or]
theorem eqv_nil (l : List PyData) : PyData.eqvAll l [] = l.isEmpty := by cases l <;> rfl
section
variable {F : Fix} {C CK CT CQ : Addr} {X : Cx} {W : WX} {S : Sto} {K : AK} {Z : ZK}
/-- what told gives of number_of(drawn) -/
def toldN (rs : List Row) : D := match nOf 6 0 rs with
  | some v => .int v
  | none => .str "QuipuError"
theorem toldN_some {rs : List Row} {v : Int} (h : nOf 6 0 rs = some v) : toldN rs = .int v := by unfold toldN; rw [h]
theorem toldN_none {rs : List Row} (h : nOf 6 0 rs = none) : toldN rs = .str "QuipuError" := by unfold toldN; rw [h]
set_option hygiene false in
theorem law_j (c : XC F nLaw (defScope sLaw) 6 X W) (hf : ∀ x, X.fn x = true) (L : GL F C CK CT CQ) (HL : XL F X) {dp : Addr} {a b z : Int} {rs : List Row} {x0 x2 x3 x4 x5 x6 x7 x8 x9 x10 x11 x12 x14 x15 x16 x17 x18 x19 x20 x22 x23 x24 : Option D} (hrs : ∀ r ∈ rs, okR r) (hl : rs.length ≤ 3)
    (h : ∀ x13 x22, K.nx [x0, some (.ref dp), x2, x3, x4, x5, x6, x7, x8, x9, x10, x11, x12, x13, x14, x15, x16, x17, x18, x19, x20, some (.lst (rs.map (rowD C))), x22, x23, x24] (dS S dp a b z)) :
    AB F.M X W (forB.drop 20) [x0, some (.ref dp), x2, x3, x4, x5, x6, x7, x8, x9, x10, x11, x12, some (.bl (goodR rs)), x14, x15, x16, x17, x18, x19, x20, some (.lst (rs.map (rowD C))), x22, x23, x24] (dS S dp a b z) K Z := by
  have G := L.G
  have hu : X.A.units + 64 < cLine := by have := c.room.un; omega
  have g_sum := G.nb "sum" (by decide)
  have c0 := c
  -- good = good and [1 for place, cluster in drawn if (place == 0) == (cluster.kind == 'single')] == []
  refine ab_cons (as_set c hf 13 (by decide +kernel) ?_)
  refine ax_is (.bl (goodR rs && !rs.any badR)) ?_ ?_
  · refine ax_and ?_
    refine ax_var c 13 (by decide +kernel) rfl ?_
    refine ⟨_, rfl, iteB (fun hx => ?_) (fun hx => ?_)⟩
    · rw [hx, Bool.true_and]
      refine ax_one ?_
      refine ax_cmp (by first | exact nomark _ | rfl) ?_
      refine ax_lc c [("place", 5), ("cluster", 6)] (by decide +kernel) ?_
      refine ai_of c ?_
      refine ax_var c 21 (by decide +kernel) rfl ?_
      refine .inl ⟨_, .inl rfl, ?_⟩
      refine lcq_pure (fs := rs.map fun r => if badR r = true then some (D.int 1) else none) (by simp) (by simp; rw [sizeLine_eq]; omega) (fun _ _ => trivial) (fun i d o hd ho S' hS Y hY => ?_) ?_
      · have c := c0.isblk hY
        obtain ⟨⟨p, k, v⟩, hr, rfl⟩ := row_at hd
        have ho : o = if badR (p, k, v) = true then some (D.int 1) else none := by
          rw [List.getElem?_map, hr] at ho
          exact (Option.some.inj ho).symm
        refine ao_tup c (ds := [.int p, clu C k v]) rfl rfl ?_
        refine aos_cons ?_
        refine ao_name c 5 (by decide +kernel) (by decide) ?_
        refine aos_cons ?_
        refine ao_name c 6 (by decide +kernel) (by decide) ?_
        refine aos_nil ?_
        refine ⟨rfl, fun Y hY => ?_⟩
        have c := c0.isblk hY
        refine ats_one ?_
        refine at_cmp (by first | exact nomark _ | rfl) ?_
        refine ax_cmp (by first | exact nomark _ | rfl) ?_
        refine ax_var c 5 (by decide +kernel) rfl ?_
        refine ax_int ?_
        refine bd_eqi ?_
        refine ax_cmp (by first | exact nomark _ | rfl) ?_
        refine ax_fld c ?_ -- cluster.kind
        refine ax_var c 6 (by decide +kernel) rfl ?_
        refine ⟨C, _, _, .str k, rfl, G.cls, G.naK, rfl, ?_⟩
        refine ax_str ?_
        refine bd_eqs ?_
        refine bd_eqb ?_
        refine ⟨_, rfl, rfl, iteB (fun h => ?_) (fun h => ?_)⟩
        · intro Y hY
          have hb : badR (p, k, v) = true := h
          rw [if_pos hb] at ho
          exact ax_int ⟨rfl, ho⟩
        · have hb : badR (p, k, v) = false := h
          rw [hb, if_neg (by decide)] at ho
          exact ho
      rw [filterMap_ite]
      refine ax_lst ?_
      refine aa_nil ?_
      refine ⟨by walk_at "ln", ?_⟩
      have hP : toP (.lst ((rs.filter badR).map fun _ => D.int 1)) = some (.list ((rs.filter badR).map fun _ => PyData.int 1)) := by
        show (toPs ((rs.filter badR).map fun _ => D.int 1)).map PyData.list = _
        rw [toPs_map (g := fun _ => PyData.int 1) (fun x => rfl)]
        rfl
      refine bd_eqP c.hK hu (q := .list []) hP rfl (shaped_list (n := 0) (fun x _ => ⟨rfl, Nat.le_refl _⟩) (by decide)) rfl ?_
      refine ⟨?_, rfl⟩
      show D.bl (PyData.eqvAll _ []) = _
      rw [eqv_nil, ← any_filter]
      cases rs.filter badR <;> rfl
    · rw [hx]
      exact ⟨rfl, rfl⟩
  -- due = sum([cluster.many * [1, 10, 100, 1000, 10000, 100000, 0][place] for place, cluster in drawn])
  refine ab_cons (as_set c hf 22 (by decide +kernel) ?_)
  refine ax_bi c (by decide +kernel) g_sum rfl ?_
  refine aa_cons ?_
  refine ax_lc c [("place", 5), ("cluster", 6)] (by decide +kernel) ?_
  refine ai_of c ?_
  refine ax_var c 21 (by decide +kernel) rfl ?_
  refine .inl ⟨_, .inl rfl, ?_⟩
  refine lcq_pure (fs := (rs.map fun r => r.2.2 * tab r.1).map fun x => some (D.int x)) (by simp) (by simp; rw [sizeLine_eq]; omega) (fun _ _ => trivial) (fun i d o hd ho S' hS Y hY => ?_) ?_
  · have c := c0.isblk hY
    obtain ⟨⟨p, k, v⟩, hr, rfl⟩ := row_at hd
    have ho : o = some (.int (v * tab p)) := by
      rw [List.getElem?_map, List.getElem?_map, hr] at ho
      exact (Option.some.inj ho).symm
    obtain ⟨p0, p6, hkm⟩ := hrs _ (List.mem_of_getElem? hr)
    have hv : v ≤ 5 ∧ 1 ≤ v := by
      rcases hkm with ⟨_, h⟩ | ⟨_, h⟩ | ⟨_, h⟩ <;> (have h : v = _ := h; omega)
    refine ao_tup c (ds := [.int p, clu C k v]) rfl rfl ?_
    refine aos_cons ?_
    refine ao_name c 5 (by decide +kernel) (by decide) ?_
    refine aos_cons ?_
    refine ao_name c 6 (by decide +kernel) (by decide) ?_
    refine aos_nil ?_
    refine ⟨rfl, fun Y hY => ?_⟩
    refine ats_nil ⟨rfl, iteY rfl ?_⟩
    intro Y hY
    have c := c0.isblk hY
    refine ax_bin ?_
    refine ax_fld c ?_ -- cluster.many
    refine ax_var c 6 (by decide +kernel) rfl ?_
    refine ⟨C, _, _, .int v, rfl, G.cls, G.naM, rfl, ?_⟩
    refine ax_ix (fun _ _ => rfl) ?_
    refine ax_lst ?_
    refine aa_cons ?_
    refine ax_int ?_
    refine aa_cons ?_
    refine ax_int ?_
    refine aa_cons ?_
    refine ax_int ?_
    refine aa_cons ?_
    refine ax_int ?_
    refine aa_cons ?_
    refine ax_int ?_
    refine aa_cons ?_
    refine ax_int ?_
    refine aa_cons ?_
    refine ax_int ?_
    refine aa_nil ?_
    refine ⟨by walk_at "ln", ?_⟩
    refine ax_var c 5 (by decide +kernel) rfl ?_
    refine id_lst c.hK rfl (tab_at p0 p6) ?_
    exact bd_mul (.inl ⟨by omega, by omega⟩) ⟨rfl, ho⟩
  rw [filterMap_ints]
  refine aa_nil ?_
  refine cd_sum c.hK c.calm rfl ?_
  show AB F.M X W _ [x0, some (.ref dp), x2, x3, x4, x5, x6, x7, x8, x9, x10, x11, x12, some (.bl (goodR rs && !rs.any badR)), x14, x15, x16, x17, x18, x19, x20, some (.lst (rs.map (rowD C))), some (.int (dueV rs)), x23, x24] (dS S dp a b z) K Z
  -- if _law_told(lambda: number_of(drawn)) != (due if good else 'QuipuError'):
  refine ab_one (as_if ?_)
  refine at_is false ?_ ?_
  · refine at_cmp (by first | exact nomark _ | rfl) ?_
    refine ax_is (toldN rs) ?_ ?_
    · refine ax_told (k := 4) c HL L.told (by decide +kernel) (by decide +kernel) rfl (by intros; rfl) (fun Y WY hY => ?_)
      have cY := hY.1
      rw [c.hN] at cY
      refine ax_call cY L.num (by omega) (by decide +kernel) ?_
      refine aa_cons ?_
      refine ax_var cY 21 (by decide +kernel) rfl ?_
      refine aa_nil ?_
      exact ⟨_, rs, rfl, .inl rfl, fun v hv => ⟨(toldN_some hv).symm, rfl⟩, fun hn => ⟨G.exK, (toldN_none hn).symm, rfl⟩⟩
    · refine ax_is (toldN rs) ?_ ?_
      · have hd := drawn_nOf hrs
        refine ax_if ?_
        refine at_val ?_
        refine ax_var c 13 (by decide +kernel) rfl ?_
        refine ⟨_, rfl, iteB (fun hx => ?_) (fun hx => ?_)⟩
        · rw [if_pos hx] at hd
          exact ax_var c 22 (by decide +kernel) rfl ⟨(toldN_some hd).symm, rfl⟩
        · rw [hx, if_neg (by decide)] at hd
          exact ax_str ⟨(toldN_none hd).symm, rfl⟩
      · unfold toldN
        cases nOf 6 0 rs with
        | none => exact bd_nes ⟨_, rfl, by simp, rfl⟩
        | some v => exact bd_nei ⟨_, rfl, by simp, rfl⟩
  refine iteN rfl ?_
  exact ab_nil (h _ _)
end
end QD
set_option maxHeartbeats 4000000
namespace QD
open PySem PySem.Spec PyProof.Rows L2 GenW
set_option hygiene false
local macro_rules | `(tactic| walk_at "mulc") => `(tactic| first | exact .inl ⟨by decide, by decide⟩ | exact .inr ⟨by decide, by decide⟩ | exact .inl ⟨by omega, by omega⟩ | exact .inr ⟨by omega, by omega⟩)
local macro_rules | `(tactic| walk_at "ne") => `(tactic| first | assumption | (apply Ne.symm; assumption))
local macro_rules | `(tactic| walk_at "sto") => `(tactic| first | assumption | exact Sto.put_same | (refine (Sto.put_ne (by walk_at "ne")).trans ?_; walk_at "sto"))
local macro_rules | `(tactic| walk_at "vw") => `(tactic| first | rfl | assumption | exact view_lst (by walk_at "sto") | exact view_dct (by walk_at "sto") | exact view_dcu (by walk_at "sto") | exact view_ins (by walk_at "sto") | exact view_fdct (by walk_at "sto"))
local macro_rules | `(tactic| walk_at "ln") => `(tactic| first | decide | exact Nat.le_of_ble_eq_true rfl | (simp only [sizeLine_eq]; omega) | assumption)
local macro_rules | `(tactic| walk_at "bd") => `(tactic| first
  | refine bd_add ?_ | refine bd_sub ?_ | refine bd_mul (by walk_at "mulc") ?_ | refine bd_div ⟨by first | decide | omega, by first | decide | omega⟩ ?_ | refine bd_mod (by first | decide | omega) ?_
  | refine bd_pow ⟨by decide, by decide, by decide⟩ ?_ | refine bd_adds (by walk_at "ln") ?_
  | refine bd_eqi ?_ | refine bd_nei ?_ | refine bd_eqs ?_ | refine bd_nes ?_ | refine bd_eqb ?_ | refine bd_lt ?_ | refine bd_le ?_ | refine bd_gt ?_ | refine bd_ge ?_ | refine bd_isN ?_ | refine bd_notN ?_
  | refine bd_inC ?_ | refine bd_ninC ?_ | refine bd_inS ?_ | refine bd_ninS ?_
  | refine bd_eq rfl rfl rfl ?_ | refine bd_ne rfl rfl rfl ?_
  | refine bd_inK (hu_of c.room) (by walk_at "vw") ?_ | refine bd_ninK (hu_of c.room) (by walk_at "vw") ?_
  | refine bd_inQ c.hK rfl (by first | exact .inl (by walk_at "vw") | exact .inr (by walk_at "vw")) rfl ?_ | refine bd_ninQ c.hK rfl (by first | exact .inl (by walk_at "vw") | exact .inr (by walk_at "vw")) rfl ?_
  | refine bd_cat (by walk_at "vw") (by walk_at "vw") (by walk_at "ln") ?_)
local macro_rules | `(tactic| walk_at "id") => `(tactic| first
  | refine id_lst c.hK (by walk_at "vw") (by rfl) ?_ | refine id_tup c.hK (by walk_at "vw") (by rfl) ?_ | refine id_str (by walk_at "ln") (by rfl) ?_ | refine id_dct (hu_of c.room) (by walk_at "vw") (by rfl) ?_)
local macro_rules | `(tactic| walk_at "lg") => `(tactic| first | decide | (apply log_lt; omega) | assumption)
local macro_rules | `(tactic| walk_at "cd") => `(tactic| first
  | refine cd_lens (by walk_at "ln") ?_ | refine cd_len c.hK (.inl (by walk_at "vw")) ?_ | refine cd_len c.hK (.inr (by walk_at "vw")) ?_ | refine cd_int ?_ | refine cd_intb ?_ | refine cd_str (by walk_at "lg") ?_
  | refine cd_abs ?_ | refine cd_tupleF c.hK (by walk_at "vw") ?_)
local macro_rules | `(tactic| walk_at "fld") => `(tactic| refine ⟨_, _, _, _, by walk_at "vw", G.cls, by first | exact G.naK | exact G.naM, rfl, ?_⟩)
open TL
section
variable {F : Fix} {C CK CT CQ : Addr} {X : Cx} {W : WX} {S : Sto} {K : AK} {Z : ZK}
/-- a lambda without captured names that told answers with QuipuError -/
def Tells (F : Fix) (CQ : Addr) (S : Sto) (d : D) : Prop := ∃ q ps body scope, d = .fnc q ps body scope [] ∧ fncSB scope = true ∧ (∀ (pm cv ctv : Value), bindArgs (PySem.W.kla_fn "<lambda>" q ps body scope [] pm cv ctv) ⟨[], []⟩ = pure []) ∧
  ∀ Y WY, IsFnc F 4 scope Y WY → ∀ (R : RK) (Zt : ZK), (∀ C, PySem.W.exmOne F.M.K (.ref C) (.ref CQ) = some true → Zt C S) → AX F.M Y WY body [] S R Zt
theorem nOf_none {rs : List Row} (h : nOf 6 0 rs = none) : nOf 6 0 rs ≠ some 0 := fun e => by rw [h] at e; cases e
def lamE (e : Expr) : Arguments × Expr × Scope := match e with
  | .Lambda ps body scope _ => (ps, body, scope)
  | _ => (⟨[], [], none, [], [], none, []⟩, e, { kind := .function, names := [], isGenerator := false, isCoroutine := false })
def badE : List Expr := match (defBody sLaw).getD 1 (.Pass ⟨0, 0, 0, 0⟩) with
  | .Assign _ (.List es _) _ => es
  | _ => []
def lamD (q : Str) (e : Expr) : D := .fnc q (lamE e).1 (lamE e).2.1 (lamE e).2.2 []
abbrev bE (i : Nat) : Expr := badE.getD i (.Constant .none 0 ⟨0, 0, 0, 0⟩)
theorem rd_const {t : Str} (ps : List Str) (hne : ps ≠ []) (hp : ∀ p ∈ ps, 32 ∉ tl p) (ht : Txt.join " " ps = t) (hd : t ≠ "-") (hr : rdP ps = none) (hl : ∀ p ∈ ps, p.length ≤ sizeLine) : rdk t = none ∧ (t ≠ "-" → Txt.split t " " ≠ [] ∧ ∀ p ∈ Txt.split t " ", p.length ≤ sizeLine) := by
  have hs : Txt.split t " " = ps := by
    rw [← ht]
    exact TL.split_join (s := 32) (S := []) (by decide +kernel) (by decide +kernel) hne hp
  rw [rdk, if_neg hd, hs]
  exact ⟨hr, fun _ => ⟨hne, hl⟩⟩
section
variable {N : List Str} {sc : Scope} {k : Nat} {Γ : Ga} {R : RK}
set_option hygiene false in
theorem tell_0 (L : GL F C CK CT CQ) (q : Str) : Tells F CQ S (lamD q (bE 0)) := by
  refine ⟨q, _, _, _, rfl, by decide +kernel, by intros; rfl, fun Y WY hY R Zt hZ => ?_⟩
  have c : XC F [] _ 4 Y WY := hY
  have zK := hZ CK L.G.exK
  have zT := hZ CT L.G.exT
  show AX F.M Y WY (lamE (bE 0)).2.1 [] S R Zt
  refine ax_call c L.cfs (by omega) (by decide +kernel) ?_
  refine aa_cons ?_
  refine ax_un ?_
  refine ax_int ?_
  refine ud_neg ?_
  refine aa_nil ?_
  exact ⟨-1, rfl, by decide, by decide, fun m e _ => absurd e (by omega), fun _ => zK⟩
set_option hygiene false in
theorem tell_1 (L : GL F C CK CT CQ) (q : Str) : Tells F CQ S (lamD q (bE 1)) := by
  refine ⟨q, _, _, _, rfl, by decide +kernel, by intros; rfl, fun Y WY hY R Zt hZ => ?_⟩
  have c : XC F [] _ 4 Y WY := hY
  have zK := hZ CK L.G.exK
  have zT := hZ CT L.G.exT
  show AX F.M Y WY (lamE (bE 1)).2.1 [] S R Zt
  refine ax_call c L.cfs (by omega) (by decide +kernel) ?_
  refine aa_cons ?_
  refine ax_int ?_
  refine aa_nil ?_
  exact ⟨1000000, rfl, by decide, by decide, fun m e h => absurd h (by omega), fun _ => zK⟩
set_option hygiene false in
theorem tell_2 (L : GL F C CK CT CQ) (q : Str) : Tells F CQ S (lamD q (bE 2)) := by
  refine ⟨q, _, _, _, rfl, by decide +kernel, by intros; rfl, fun Y WY hY R Zt hZ => ?_⟩
  have c : XC F [] _ 4 Y WY := hY
  have zK := hZ CK L.G.exK
  have zT := hZ CT L.G.exT
  show AX F.M Y WY (lamE (bE 2)).2.1 [] S R Zt
  refine ax_call c L.kt (by omega) (by decide +kernel) ?_
  refine aa_cons ?_
  refine ax_un ?_
  refine ax_int ?_
  refine ud_neg ?_
  refine aa_nil ?_
  exact ⟨-1, rfl, by decide, by decide, fun m e _ => absurd e (by omega), fun _ => zK⟩
set_option hygiene false in
theorem tell_3 (L : GL F C CK CT CQ) (q : Str) : Tells F CQ S (lamD q (bE 3)) := by
  refine ⟨q, _, _, _, rfl, by decide +kernel, by intros; rfl, fun Y WY hY R Zt hZ => ?_⟩
  have c : XC F [] _ 4 Y WY := hY
  have zK := hZ CK L.G.exK
  have zT := hZ CT L.G.exT
  show AX F.M Y WY (lamE (bE 3)).2.1 [] S R Zt
  refine ax_call c L.cnt (by omega) (by decide +kernel) ?_
  refine aa_cons ?_
  refine ax_int ?_
  refine aa_nil ?_
  exact ⟨1000000, rfl, by decide, by decide, fun m e h => absurd h (by omega), fun _ => zK⟩
set_option hygiene false in
theorem tell_4 (L : GL F C CK CT CQ) (q : Str) : Tells F CQ S (lamD q (bE 4)) := by
  refine ⟨q, _, _, _, rfl, by decide +kernel, by intros; rfl, fun Y WY hY R Zt hZ => ?_⟩
  have c : XC F [] _ 4 Y WY := hY
  have zK := hZ CK L.G.exK
  have zT := hZ CT L.G.exT
  show AX F.M Y WY (lamE (bE 4)).2.1 [] S R Zt
  refine ax_call c L.str (by omega) (by decide +kernel) ?_
  refine aa_cons ?_
  refine ax_un ?_
  refine ax_int ?_
  refine ud_neg ?_
  refine aa_cons ?_
  refine ax_int ?_
  refine aa_nil ?_
  exact ⟨-1, 1, rfl, by decide, by decide, by decide, by decide, fun m e _ _ => absurd e (by omega), fun _ => zK⟩
set_option hygiene false in
theorem tell_5 (L : GL F C CK CT CQ) (q : Str) : Tells F CQ S (lamD q (bE 5)) := by
  refine ⟨q, _, _, _, rfl, by decide +kernel, by intros; rfl, fun Y WY hY R Zt hZ => ?_⟩
  have c : XC F [] _ 4 Y WY := hY
  have zK := hZ CK L.G.exK
  have zT := hZ CT L.G.exT
  show AX F.M Y WY (lamE (bE 5)).2.1 [] S R Zt
  refine ax_call c L.str (by omega) (by decide +kernel) ?_
  refine aa_cons ?_
  refine ax_int ?_
  refine aa_cons ?_
  refine ax_un ?_
  refine ax_int ?_
  refine ud_neg ?_
  refine aa_nil ?_
  exact ⟨1, -1, rfl, by decide, by decide, by decide, by decide, fun m e _ h => absurd h (by decide), fun _ => zK⟩
set_option hygiene false in
theorem tell_6 (L : GL F C CK CT CQ) (q : Str) : Tells F CQ S (lamD q (bE 6)) := by
  refine ⟨q, _, _, _, rfl, by decide +kernel, by intros; rfl, fun Y WY hY R Zt hZ => ?_⟩
  have c : XC F [] _ 4 Y WY := hY
  have zK := hZ CK L.G.exK
  have zT := hZ CT L.G.exT
  show AX F.M Y WY (lamE (bE 6)).2.1 [] S R Zt
  refine ax_call c L.cof (by omega) (by decide +kernel) ?_
  refine aa_cons ?_
  refine ax_str ?_
  refine aa_nil ?_
  exact ⟨_, rfl, by decide +kernel, fun k m h => (by rw [show cof ("" : Str) = none from by decide +kernel] at h; cases h), fun _ => zT⟩
set_option hygiene false in
theorem tell_7 (L : GL F C CK CT CQ) (q : Str) : Tells F CQ S (lamD q (bE 7)) := by
  refine ⟨q, _, _, _, rfl, by decide +kernel, by intros; rfl, fun Y WY hY R Zt hZ => ?_⟩
  have c : XC F [] _ 4 Y WY := hY
  have zK := hZ CK L.G.exK
  have zT := hZ CT L.G.exT
  show AX F.M Y WY (lamE (bE 7)).2.1 [] S R Zt
  refine ax_call c L.cof (by omega) (by decide +kernel) ?_
  refine aa_cons ?_
  refine ax_str ?_
  refine aa_nil ?_
  exact ⟨_, rfl, by decide +kernel, fun k m h => (by rw [show cof ("l1" : Str) = none from by decide +kernel] at h; cases h), fun _ => zT⟩
set_option hygiene false in
theorem tell_8 (L : GL F C CK CT CQ) (q : Str) : Tells F CQ S (lamD q (bE 8)) := by
  refine ⟨q, _, _, _, rfl, by decide +kernel, by intros; rfl, fun Y WY hY R Zt hZ => ?_⟩
  have c : XC F [] _ 4 Y WY := hY
  have zK := hZ CK L.G.exK
  have zT := hZ CT L.G.exT
  show AX F.M Y WY (lamE (bE 8)).2.1 [] S R Zt
  refine ax_call c L.cof (by omega) (by decide +kernel) ?_
  refine aa_cons ?_
  refine ax_str ?_
  refine aa_nil ?_
  exact ⟨_, rfl, by decide +kernel, fun k m h => (by rw [show cof ("s0" : Str) = none from by decide +kernel] at h; cases h), fun _ => zT⟩
set_option hygiene false in
theorem tell_9 (L : GL F C CK CT CQ) (q : Str) : Tells F CQ S (lamD q (bE 9)) := by
  refine ⟨q, _, _, _, rfl, by decide +kernel, by intros; rfl, fun Y WY hY R Zt hZ => ?_⟩
  have c : XC F [] _ 4 Y WY := hY
  have zK := hZ CK L.G.exK
  have zT := hZ CT L.G.exT
  show AX F.M Y WY (lamE (bE 9)).2.1 [] S R Zt
  refine ax_call c L.cof (by omega) (by decide +kernel) ?_
  refine aa_cons ?_
  refine ax_str ?_
  refine aa_nil ?_
  exact ⟨_, rfl, by decide +kernel, fun k m h => (by rw [show cof ("e1" : Str) = none from by decide +kernel] at h; cases h), fun _ => zT⟩
set_option hygiene false in
theorem tell_10 (L : GL F C CK CT CQ) (q : Str) : Tells F CQ S (lamD q (bE 10)) := by
  refine ⟨q, _, _, _, rfl, by decide +kernel, by intros; rfl, fun Y WY hY R Zt hZ => ?_⟩
  have c : XC F [] _ 4 Y WY := hY
  have zK := hZ CK L.G.exK
  have zT := hZ CT L.G.exT
  show AX F.M Y WY (lamE (bE 10)).2.1 [] S R Zt
  refine ax_call c L.rd (by omega) (by decide +kernel) ?_
  refine aa_cons ?_
  refine ax_str ?_
  refine aa_nil ?_
  have hc := rd_const (t := ("" : Str)) ([""] : List Str) (by simp) (by decide +kernel) (by decide +kernel) (by decide +kernel) (by decide +kernel) (by decide +kernel)
  exact ⟨_, rfl, by decide +kernel, hc.2, fun v h => (by rw [hc.1] at h; cases h), fun _ => ⟨zK, zT⟩⟩
set_option hygiene false in
theorem tell_11 (L : GL F C CK CT CQ) (q : Str) : Tells F CQ S (lamD q (bE 11)) := by
  refine ⟨q, _, _, _, rfl, by decide +kernel, by intros; rfl, fun Y WY hY R Zt hZ => ?_⟩
  have c : XC F [] _ 4 Y WY := hY
  have zK := hZ CK L.G.exK
  have zT := hZ CT L.G.exT
  show AX F.M Y WY (lamE (bE 11)).2.1 [] S R Zt
  refine ax_call c L.rd (by omega) (by decide +kernel) ?_
  refine aa_cons ?_
  refine ax_str ?_
  refine aa_nil ?_
  have hc := rd_const (t := (". l2" : Str)) ([".", "l2"] : List Str) (by simp) (by decide +kernel) (by decide +kernel) (by decide +kernel) (by decide +kernel) (by decide +kernel)
  exact ⟨_, rfl, by decide +kernel, hc.2, fun v h => (by rw [hc.1] at h; cases h), fun _ => ⟨zK, zT⟩⟩
set_option hygiene false in
theorem tell_12 (L : GL F C CK CT CQ) (q : Str) : Tells F CQ S (lamD q (bE 12)) := by
  refine ⟨q, _, _, _, rfl, by decide +kernel, by intros; rfl, fun Y WY hY R Zt hZ => ?_⟩
  have c : XC F [] _ 4 Y WY := hY
  have zK := hZ CK L.G.exK
  have zT := hZ CT L.G.exT
  show AX F.M Y WY (lamE (bE 12)).2.1 [] S R Zt
  refine ax_call c L.rd (by omega) (by decide +kernel) ?_
  refine aa_cons ?_
  refine ax_str ?_
  refine aa_nil ?_
  have hc := rd_const (t := ("s1 s1" : Str)) (["s1", "s1"] : List Str) (by simp) (by decide +kernel) (by decide +kernel) (by decide +kernel) (by decide +kernel) (by decide +kernel)
  exact ⟨_, rfl, by decide +kernel, hc.2, fun v h => (by rw [hc.1] at h; cases h), fun _ => ⟨zK, zT⟩⟩
set_option hygiene false in
theorem tell_13 (L : GL F C CK CT CQ) (q : Str) : Tells F CQ S (lamD q (bE 13)) := by
  refine ⟨q, _, _, _, rfl, by decide +kernel, by intros; rfl, fun Y WY hY R Zt hZ => ?_⟩
  have c : XC F [] _ 4 Y WY := hY
  have zK := hZ CK L.G.exK
  have zT := hZ CT L.G.exT
  show AX F.M Y WY (lamE (bE 13)).2.1 [] S R Zt
  refine ax_call c L.rd (by omega) (by decide +kernel) ?_
  refine aa_cons ?_
  refine ax_str ?_
  refine aa_nil ?_
  have hc := rd_const (t := ("l2 l2" : Str)) (["l2", "l2"] : List Str) (by simp) (by decide +kernel) (by decide +kernel) (by decide +kernel) (by decide +kernel) (by decide +kernel)
  exact ⟨_, rfl, by decide +kernel, hc.2, fun v h => (by rw [hc.1] at h; cases h), fun _ => ⟨zK, zT⟩⟩
set_option hygiene false in
theorem tell_14 (L : GL F C CK CT CQ) (q : Str) : Tells F CQ S (lamD q (bE 14)) := by
  refine ⟨q, _, _, _, rfl, by decide +kernel, by intros; rfl, fun Y WY hY R Zt hZ => ?_⟩
  have c : XC F [] _ 4 Y WY := hY
  have zK := hZ CK L.G.exK
  have zT := hZ CT L.G.exT
  show AX F.M Y WY (lamE (bE 14)).2.1 [] S R Zt
  refine ax_call c L.rd (by omega) (by decide +kernel) ?_
  refine aa_cons ?_
  refine ax_str ?_
  refine aa_nil ?_
  have hc := rd_const (t := ("s1  l2" : Str)) (["s1", "", "l2"] : List Str) (by simp) (by decide +kernel) (by decide +kernel) (by decide +kernel) (by decide +kernel) (by decide +kernel)
  exact ⟨_, rfl, by decide +kernel, hc.2, fun v h => (by rw [hc.1] at h; cases h), fun _ => ⟨zK, zT⟩⟩
set_option hygiene false in
theorem tell_15 (L : GL F C CK CT CQ) (q : Str) : Tells F CQ S (lamD q (bE 15)) := by
  refine ⟨q, _, _, _, rfl, by decide +kernel, by intros; rfl, fun Y WY hY R Zt hZ => ?_⟩
  have c : XC F [] _ 4 Y WY := hY
  have zK := hZ CK L.G.exK
  have zT := hZ CT L.G.exT
  show AX F.M Y WY (lamE (bE 15)).2.1 [] S R Zt
  refine ax_call c L.rd (by omega) (by decide +kernel) ?_
  refine aa_cons ?_
  refine ax_str ?_
  refine aa_nil ?_
  have hc := rd_const (t := ("s1 . . . . . e" : Str)) (["s1", ".", ".", ".", ".", ".", "e"] : List Str) (by simp) (by decide +kernel) (by decide +kernel) (by decide +kernel) (by decide +kernel) (by decide +kernel)
  exact ⟨_, rfl, by decide +kernel, hc.2, fun v h => (by rw [hc.1] at h; cases h), fun _ => ⟨zK, zT⟩⟩
end
end
end QD
set_option maxHeartbeats 4000000
namespace QD
open PySem PySem.Spec PyProof.Rows L2 GenW
set_option hygiene false
local macro_rules | `(tactic| walk_at "mulc") => `(tactic| first | exact .inl ⟨by decide, by decide⟩ | exact .inr ⟨by decide, by decide⟩ | exact .inl ⟨by omega, by omega⟩ | exact .inr ⟨by omega, by omega⟩)
local macro_rules | `(tactic| walk_at "ne") => `(tactic| first | assumption | (apply Ne.symm; assumption))
local macro_rules | `(tactic| walk_at "sto") => `(tactic| first | assumption | exact Sto.put_same | (refine (Sto.put_ne (by walk_at "ne")).trans ?_; walk_at "sto"))
local macro_rules | `(tactic| walk_at "vw") => `(tactic| first | rfl | assumption | exact view_lst (by walk_at "sto") | exact view_dct (by walk_at "sto") | exact view_dcu (by walk_at "sto") | exact view_ins (by walk_at "sto") | exact view_fdct (by walk_at "sto"))
local macro_rules | `(tactic| walk_at "ln") => `(tactic| first | decide | exact Nat.le_of_ble_eq_true rfl | (simp only [sizeLine_eq]; omega) | assumption)
local macro_rules | `(tactic| walk_at "bd") => `(tactic| first
  | refine bd_add ?_ | refine bd_sub ?_ | refine bd_mul (by walk_at "mulc") ?_ | refine bd_div ⟨by first | decide | omega, by first | decide | omega⟩ ?_ | refine bd_mod (by first | decide | omega) ?_
  | refine bd_pow ⟨by decide, by decide, by decide⟩ ?_ | refine bd_adds (by walk_at "ln") ?_
  | refine bd_eqi ?_ | refine bd_nei ?_ | refine bd_eqs ?_ | refine bd_nes ?_ | refine bd_eqb ?_ | refine bd_lt ?_ | refine bd_le ?_ | refine bd_gt ?_ | refine bd_ge ?_ | refine bd_isN ?_ | refine bd_notN ?_
  | refine bd_inC ?_ | refine bd_ninC ?_ | refine bd_inS ?_ | refine bd_ninS ?_
  | refine bd_eq rfl rfl rfl ?_ | refine bd_ne rfl rfl rfl ?_
  | refine bd_inK (hu_of c.room) (by walk_at "vw") ?_ | refine bd_ninK (hu_of c.room) (by walk_at "vw") ?_
  | refine bd_inQ c.hK rfl (by first | exact .inl (by walk_at "vw") | exact .inr (by walk_at "vw")) rfl ?_ | refine bd_ninQ c.hK rfl (by first | exact .inl (by walk_at "vw") | exact .inr (by walk_at "vw")) rfl ?_
  | refine bd_cat (by walk_at "vw") (by walk_at "vw") (by walk_at "ln") ?_)
local macro_rules | `(tactic| walk_at "id") => `(tactic| first
  | refine id_lst c.hK (by walk_at "vw") (by rfl) ?_ | refine id_tup c.hK (by walk_at "vw") (by rfl) ?_ | refine id_str (by walk_at "ln") (by rfl) ?_ | refine id_dct (hu_of c.room) (by walk_at "vw") (by rfl) ?_)
local macro_rules | `(tactic| walk_at "lg") => `(tactic| first | decide | (apply log_lt; omega) | assumption)
local macro_rules | `(tactic| walk_at "cd") => `(tactic| first
  | refine cd_lens (by walk_at "ln") ?_ | refine cd_len c.hK (.inl (by walk_at "vw")) ?_ | refine cd_len c.hK (.inr (by walk_at "vw")) ?_ | refine cd_int ?_ | refine cd_intb ?_ | refine cd_str (by walk_at "lg") ?_
  | refine cd_abs ?_ | refine cd_tupleF c.hK (by walk_at "vw") ?_)
local macro_rules | `(tactic| walk_at "fld") => `(tactic| refine ⟨_, _, _, _, by walk_at "vw", G.cls, by first | exact G.naK | exact G.naM, rfl, ?_⟩)
open TL
section
variable {F : Fix} {C CK CT CQ : Addr} {X : Cx} {W : WX} {S : Sto} {K : AK} {Z : ZK}
theorem lamD_eq {q : Str} {i : Nat} {ps : Arguments} {body : Expr} {scope : Scope} {pos : Pos} (h : bE i = .Lambda ps body scope pos) : D.fnc q ps body scope [] = lamD q (bE i) := by rw [lamD, h]; rfl
set_option hygiene false in
theorem law_z (c : XC F nLaw (defScope sLaw) 6 X W) (hf : ∀ x, X.fn x = true) (L : GL F C CK CT CQ) (HL : XL F X) {x0 x1 x2 x3 x4 x5 x6 x7 x8 x9 x10 x11 x12 x13 x14 x15 x16 x17 x18 x19 x20 x21 x22 x23 x24 : Option D}
    (h : K.rt (.bl true) S) :
    AB F.M X W ((defBody sLaw).drop 1) [x0, x1, x2, x3, x4, x5, x6, x7, x8, x9, x10, x11, x12, x13, x14, x15, x16, x17, x18, x19, x20, x21, x22, x23, x24] S K Z := by
  have G := L.G
  have hu : X.A.units + 64 < cLine := by have := c.room.un; omega
  have c0 := c
  have g_LONG_LEAST := G.ll
  have g_LONG_MOST := G.lm
  have g_MOST_PLACES := G.mp
  have gt := told_fn L.told 4
  obtain ⟨q, hq⟩ : ∃ q, X.env.qual ++ "<lambda>" = q := ⟨_, rfl⟩
  -- bad = [..]
  refine ab_cons (as_set c hf 23 (by decide +kernel) ?_)
  refine ax_is (.lst ((List.range 16).map fun i => lamD q (bE i))) ?_ ?_
  · refine ax_lst ?_
    iterate 16
      refine aa_cons ?_
      refine ax_lam c HL (by decide +kernel) rfl ?_
    refine aa_nil ?_
    rw [hq]
    exact ⟨by walk_at "ln", rfl, rfl⟩
  -- return ..
  refine ab_one (as_ret ?_)
  refine ax_is (.bl true) ?_ h
  refine ax_and ?_
  refine ax_is (.bl true) ?_ ⟨_, rfl, iteY rfl ?_⟩
  · refine ax_cmp (by first | exact nomark _ | rfl) ?_
    refine ax_lc c [("f", 24)] (by decide +kernel) ?_
    refine ai_of c ?_
    refine ax_var c 23 (by decide +kernel) rfl ?_
    refine .inl ⟨_, .inl rfl, ?_⟩
    refine lcq_pure (fs := (List.range 16).map fun _ => none) (by simp) (by rw [List.length_map, List.length_range]; decide) (fun _ _ => trivial) (fun i d o hd ho S' hS Y hY => ?_) ?_
    · have c := c0.isblk hY
      have hi : i < 16 := by have := (List.getElem?_eq_some_iff.mp ho).1; simpa using this
      have ho : o = none := by
        rw [List.getElem?_map, List.getElem?_range hi] at ho
        exact (Option.some.inj ho).symm
      have hd : d = lamD q (bE i) := by
        rw [List.getElem?_map, List.getElem?_range hi] at hd
        exact (Option.some.inj hd).symm
      have ht : Tells F CQ S' (lamD q (bE i)) := by
        match i, hi with
        | 0, _ => exact tell_0 L q
        | 1, _ => exact tell_1 L q
        | 2, _ => exact tell_2 L q
        | 3, _ => exact tell_3 L q
        | 4, _ => exact tell_4 L q
        | 5, _ => exact tell_5 L q
        | 6, _ => exact tell_6 L q
        | 7, _ => exact tell_7 L q
        | 8, _ => exact tell_8 L q
        | 9, _ => exact tell_9 L q
        | 10, _ => exact tell_10 L q
        | 11, _ => exact tell_11 L q
        | 12, _ => exact tell_12 L q
        | 13, _ => exact tell_13 L q
        | 14, _ => exact tell_14 L q
        | 15, _ => exact tell_15 L q
      subst hd
      refine ao_name c 24 (by decide +kernel) (by decide) ?_
      refine ⟨rfl, fun Y hY => ?_⟩
      have c := c0.isblk hY
      refine ats_one ?_
      refine at_cmp (by first | exact nomark _ | rfl) ?_
      refine ax_call c gt (by omega) (by decide +kernel) ?_
      refine aa_cons ?_
      refine ax_var c 24 (by decide +kernel) rfl ?_
      refine aa_nil ?_
      obtain ⟨q', ps, body, scope, e1, e2, e3, e4⟩ := ht
      refine ⟨q', ps, body, scope, by rw [e1], e2, e3, fun Y WY hY => e4 Y WY hY _ _ fun C hC => ⟨hC, ?_⟩⟩
      refine ax_str ?_
      refine bd_nes ?_
      refine ⟨_, rfl, rfl, iteN (by simp) ho⟩
    · refine ax_lst ?_
      refine aa_nil ?_
      refine ⟨by walk_at "ln", ?_⟩
      refine bd_eqP c.hK hu (p := .list []) (q := .list []) rfl rfl rfl rfl ?_
      exact ⟨rfl, rfl⟩
  refine ax_and ?_
  refine ax_cmp (by first | exact nomark _ | rfl) ?_
  refine ax_tup ?_
  refine aa_cons ?_
  refine ax_gl c (by decide +kernel) g_LONG_LEAST ?_
  refine aa_cons ?_
  refine ax_gl c (by decide +kernel) g_LONG_MOST ?_
  refine aa_cons ?_
  refine ax_gl c (by decide +kernel) g_MOST_PLACES ?_
  refine aa_nil ?_
  refine ⟨by walk_at "ln", ?_⟩
  refine ax_tup ?_
  refine aa_cons ?_
  refine ax_int ?_
  refine aa_cons ?_
  refine ax_int ?_
  refine aa_cons ?_
  refine ax_int ?_
  refine aa_nil ?_
  refine ⟨by walk_at "ln", ?_⟩
  refine bd_eqP c.hK hu (p := .tuple [.int 2, .int 9, .int 6]) (q := .tuple [.int 2, .int 9, .int 6]) rfl rfl rfl rfl ?_
  refine ⟨_, rfl, iteY rfl ?_⟩
  refine ax_and ?_
  refine ax_cmp (by first | exact nomark _ | rfl) ?_
  refine ax_call c L.kt (by omega) (by decide +kernel) ?_
  refine aa_cons ?_
  refine ax_int ?_
  refine aa_nil ?_
  refine ⟨407, rfl, by decide, by decide, fun m e _ => ?_, fun hx => absurd (by decide) hx⟩
  obtain rfl : m = 407 := by omega
  rw [show lawText 407 = ("s4 . l7" : Str) from by decide +kernel]
  refine ax_str ?_
  refine bd_eqs ?_
  refine ⟨_, rfl, iteY (by simp) ?_⟩
  refine ax_and ?_
  refine ax_cmp (by first | exact nomark _ | rfl) ?_
  refine ax_call c L.kt (by omega) (by decide +kernel) ?_
  refine aa_cons ?_
  refine ax_int ?_
  refine aa_nil ?_
  refine ⟨31, rfl, by decide, by decide, fun m e _ => ?_, fun hx => absurd (by decide) hx⟩
  obtain rfl : m = 31 := by omega
  rw [show lawText 31 = ("s3 e" : Str) from by decide +kernel]
  refine ax_str ?_
  refine bd_eqs ?_
  refine ⟨_, rfl, iteY (by simp) ?_⟩
  refine ax_and ?_
  refine ax_cmp (by first | exact nomark _ | rfl) ?_
  refine ax_call c L.rd (by omega) (by decide +kernel) ?_
  refine aa_cons ?_
  refine ax_str ?_
  refine aa_nil ?_
  have e20 : lawText 20 = ("s2 ." : Str) := by decide +kernel
  have h20 : (20 : Nat) < 10 ^ 6 := by decide
  rw [← e20]
  refine ⟨_, rfl, lt_len h20, lt_split h20, fun v hv => ?_, fun hn => by rw [lt_read h20] at hn; cases hn⟩
  rw [lt_read h20] at hv
  cases hv
  refine ax_int ?_
  refine bd_eqi ?_
  refine ⟨_, rfl, iteY (by decide) ?_⟩
  refine ax_and ?_
  refine ax_cmp (by first | exact nomark _ | rfl) ?_
  refine ax_call c L.cfs (by omega) (by decide +kernel) ?_
  refine aa_cons ?_
  refine ax_int ?_
  refine aa_nil ?_
  refine ⟨0, rfl, by decide, by decide, fun m e _ => ?_, fun hx => absurd (by decide) hx⟩
  obtain rfl : m = 0 := by omega
  rw [rows_zero]
  refine ax_tup ?_
  refine aa_nil ?_
  refine ⟨by walk_at "ln", ?_⟩
  refine bd_eqP c.hK hu (p := .tuple []) (q := .tuple []) rfl rfl rfl rfl ?_
  refine ⟨_, rfl, iteY rfl ?_⟩
  refine ax_one ?_
  refine ax_cmp (by first | exact nomark _ | rfl) ?_
  refine ax_call c L.num (by omega) (by decide +kernel) ?_
  refine aa_cons ?_
  refine ax_lst ?_
  refine aa_nil ?_
  refine ⟨by walk_at "ln", ?_⟩
  refine aa_nil ?_
  refine ⟨_, [], rfl, .inl rfl, fun v hv => ?_, fun hn => by cases hn⟩
  cases hv
  refine ax_int ?_
  exact bd_eqi ⟨rfl, rfl⟩
end
end QD
set_option maxHeartbeats 4000000
namespace QD
open PySem PySem.Spec PyProof.Rows L2 GenW
set_option hygiene false
local macro_rules | `(tactic| walk_at "mulc") => `(tactic| first | exact .inl ⟨by decide, by decide⟩ | exact .inr ⟨by decide, by decide⟩ | exact .inl ⟨by omega, by omega⟩ | exact .inr ⟨by omega, by omega⟩)
local macro_rules | `(tactic| walk_at "ne") => `(tactic| first | assumption | (apply Ne.symm; assumption))
local macro_rules | `(tactic| walk_at "sto") => `(tactic| first | assumption | exact Sto.put_same | (refine (Sto.put_ne (by walk_at "ne")).trans ?_; walk_at "sto"))
local macro_rules | `(tactic| walk_at "vw") => `(tactic| first | rfl | assumption | exact view_lst (by walk_at "sto") | exact view_dct (by walk_at "sto") | exact view_dcu (by walk_at "sto") | exact view_ins (by walk_at "sto") | exact view_fdct (by walk_at "sto"))
local macro_rules | `(tactic| walk_at "ln") => `(tactic| first | decide | exact Nat.le_of_ble_eq_true rfl | (simp only [sizeLine_eq]; omega) | assumption)
local macro_rules | `(tactic| walk_at "bd") => `(tactic| first
  | refine bd_add ?_ | refine bd_sub ?_ | refine bd_mul (by walk_at "mulc") ?_ | refine bd_div ⟨by first | decide | omega, by first | decide | omega⟩ ?_ | refine bd_mod (by first | decide | omega) ?_
  | refine bd_pow ⟨by decide, by decide, by decide⟩ ?_ | refine bd_adds (by walk_at "ln") ?_
  | refine bd_eqi ?_ | refine bd_nei ?_ | refine bd_eqs ?_ | refine bd_nes ?_ | refine bd_eqb ?_ | refine bd_lt ?_ | refine bd_le ?_ | refine bd_gt ?_ | refine bd_ge ?_ | refine bd_isN ?_ | refine bd_notN ?_
  | refine bd_inC ?_ | refine bd_ninC ?_ | refine bd_inS ?_ | refine bd_ninS ?_
  | refine bd_eq rfl rfl rfl ?_ | refine bd_ne rfl rfl rfl ?_
  | refine bd_inK (hu_of c.room) (by walk_at "vw") ?_ | refine bd_ninK (hu_of c.room) (by walk_at "vw") ?_
  | refine bd_inQ c.hK rfl (by first | exact .inl (by walk_at "vw") | exact .inr (by walk_at "vw")) rfl ?_ | refine bd_ninQ c.hK rfl (by first | exact .inl (by walk_at "vw") | exact .inr (by walk_at "vw")) rfl ?_
  | refine bd_cat (by walk_at "vw") (by walk_at "vw") (by walk_at "ln") ?_)
local macro_rules | `(tactic| walk_at "id") => `(tactic| first
  | refine id_lst c.hK (by walk_at "vw") (by rfl) ?_ | refine id_tup c.hK (by walk_at "vw") (by rfl) ?_ | refine id_str (by walk_at "ln") (by rfl) ?_ | refine id_dct (hu_of c.room) (by walk_at "vw") (by rfl) ?_)
local macro_rules | `(tactic| walk_at "lg") => `(tactic| first | decide | (apply log_lt; omega) | assumption)
local macro_rules | `(tactic| walk_at "cd") => `(tactic| first
  | refine cd_lens (by walk_at "ln") ?_ | refine cd_len c.hK (.inl (by walk_at "vw")) ?_ | refine cd_len c.hK (.inr (by walk_at "vw")) ?_ | refine cd_int ?_ | refine cd_intb ?_ | refine cd_str (by walk_at "lg") ?_
  | refine cd_abs ?_ | refine cd_tupleF c.hK (by walk_at "vw") ?_)
local macro_rules | `(tactic| walk_at "fld") => `(tactic| refine ⟨_, _, _, _, by walk_at "vw", G.cls, by first | exact G.naK | exact G.naM, rfl, ?_⟩)
open TL
section
variable {F : Fix} {C CK CT CQ : Addr}
set_option hygiene false in
theorem ok_law (L : GL F C CK CT CQ) {f cd : Addr} {fd : FuncData} (HT : LamTab F cd "law.<locals>.<lambda>") (U : CodeAt F sLaw "law" f cd fd) : FnOk F.P F.w F.M.K F.mg F.base (L2.CX F.P F.w) 7 f fd ["script"] (spOf F.M aLaw) := by
  refine fn_asC U scLaw (fun ds S R Z ⟨ns, e, _⟩ => by rw [e]; rfl) (fun X W c hf hst hcd hq ds S R Z ⟨ns, e, hR⟩ => ?_)
  subst e
  obtain ⟨P, t1, t2, t3⟩ := HT
  have hqq : X.env.qual ++ "<lambda>" = "law.<locals>.<lambda>" := by rw [hq]; decide +kernel
  have HL : XL F X := ⟨cd, P, hcd, t1, by rw [hqq]; exact t2, by rw [hqq]; exact t3⟩
  refine ab_cons (as_for c ?_)
  refine ai_of c ?_
  refine ax_call c L.rounds (by omega) (by decide +kernel) ?_
  refine aa_cons ?_
  refine ax_var c 0 (by decide +kernel) rfl ?_
  refine aa_cons ?_
  refine ax_int ?_
  refine aa_nil ?_
  refine ⟨ns, rfl, fun dp a b z hdp => ?_⟩
  refine .inl ⟨_, .inl rfl, ?_⟩
  refine ⟨fun i Γ' S' => (∃ x1 x2 x3 x4 x5 x6 x7 x8 x9 x10 x11 x12 x13 x14 x15 x16 x17 x18 x19 x20 x21 x22 x23 x24, Γ' = [some (.scr ns), x1, x2, x3, x4, x5, x6, x7, x8, x9, x10, x11, x12, x13, x14, x15, x16, x17, x18, x19, x20, x21, x22, x23, x24]) ∧ ∃ a b z, S' = dS S dp a b z, ⟨⟨none, none, none, none, none, none, none, none, none, none, none, none, none, none, none, none, none, none, none, none, none, none, none, none, rfl⟩, a, b, z, rfl⟩, fun i d Γ' S' hd hP => ⟨trivial, ?_⟩, fun Γ' S' hP => ⟨trivial, ?_⟩⟩
  · obtain ⟨⟨x1, x2, x3, x4, x5, x6, x7, x8, x9, x10, x11, x12, x13, x14, x15, x16, x17, x18, x19, x20, x21, x22, x23, x24, rfl⟩, a, b, z, rfl⟩ := hP
    have hd : d = .ref dp := by
      have hi : i = 0 := by have := (List.getElem?_eq_some_iff.mp hd).1; simp at this; omega
      subst hi
      exact (Option.some.inj hd).symm
    subst hd
    refine ag_name c 1 (by decide +kernel) (.inl (hf _)) ?_
    refine law_a c hf L (fun m g a b z hm hg0 hg1 => ?_)
    refine law_b c hf L hm hg0 hg1 (fun x8 x11 x12 => ?_)
    refine law_c c hf L HL (fun kind many a b z hk hm0 hm1 => ?_)
    refine law_d c hf L hm0 hm1 (fun x14 x15 x16 => ?_)
    refine law_e c hf L (fun ps a b z hps h1 h4 => ?_)
    refine law_f c hf L hps h1 h4 ?_
    refine law_g c hf L HL hps h1 h4 ?_
    refine law_h c hf L (fun rs a b z hrs hl => ?_)
    refine law_i c hf L hrs hl (fun x12 => ?_)
    refine law_j c hf L HL hrs hl (fun x13 x22 => ?_)
    exact ⟨⟨_, _, _, _, _, _, _, _, _, _, _, _, _, _, _, _, _, _, _, _, _, _, _, _, rfl⟩, a, b, z, rfl⟩
  · obtain ⟨⟨x1, x2, x3, x4, x5, x6, x7, x8, x9, x10, x11, x12, x13, x14, x15, x16, x17, x18, x19, x20, x21, x22, x23, x24, rfl⟩, a, b, z, rfl⟩ := hP
    refine law_z c hf L HL ?_
    exact ⟨S, Sub.refl.put hdp, hR⟩
end
end QD
set_option maxHeartbeats 4000000
namespace QD
open PySem PySem.Spec PyProof.Rows L2 GenW
set_option hygiene false
local macro_rules | `(tactic| walk_at "mulc") => `(tactic| first | exact .inl ⟨by decide, by decide⟩ | exact .inr ⟨by decide, by decide⟩ | exact .inl ⟨by omega, by omega⟩ | exact .inr ⟨by omega, by omega⟩)
local macro_rules | `(tactic| walk_at "ne") => `(tactic| first | assumption | (apply Ne.symm; assumption))
local macro_rules | `(tactic| walk_at "sto") => `(tactic| first | assumption | exact Sto.put_same | (refine (Sto.put_ne (by walk_at "ne")).trans ?_; walk_at "sto"))
local macro_rules | `(tactic| walk_at "vw") => `(tactic| first | rfl | assumption | exact view_lst (by walk_at "sto") | exact view_dct (by walk_at "sto") | exact view_dcu (by walk_at "sto") | exact view_ins (by walk_at "sto") | exact view_fdct (by walk_at "sto"))
local macro_rules | `(tactic| walk_at "ln") => `(tactic| first | decide | exact Nat.le_of_ble_eq_true rfl | (simp only [sizeLine_eq]; omega) | assumption)
local macro_rules | `(tactic| walk_at "bd") => `(tactic| first
  | refine bd_add ?_ | refine bd_sub ?_ | refine bd_mul (by walk_at "mulc") ?_ | refine bd_div ⟨by first | decide | omega, by first | decide | omega⟩ ?_ | refine bd_mod (by first | decide | omega) ?_
  | refine bd_pow ⟨by decide, by decide, by decide⟩ ?_ | refine bd_adds (by walk_at "ln") ?_
  | refine bd_eqi ?_ | refine bd_nei ?_ | refine bd_eqs ?_ | refine bd_nes ?_ | refine bd_eqb ?_ | refine bd_lt ?_ | refine bd_le ?_ | refine bd_gt ?_ | refine bd_ge ?_ | refine bd_isN ?_ | refine bd_notN ?_
  | refine bd_inC ?_ | refine bd_ninC ?_ | refine bd_inS ?_ | refine bd_ninS ?_
  | refine bd_eq rfl rfl rfl ?_ | refine bd_ne rfl rfl rfl ?_
  | refine bd_inK (hu_of c.room) (by walk_at "vw") ?_ | refine bd_ninK (hu_of c.room) (by walk_at "vw") ?_
  | refine bd_inQ c.hK rfl (by first | exact .inl (by walk_at "vw") | exact .inr (by walk_at "vw")) rfl ?_ | refine bd_ninQ c.hK rfl (by first | exact .inl (by walk_at "vw") | exact .inr (by walk_at "vw")) rfl ?_
  | refine bd_cat (by walk_at "vw") (by walk_at "vw") (by walk_at "ln") ?_)
local macro_rules | `(tactic| walk_at "id") => `(tactic| first
  | refine id_lst c.hK (by walk_at "vw") (by rfl) ?_ | refine id_tup c.hK (by walk_at "vw") (by rfl) ?_ | refine id_str (by walk_at "ln") (by rfl) ?_ | refine id_dct (hu_of c.room) (by walk_at "vw") (by rfl) ?_)
local macro_rules | `(tactic| walk_at "lg") => `(tactic| first | decide | (apply log_lt; omega) | assumption)
local macro_rules | `(tactic| walk_at "cd") => `(tactic| first
  | refine cd_lens (by walk_at "ln") ?_ | refine cd_len c.hK (.inl (by walk_at "vw")) ?_ | refine cd_len c.hK (.inr (by walk_at "vw")) ?_ | refine cd_int ?_ | refine cd_intb ?_ | refine cd_str (by walk_at "lg") ?_
  | refine cd_abs ?_ | refine cd_tupleF c.hK (by walk_at "vw") ?_)
local macro_rules | `(tactic| walk_at "fld") => `(tactic| refine ⟨_, _, _, _, by walk_at "vw", G.cls, by first | exact G.naK | exact G.naM, rfl, ?_⟩)
open TL
abbrev sTold : Stmt := topS 20
def e1_fn : List He.DefD := [dMe "Cluster" "__init__" sInit, dMe "Cluster" "text" sText, dMe "Cluster" "length" sLength, dMe "Cluster" "string" sString, dFn "cluster_of" sCof, dFn "clusters_for" sCfs, dFn "number_of" sNum, dFn "knots_text" sKT, dFn "read_knots" sRead, dFn "knot_count" sCnt, dFn "string_for" sStr, dFn "_law_dice" sDice, dFn "_law_roll" sRoll, dFn "_law_rounds" sRounds, dFn "_law_told" sTold, dFn "_law_clusters" sLC, dFn "_law_text" sLT, dFn "law" sLaw]
def e1_fa0 : List He.Fa := [.glo "cluster_of", .glo "clusters_for", .glo "number_of", .glo "knots_text", .glo "read_knots", .glo "knot_count", .glo "string_for", .glo "_law_dice", .glo "_law_roll", .glo "_law_rounds", .glo "_law_told", .glo "_law_clusters", .glo "_law_text", .glo "law", .glo "Cluster", .glo "QuipuError", .glo "KnotError", .glo "TextError", .free "len", .free "str", .free "int", .free "abs", .free "sum", .free "sorted", .free "tuple", .free "list", .free "dict", .free "max", .free "range", .free "enumerate"]
def e1_fa1 : List He.Fa := [.free "any", .int "LONG_LEAST" 2, .int "LONG_MOST" 9, .int "MOST_PLACES" 6, .cls "Cluster", .noat "Cluster" "kind", .noat "Cluster" "many", .meth "Cluster" "text", .meth "Cluster" "length", .meth "Cluster" "string", .mkr "Cluster", .exc "KnotError", .exc "TextError", .exm "KnotError" "QuipuError" true, .exm "TextError" "QuipuError" true]
def e1_fa : List He.Fa := e1_fa0 ++ e1_fa1
def e1_tb : Tb := ⟨[("knot_count", none), ("string_for", none)], [(("law", none), "law.<locals>.<lambda>")]⟩
def e1_ex (K : PySem.W.Frag) : Bool := e1_tb.apart K && decide (PySem.W.mroIn K (He.ga K "Cluster") (.type "object") = some true) && decide (PySem.W.findIn K (.ref (He.ga K "Cluster")) "__eq__" = some (some (.builtin "object.__eq__")))
def e1_ls0 : List PySem.Str := ["QuipuError", "KnotError", "TextError", "MOST_PLACES", "LONG_LEAST", "LONG_MOST", "Cluster", "cluster_of", "clusters_for", "number_of", "knots_text", "read_knots", "knot_count", "string_for", "_law_dice", "_law_roll", "_law_rounds", "_law_told", "_law_clusters", "_law_text"]
def e1_ls : List PySem.Str := e1_ls0
abbrev e1_R : PySem.W.OpenRow := PySem.W.OpenLaw.row PySem.Challenge.rw_quipustack_k01_knots_and_numbers
abbrev e1_hk : PySem.W.Hook := He.hookX 6 e1_fa e1_fn [] e1_tb.all e1_ex
def e1_ob (s : PySem.W.SharedT) : He.AlX := He.obsX 6 e1_fa e1_fn [] e1_tb.all e1_ex (HandSHeadRun.getT s)
theorem e1_ob_eq (s : PySem.W.SharedT) : e1_ob s = e1_hk.obs s.abs := He.obsX_eq (HandSHeadRun.getT_eq s)
theorem e1_run (w : World) : HandSHeadRun.RunEq e1_R (PySem.W.view e1_R.prog [23]) e1_hk e1_ob 2000 e1_ls w := by
  intro os
  kernel_rfl
theorem e1_at (w : World) (mg : Str → Option Value) (f : Addr) (h : Heap) (K : PySem.W.Frag) (KX : K.In h) (G : h.Ns mainGlobals mg) (hf : mg "law" = some (.ref f)) (c : He.SaysX e1_fa e1_fn [] e1_tb.all e1_ex w h K) :
    LamX.LawAtS PySem.Challenge.rw_quipustack_k01_knots_and_numbers w K (L2.CX PySem.Challenge.rw_quipustack_k01_knots_and_numbers.prog w) 7 63 "script" mg f h := by
  have cD := c.t.d
  have h_glo_cluster_of := He.glo_ok KX G (cD.fact 0 (f := .glo "cluster_of") rfl)
  have h_glo_clusters_for := He.glo_ok KX G (cD.fact 1 (f := .glo "clusters_for") rfl)
  have h_glo_number_of := He.glo_ok KX G (cD.fact 2 (f := .glo "number_of") rfl)
  have h_glo_knots_text := He.glo_ok KX G (cD.fact 3 (f := .glo "knots_text") rfl)
  have h_glo_read_knots := He.glo_ok KX G (cD.fact 4 (f := .glo "read_knots") rfl)
  have h_glo_knot_count := He.glo_ok KX G (cD.fact 5 (f := .glo "knot_count") rfl)
  have h_glo_string_for := He.glo_ok KX G (cD.fact 6 (f := .glo "string_for") rfl)
  have h_glo_law_dice := He.glo_ok KX G (cD.fact 7 (f := .glo "_law_dice") rfl)
  have h_glo_law_roll := He.glo_ok KX G (cD.fact 8 (f := .glo "_law_roll") rfl)
  have h_glo_law_rounds := He.glo_ok KX G (cD.fact 9 (f := .glo "_law_rounds") rfl)
  have h_glo_law_told := He.glo_ok KX G (cD.fact 10 (f := .glo "_law_told") rfl)
  have h_glo_law_clusters := He.glo_ok KX G (cD.fact 11 (f := .glo "_law_clusters") rfl)
  have h_glo_law_text := He.glo_ok KX G (cD.fact 12 (f := .glo "_law_text") rfl)
  have h_glo_law := He.glo_ok KX G (cD.fact 13 (f := .glo "law") rfl)
  have h_glo_Cluster := He.glo_ok KX G (cD.fact 14 (f := .glo "Cluster") rfl)
  have h_glo_QuipuError := He.glo_ok KX G (cD.fact 15 (f := .glo "QuipuError") rfl)
  have h_glo_KnotError := He.glo_ok KX G (cD.fact 16 (f := .glo "KnotError") rfl)
  have h_glo_TextError := He.glo_ok KX G (cD.fact 17 (f := .glo "TextError") rfl)
  have h_free_len := He.free_ok KX G (cD.fact 18 (f := .free "len") rfl)
  have h_free_str := He.free_ok KX G (cD.fact 19 (f := .free "str") rfl)
  have h_free_int := He.free_ok KX G (cD.fact 20 (f := .free "int") rfl)
  have h_free_abs := He.free_ok KX G (cD.fact 21 (f := .free "abs") rfl)
  have h_free_sum := He.free_ok KX G (cD.fact 22 (f := .free "sum") rfl)
  have h_free_sorted := He.free_ok KX G (cD.fact 23 (f := .free "sorted") rfl)
  have h_free_tuple := He.free_ok KX G (cD.fact 24 (f := .free "tuple") rfl)
  have h_free_list := He.free_ok KX G (cD.fact 25 (f := .free "list") rfl)
  have h_free_dict := He.free_ok KX G (cD.fact 26 (f := .free "dict") rfl)
  have h_free_max := He.free_ok KX G (cD.fact 27 (f := .free "max") rfl)
  have h_free_range := He.free_ok KX G (cD.fact 28 (f := .free "range") rfl)
  have h_free_enumerate := He.free_ok KX G (cD.fact 29 (f := .free "enumerate") rfl)
  have h_free_any := He.free_ok KX G (cD.fact 30 (f := .free "any") rfl)
  have h_int_LONG_LEAST_2 := He.int_ok KX G (cD.fact 31 (f := .int "LONG_LEAST" 2) rfl)
  have h_int_LONG_MOST_9 := He.int_ok KX G (cD.fact 32 (f := .int "LONG_MOST" 9) rfl)
  have h_int_MOST_PLACES_6 := He.int_ok KX G (cD.fact 33 (f := .int "MOST_PLACES" 6) rfl)
  have h_cls_Cluster := He.cls_ok (cD.fact 34 (f := .cls "Cluster") rfl)
  have h_noat_Cluster_kind := He.noat_ok (cD.fact 35 (f := .noat "Cluster" "kind") rfl)
  have h_noat_Cluster_many := He.noat_ok (cD.fact 36 (f := .noat "Cluster" "many") rfl)
  have h_meth_Cluster_text := He.meth_ok (cD.fact 37 (f := .meth "Cluster" "text") rfl)
  have h_meth_Cluster_length := He.meth_ok (cD.fact 38 (f := .meth "Cluster" "length") rfl)
  have h_meth_Cluster_string := He.meth_ok (cD.fact 39 (f := .meth "Cluster" "string") rfl)
  have h_mkr_Cluster := He.mkr_ok (cD.fact 40 (f := .mkr "Cluster") rfl)
  have h_exc_KnotError := He.exc_ok (cD.fact 41 (f := .exc "KnotError") rfl)
  have h_exc_TextError := He.exc_ok (cD.fact 42 (f := .exc "TextError") rfl)
  have h_exm_KnotError_QuipuError_true := He.exm_ok (cD.fact 43 (f := .exm "KnotError" "QuipuError" true) rfl)
  have h_exm_TextError_QuipuError_true := He.exm_ok (cD.fact 44 (f := .exm "TextError" "QuipuError" true) rfl)
  obtain ⟨fd_Cluster___init__, u_Cluster___init__⟩ := def_me cD (C := "Cluster") (m := "__init__") (st := sInit) (List.mem_of_getElem? (i := 0) rfl)
  obtain ⟨fd_Cluster_text, u_Cluster_text⟩ := def_me cD (C := "Cluster") (m := "text") (st := sText) (List.mem_of_getElem? (i := 1) rfl)
  obtain ⟨fd_Cluster_length, u_Cluster_length⟩ := def_me cD (C := "Cluster") (m := "length") (st := sLength) (List.mem_of_getElem? (i := 2) rfl)
  obtain ⟨fd_Cluster_string, u_Cluster_string⟩ := def_me cD (C := "Cluster") (m := "string") (st := sString) (List.mem_of_getElem? (i := 3) rfl)
  obtain ⟨fd_cluster_of, u_cluster_of⟩ := def_fn cD (x := "cluster_of") (st := sCof) (List.mem_of_getElem? (i := 4) rfl)
  obtain ⟨fd_clusters_for, u_clusters_for⟩ := def_fn cD (x := "clusters_for") (st := sCfs) (List.mem_of_getElem? (i := 5) rfl)
  obtain ⟨fd_number_of, u_number_of⟩ := def_fn cD (x := "number_of") (st := sNum) (List.mem_of_getElem? (i := 6) rfl)
  obtain ⟨fd_knots_text, u_knots_text⟩ := def_fn cD (x := "knots_text") (st := sKT) (List.mem_of_getElem? (i := 7) rfl)
  obtain ⟨fd_read_knots, u_read_knots⟩ := def_fn cD (x := "read_knots") (st := sRead) (List.mem_of_getElem? (i := 8) rfl)
  obtain ⟨fd_knot_count, u_knot_count⟩ := def_fn cD (x := "knot_count") (st := sCnt) (List.mem_of_getElem? (i := 9) rfl)
  obtain ⟨fd_string_for, u_string_for⟩ := def_fn cD (x := "string_for") (st := sStr) (List.mem_of_getElem? (i := 10) rfl)
  obtain ⟨fd__law_dice, u__law_dice⟩ := def_fn cD (x := "_law_dice") (st := sDice) (List.mem_of_getElem? (i := 11) rfl)
  obtain ⟨fd__law_roll, u__law_roll⟩ := def_fn cD (x := "_law_roll") (st := sRoll) (List.mem_of_getElem? (i := 12) rfl)
  obtain ⟨fd__law_rounds, u__law_rounds⟩ := def_fn cD (x := "_law_rounds") (st := sRounds) (List.mem_of_getElem? (i := 13) rfl)
  obtain ⟨fd__law_told, u__law_told⟩ := def_fn cD (x := "_law_told") (st := sTold) (List.mem_of_getElem? (i := 14) rfl)
  obtain ⟨fd__law_clusters, u__law_clusters⟩ := def_fn cD (x := "_law_clusters") (st := sLC) (List.mem_of_getElem? (i := 15) rfl)
  obtain ⟨fd__law_text, u__law_text⟩ := def_fn cD (x := "_law_text") (st := sLT) (List.mem_of_getElem? (i := 16) rfl)
  obtain ⟨fd_law, u_law⟩ := def_fn cD (x := "law") (st := sLaw) (List.mem_of_getElem? (i := 17) rfl)
  obtain ⟨x1, x3⟩ := He.ba (show (e1_tb.apart K && decide (PySem.W.mroIn K (He.ga K "Cluster") (.type "object") = some true) && decide (PySem.W.findIn K (.ref (He.ga K "Cluster")) "__eq__" = some (some (.builtin "object.__eq__")))) = true from c.more)
  obtain ⟨ap, x2⟩ := He.ba x1
  have e := hf.symm.trans h_glo_law
  refine law_at c KX (by cases e; rfl) u_law (fun _ _ _ _ _ _ us hl => match us, hl with | [_], _ => rfl) (fun base KB GB TB => ?_)
  let F : Fix := ⟨PySem.Challenge.rw_quipustack_k01_knots_and_numbers.prog, w, e1_tb.mo K, mg, base⟩
  have gx1 : GxTab F (He.codeOf K ("knot_count", none)) := Tb.gxTab ap TB (by simp [e1_tb])
  have gx2 : GxTab F (He.codeOf K ("string_for", none)) := Tb.gxTab ap TB (by simp [e1_tb])
  have lx : LamTab F (He.codeOf K ("law", none)) "law.<locals>.<lambda>" := Tb.lamTab ap TB (by simp [e1_tb])
  have G1' : G1 F (He.ga K "Cluster") (He.ga K "KnotError") (He.ga K "TextError") (He.ga K "QuipuError") :=
    { KnotError := ⟨h_glo_KnotError, h_exc_KnotError.1, h_exc_KnotError.2.1, h_exc_KnotError.2.2.1, h_exc_KnotError.2.2.2⟩
      TextError := ⟨h_glo_TextError, h_exc_TextError.1, h_exc_TextError.2.1, h_exc_TextError.2.2.1, h_exc_TextError.2.2.2⟩
      exK := h_exm_KnotError_QuipuError_true
      exT := h_exm_TextError_QuipuError_true
      cls := h_cls_Cluster
      naK := h_noat_Cluster_kind
      naM := h_noat_Cluster_many
      neq := ⟨of_decide_eq_true x2, of_decide_eq_true x3⟩
      ll := h_int_LONG_LEAST_2
      lm := h_int_LONG_MOST_9
      mp := h_int_MOST_PLACES_6
      nb := fun x hx => by
        simp only [blt, List.mem_cons, List.not_mem_nil, or_false] at hx
        rcases hx with rfl | rfl | rfl | rfl | rfl | rfl | rfl | rfl | rfl | rfl | rfl | rfl | rfl
        all_goals assumption }
  have oCl : COk F 1 "Cluster" _ _ := cok_of (F := F) h_glo_Cluster h_mkr_Cluster u_Cluster___init__ (ok_init G1' u_Cluster___init__) (fun _ _ _ _ _ _ us hl => match us, hl with | [_, _, _], _ => rfl)
  have oTx := mok_of (F := F) h_cls_Cluster h_meth_Cluster_text u_Cluster_text (ok_text G1' u_Cluster_text) (fun _ _ _ _ _ _ us hl => match us, hl with | [_], _ => rfl)
  have oLn := mok_of (F := F) h_cls_Cluster h_meth_Cluster_length u_Cluster_length (ok_length G1' u_Cluster_length) (fun _ _ _ _ _ _ us hl => match us, hl with | [_], _ => rfl)
  have oSt := mok_of (F := F) h_cls_Cluster h_meth_Cluster_string u_Cluster_string (ok_string G1' u_Cluster_string) (fun _ _ _ _ _ _ us hl => match us, hl with | [_], _ => rfl)
  have oCof := fok_of (F := F) h_glo_cluster_of u_cluster_of (ok_cof G1' oCl u_cluster_of) (fun _ _ _ _ _ _ us hl => match us, hl with | [_], _ => rfl)
  have oCfs := fok_of (F := F) h_glo_clusters_for u_clusters_for (ok_cfs G1' oCl u_clusters_for) (fun _ _ _ _ _ _ us hl => match us, hl with | [_], _ => rfl)
  have oNum := fok_of (F := F) h_glo_number_of u_number_of (ok_num G1' u_number_of) (fun _ _ _ _ _ _ us hl => match us, hl with | [_], _ => rfl)
  have oKT := fok_of (F := F) h_glo_knots_text u_knots_text (ok_kt G1' oCfs oTx u_knots_text) (fun _ _ _ _ _ _ us hl => match us, hl with | [_], _ => rfl)
  have oRd := fok_of (F := F) h_glo_read_knots u_read_knots (ok_read G1' oCof oNum u_read_knots) (fun _ _ _ _ _ _ us hl => match us, hl with | [_], _ => rfl)
  have oCnt := fok_of (F := F) h_glo_knot_count u_knot_count (ok_cnt G1' oCfs gx1 (codeAt_of (F := F) (p := ("knot_count", none)) u_knot_count)) (fun _ _ _ _ _ _ us hl => match us, hl with | [_], _ => rfl)
  have oStr := fok_of (F := F) h_glo_string_for u_string_for (ok_strf G1' oCfs oSt gx2 (codeAt_of (F := F) (p := ("string_for", none)) u_string_for)) (fun _ _ _ _ _ _ us hl => match us, hl with | [_, _], _ => rfl)
  have oDice := fok_of (F := F) h_glo_law_dice u__law_dice (ok_dice G1' u__law_dice) (fun _ _ _ _ _ _ us hl => match us, hl with | [_], _ => rfl)
  have oRoll := fok_of (F := F) h_glo_law_roll u__law_roll (ok_roll G1' u__law_roll) (fun _ _ _ _ _ _ us hl => match us, hl with | [_, _], _ => rfl)
  have oRounds := fok_of (F := F) h_glo_law_rounds u__law_rounds (ok_rounds G1' oDice u__law_rounds) (fun _ _ _ _ _ _ us hl => match us, hl with | [_, _], _ => rfl)
  have oLC := fok_of (F := F) h_glo_law_clusters u__law_clusters (ok_lc G1' u__law_clusters) (fun _ _ _ _ _ _ us hl => match us, hl with | [_], _ => rfl)
  have oLT := fok_of (F := F) h_glo_law_text u__law_text (ok_lt G1' u__law_text) (fun _ _ _ _ _ _ us hl => match us, hl with | [_], _ => rfl)
  have oTold : Told F "_law_told" "QuipuError" "QuipuError" (He.ga K "QuipuError") :=
    ⟨⟨_, fd__law_told, sTold, h_glo_law_told, u__law_told.kp, u__law_told, u__law_told.binds (fun _ _ _ _ _ _ us hl => match us, hl with | [_], _ => rfl), ⟨rfl, rfl, rfl, by decide +kernel, rfl, by decide +kernel, by decide +kernel⟩, rfl, by first | exact Or.inl rfl | exact Or.inr (Or.inl rfl), _, _, _, _, _, _, _, _, _, rfl⟩, h_glo_QuipuError, by decide⟩
  exact ok_law (F := F) ⟨G1', oRounds, oRoll, oLC, oLT, oTold, oCl, oTx, oLn, oCof, oCfs, oNum, oKT, oRd, oCnt, oStr⟩ lx (codeAt_of (F := F) (p := ("law", none)) u_law)
end QD
set_option maxHeartbeats 8000000
open PySem PySem.W PySem.Calls PyProof.Rows
theorem PySem.Challenge.cw_quipustack_k01_knots_and_numbers_holds : PySem.Challenge.rw_quipustack_k01_knots_and_numbers.Holds := by
  w_on; o_law
  refine HandSHeadRun.head_any (r := OpenLaw.row PySem.Challenge.rw_quipustack_k01_knots_and_numbers) (q := view (OpenLaw.row PySem.Challenge.rw_quipustack_k01_knots_and_numbers).prog [23]) (H := QD.e1_hk) (ob := QD.e1_ob) (M := 2000) (loose := QD.e1_ls) (d := HandSHeadRun.topDef (OpenLaw.row PySem.Challenge.rw_quipustack_k01_knots_and_numbers).prog 23) (kwd := []) QD.e1_ob_eq
    (by kernel_rfl) (fun s => by kernel_rfl) QD.e1_run (by kernel_rfl) (by kernel_rfl) (by kernel_rfl) (by rfl) (by first | assumption | decide +kernel) (by decide +kernel) ⟨rfl, rfl, rfl, rfl, rfl, by decide +kernel⟩ ?hw ?hc
  case hw => w_witness2
  case hc =>
    refine LamX.walk_ofTsE (l := PySem.Challenge.rw_quipustack_k01_knots_and_numbers) (n := 63) (k := 7) (x := "script") (CX := fun w => L2.CX (PySem.Challenge.rw_quipustack_k01_knots_and_numbers).prog w) rfl (by decide) (by kernel_rfl) ⟨rfl, by decide, by decide⟩ ?F (fun _ _ _ _ _ z => QD.cx_false z)
    intro w mg fa h Y G hmg0
    obtain ⟨K, KX, c⟩ := Y
    have hmg : mg ("law" : PySem.Str) = some (.ref fa) := by
      have e : (HandSHeadRun.topDef (OpenLaw.row PySem.Challenge.rw_quipustack_k01_knots_and_numbers).prog 23).name = ("law" : PySem.Str) := by kernel_rfl
      rw [← e]
      exact hmg0
    exact ⟨K, KX, QD.e1_at w mg fa h K KX G hmg c⟩
