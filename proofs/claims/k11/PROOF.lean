import PyProof.Rows.All
import Wide.All
import OpenK.AllK
import Wide.FinOn
import HandS.Base
import HandS.Call
import HandS.List
import HandS.Comp
import HandS.Ends
import HandS.Dict
import HandS.Iter
import HandS.Exc
import HandS.Wide
import HandS.Property
import HandS.IsInst
import HandS.Defaults
import HandS.HeadHook1
import HandS.HeadHook2
import HandS.HeadHook3
import HandS.HeadHook4
import HandS.TupAny
import HandS.TupLe
import HandS.DictEq
import KE.KDictCopyH
import HandS.DictTup
import HandS.Text
import HandS.ExcOwn
import HandS.CallSlots
import HandS.HeadEnd
import KE.GoesEnum
import HandS.Walk
import HandS.DictComp
import KE.KStateDown
import HandS.Head0
import HandS.Head1
import HandS.Head2
import HandS.Words
import HandS.TupMul
import PyProof.FactsAll.tuple_2
import PyProof.ReprRoads
import PyProof.FitsInt
import PyProof.ReprLen
import HandS.RaiseMore
import HandS.Star
import HandS.Style
import HandS.OwnEq
import KE.KDictOf
import PySem.Challenge.RW_haulprices_k11_whole_covers
import HandS.Codes
set_option Elab.async false
set_option linter.all false
set_option maxRecDepth 100000
set_option maxHeartbeats 1000000
namespace MP
open PySem PySem.Spec PyProof.Rows L2
abbrev St := L2.St

/-- data: values without a heap; cel n is the n-th shared object -/
inductive D where
  | non | bl (b : Bool) | int (i : Int) | str (s : Str)
  | tup (xs : List D) | lst (xs : List D)
  | dK (kvs : List (Key × D)) | dT (kvs : List (List Key × D))
  | ins (c : Str) (fs : List (Str × D))
  | cel (n : Nat)
  /-- the script; a tuple of the module's -/
  | scr (ns : List Int) | ktp (xs : List D)

/-- a locked dict is read as the dict -/
def nrm : Option HO → Option HO
  | some (.frz _ (.dK k)) => some (.dK k)
  | some (.frz _ (.dT k)) => some (.dT k)
  | o => o
structure FLe (F F' : Hp) : Prop where
  le : ∀ a u, nrm (F a) = some u → nrm (F' a) = some u
  fz : ∀ a o u, F a = some (.frz o u) → F' a = some (.frz o u)
instance {F F' : Hp} : CoeFun (FLe F F') (fun _ => ∀ a u, nrm (F a) = some u → nrm (F' a) = some u) := ⟨FLe.le⟩
theorem FLe.refl (F : Hp) : FLe F F := ⟨fun _ _ h => h, fun _ _ _ h => h⟩
theorem FLe.trans {F G H : Hp} (a : FLe F G) (b : FLe G H) : FLe F H := ⟨fun x u h => b x u (a x u h), fun x o u h => b.fz x o u (a.fz x o u h)⟩
theorem nrm_lst {o : Option HO} {xs} (h : nrm o = some (.lst xs)) : o = some (.lst xs) := by
  unfold nrm at h; split at h <;> first | exact h | cases h
theorem nrm_tup {o : Option HO} {xs} (h : nrm o = some (.tup xs)) : o = some (.tup xs) := by
  unfold nrm at h; split at h <;> first | exact h | cases h
theorem nrm_ins {o : Option HO} {c d f} (h : nrm o = some (.ins c d f)) : o = some (.ins c d f) := by
  unfold nrm at h; split at h <;> first | exact h | cases h
theorem nrm_frzL {o : Option HO} {b xs} (h : nrm o = some (.frz b (.lst xs))) : o = some (.frz b (.lst xs)) := by
  unfold nrm at h; split at h <;> first | exact h | cases h
theorem nrm_frzT {o : Option HO} {b xs} (h : nrm o = some (.frz b (.tup xs))) : o = some (.frz b (.tup xs)) := by
  unfold nrm at h; split at h <;> first | exact h | cases h
theorem nrm_dK {o : Option HO} {xs} (h : nrm o = some (.dK xs)) : o = some (.dK xs) ∨ ∃ b, o = some (.frz b (.dK xs)) := by
  unfold nrm at h
  split at h
  · cases h; exact .inr ⟨_, rfl⟩
  · cases h
  · exact .inl h
theorem nrm_dT {o : Option HO} {xs} (h : nrm o = some (.dT xs)) : o = some (.dT xs) ∨ ∃ b, o = some (.frz b (.dT xs)) := by
  unfold nrm at h
  split at h
  · cases h
  · cases h; exact .inr ⟨_, rfl⟩
  · exact .inl h
theorem sqL_fle {K F F' a xs} (l : FLe F F') (h : SqL K F a xs) : SqL K F' a xs := by
  rcases h with (h | ⟨o, h⟩) | h
  · exact .inl (.inl (nrm_lst (l a (.lst xs) (by rw [h]; rfl))))
  · exact .inl (.inr ⟨o, nrm_frzL (l a (.frz o (.lst xs)) (by rw [h]; rfl))⟩)
  · exact .inr h
theorem sqT_fle {K F F' a xs} (l : FLe F F') (h : SqT K F a xs) : SqT K F' a xs := by
  rcases h with (h | ⟨o, h⟩) | h
  · exact .inl (.inl (nrm_tup (l a (.tup xs) (by rw [h]; rfl))))
  · exact .inl (.inr ⟨o, nrm_frzT (l a (.frz o (.tup xs)) (by rw [h]; rfl))⟩)
  · exact .inr h

mutual
inductive Den (K : PySem.W.Frag) (F : Hp) (Ad : List Addr) : V → D → Prop
  | non : Den K F Ad .non .non
  | bl {b} : Den K F Ad (.bl b) (.bl b)
  | int {i} : Den K F Ad (.int i) (.int i)
  | str {s} : Den K F Ad (.str s) (.str s)
  | tup {a vs ds} : F a = some (.tup vs) → DenL K F Ad vs ds → Den K F Ad (.ref a) (.tup ds)
  | ktp {a vs ds} : SqT K F a vs → DenL K F Ad vs ds → Den K F Ad (.ref a) (.ktp ds)
  | lst {a vs ds} : F a = some (.lst vs) → DenL K F Ad vs ds → Den K F Ad (.ref a) (.lst ds)
  | scr {a ns} : SqL K F a (ns.map V.int) → Den K F Ad (.ref a) (.scr ns)
  | dK {a vs ds} : nrm (F a) = some (.dK vs) → DenK K F Ad vs ds → Den K F Ad (.ref a) (.dK ds)
  | dT {a vs ds} : nrm (F a) = some (.dT vs) → DenT K F Ad vs ds → Den K F Ad (.ref a) (.dT ds)
  | ins {a c dx vs ds} : F a = some (.ins (He.ga K c) dx vs) → DenF K F Ad vs ds → Den K F Ad (.ref a) (.ins c ds)
  | cel {a n} : Ad[n]? = some a → Den K F Ad (.ref a) (.cel n)
inductive DenL (K : PySem.W.Frag) (F : Hp) (Ad : List Addr) : List V → List D → Prop
  | nil : DenL K F Ad [] []
  | cons {v d vs ds} : Den K F Ad v d → DenL K F Ad vs ds → DenL K F Ad (v :: vs) (d :: ds)
inductive DenK (K : PySem.W.Frag) (F : Hp) (Ad : List Addr) : List (Key × V) → List (Key × D) → Prop
  | nil : DenK K F Ad [] []
  | cons {k v d vs ds} : Den K F Ad v d → DenK K F Ad vs ds → DenK K F Ad ((k, v) :: vs) ((k, d) :: ds)
inductive DenT (K : PySem.W.Frag) (F : Hp) (Ad : List Addr) : List (List Key × V) → List (List Key × D) → Prop
  | nil : DenT K F Ad [] []
  | cons {k v d vs ds} : Den K F Ad v d → DenT K F Ad vs ds → DenT K F Ad ((k, v) :: vs) ((k, d) :: ds)
inductive DenF (K : PySem.W.Frag) (F : Hp) (Ad : List Addr) : List (Str × V) → List (Str × D) → Prop
  | nil : DenF K F Ad [] []
  | cons {k v d vs ds} : Den K F Ad v d → DenF K F Ad vs ds → DenF K F Ad ((k, v) :: vs) ((k, d) :: ds)
end

section
variable {K : PySem.W.Frag} {F F' : Hp} {Ad Ad' : List Addr}
mutual
theorem Den.mono (l : FLe F F') (p : ∀ (n : Nat) (a : Addr), Ad[n]? = some a → Ad'[n]? = some a) : ∀ {v d}, Den K F Ad v d → Den K F' Ad' v d
  | _, _, .non => .non
  | _, _, .bl => .bl
  | _, _, .int => .int
  | _, _, .str => .str
  | _, _, .tup h r => .tup (nrm_tup (l _ (.tup _) (by rw [h]; rfl))) (r.mono l p)
  | _, _, .ktp h r => .ktp (sqT_fle l h) (r.mono l p)
  | _, _, .lst h r => .lst (nrm_lst (l _ (.lst _) (by rw [h]; rfl))) (r.mono l p)
  | _, _, .scr h => .scr (sqL_fle l h)
  | _, _, .dK h r => .dK (l _ _ h) (r.mono l p)
  | _, _, .dT h r => .dT (l _ _ h) (r.mono l p)
  | _, _, .ins h r => .ins (nrm_ins (l _ (.ins _ _ _) (by rw [h]; rfl))) (r.mono l p)
  | _, _, .cel h => .cel (p _ _ h)
theorem DenL.mono (l : FLe F F') (p : ∀ (n : Nat) (a : Addr), Ad[n]? = some a → Ad'[n]? = some a) : ∀ {v d}, DenL K F Ad v d → DenL K F' Ad' v d
  | _, _, .nil => .nil
  | _, _, .cons h r => .cons (h.mono l p) (r.mono l p)
theorem DenK.mono (l : FLe F F') (p : ∀ (n : Nat) (a : Addr), Ad[n]? = some a → Ad'[n]? = some a) : ∀ {v d}, DenK K F Ad v d → DenK K F' Ad' v d
  | _, _, .nil => .nil
  | _, _, .cons h r => .cons (h.mono l p) (r.mono l p)
theorem DenT.mono (l : FLe F F') (p : ∀ (n : Nat) (a : Addr), Ad[n]? = some a → Ad'[n]? = some a) : ∀ {v d}, DenT K F Ad v d → DenT K F' Ad' v d
  | _, _, .nil => .nil
  | _, _, .cons h r => .cons (h.mono l p) (r.mono l p)
theorem DenF.mono (l : FLe F F') (p : ∀ (n : Nat) (a : Addr), Ad[n]? = some a → Ad'[n]? = some a) : ∀ {v d}, DenF K F Ad v d → DenF K F' Ad' v d
  | _, _, .nil => .nil
  | _, _, .cons h r => .cons (h.mono l p) (r.mono l p)
end
theorem DenL.length : ∀ {vs ds}, DenL K F Ad vs ds → vs.length = ds.length
  | _, _, .nil => rfl
  | _, _, .cons _ r => by simp [DenL.length r]
theorem DenL.get : ∀ {vs ds} {i : Nat} {d : D}, DenL K F Ad vs ds → ds[i]? = some d → ∃ v, vs[i]? = some v ∧ Den K F Ad v d
  | _, _, _, _, .nil, e => by simp at e
  | _, _, 0, _, .cons h _, e => by simp at e; subst e; exact ⟨_, rfl, h⟩
  | _, _, i + 1, d, .cons _ r, e => by
    obtain ⟨v, h1, h2⟩ := DenL.get (i := i) (d := d) r (by simpa using e)
    exact ⟨v, by simpa using h1, h2⟩
theorem DenL.getV : ∀ {vs ds} {i : Nat} {v : V}, DenL K F Ad vs ds → vs[i]? = some v → ∃ d, ds[i]? = some d ∧ Den K F Ad v d
  | _, _, _, _, .nil, e => by simp at e
  | _, _, 0, _, .cons h _, e => by simp at e; subst e; exact ⟨_, rfl, h⟩
  | _, _, i + 1, d, .cons _ r, e => by
    obtain ⟨v, h1, h2⟩ := DenL.getV (i := i) (v := d) r (by simpa using e)
    exact ⟨v, by simpa using h1, h2⟩
theorem DenL.append : ∀ {vs ds ws es}, DenL K F Ad vs ds → DenL K F Ad ws es → DenL K F Ad (vs ++ ws) (ds ++ es)
  | _, _, _, _, .nil, s => s
  | _, _, _, _, .cons h r, s => .cons h (r.append s)
theorem DenL.set : ∀ {vs ds} {v d} (i : Nat), Den K F Ad v d → DenL K F Ad vs ds → DenL K F Ad (vs.set i v) (ds.set i d)
  | _, _, _, _, _, _, .nil => .nil
  | _, _, _, _, 0, h, .cons _ r => .cons h r
  | _, _, _, _, i + 1, h, .cons q r => .cons q (DenL.set i h r)
theorem DenL.take : ∀ {vs ds} (n : Nat), DenL K F Ad vs ds → DenL K F Ad (vs.take n) (ds.take n)
  | _, _, 0, _ => .nil
  | _, _, _ + 1, .nil => .nil
  | _, _, n + 1, .cons r t => .cons r (DenL.take n t)
theorem DenL.drop : ∀ {vs ds} (n : Nat), DenL K F Ad vs ds → DenL K F Ad (vs.drop n) (ds.drop n)
  | _, _, 0, r => r
  | _, _, _ + 1, .nil => .nil
  | _, _, n + 1, .cons _ t => DenL.drop n t
theorem DenF.lookup : ∀ {vs ds} {f : Str} {d : D}, DenF K F Ad vs ds → ds.lookup f = some d → ∃ v, vs.lookup f = some v ∧ Den K F Ad v d
  | _, _, _, _, .nil, e => by simp at e
  | _, _, f, d, .cons (k := k) h r, e => by
    rw [List.lookup_cons] at e ⊢
    cases q : f == k with
    | true => rw [q] at e; simp at e; subst e; exact ⟨_, rfl, h⟩
    | false => rw [q] at e; exact DenF.lookup r e
theorem DenF.none : ∀ {vs ds} {f : Str}, DenF K F Ad vs ds → ds.lookup f = Option.none → vs.lookup f = Option.none
  | _, _, _, .nil, e => by simp
  | _, _, f, .cons (k := k) h r, e => by
    rw [List.lookup_cons] at e ⊢
    cases q : f == k with
    | true => rw [q] at e; simp at e
    | false => rw [q] at e; exact DenF.none r e
theorem DenF.length : ∀ {vs ds}, DenF K F Ad vs ds → vs.length = ds.length
  | _, _, .nil => rfl
  | _, _, .cons _ r => by simp [DenF.length r]
theorem DenK.length : ∀ {vs ds}, DenK K F Ad vs ds → vs.length = ds.length
  | _, _, .nil => rfl
  | _, _, .cons _ r => by simp [DenK.length r]
theorem DenT.length : ∀ {vs ds}, DenT K F Ad vs ds → vs.length = ds.length
  | _, _, .nil => rfl
  | _, _, .cons _ r => by simp [DenT.length r]
end
/-! ### the state -/
/-- a root that may be written, at a -/
inductive Root (K : PySem.W.Frag) (F : Hp) (Ad : List Addr) (H : Hp) (a : Addr) : D → Prop
  | lst {vs ds} : H a = some (.lst vs) → DenL K F Ad vs ds → Root K F Ad H a (.lst ds)
  | dK {vs ds} : H a = some (.dK vs) → DenK K F Ad vs ds → Root K F Ad H a (.dK ds)
  | dT {vs ds} : H a = some (.dT vs) → DenT K F Ad vs ds → Root K F Ad H a (.dT ds)
  | ins {c dx vs ds} : H a = some (.ins (He.ga K c) dx vs) → DenF K F Ad vs ds → Root K F Ad H a (.ins c ds)
/-- what a root's object is -/
def RootO : HO → Prop
  | .lst _ => True | .dK _ => True | .dT _ => True | .ins _ _ _ => True | _ => False
theorem Root.obj {K F Ad H a d} (r : Root K F Ad H a d) : ∃ o, H a = some o ∧ RootO o := by
  cases r with
  | lst h _ => exact ⟨_, h, trivial⟩
  | dK h _ => exact ⟨_, h, trivial⟩
  | dT h _ => exact ⟨_, h, trivial⟩
  | ins h _ => exact ⟨_, h, trivial⟩
theorem Root.mono {K F F' Ad Ad' H H' a d} (l : FLe F F') (p : ∀ (n : Nat) (a : Addr), Ad[n]? = some a → Ad'[n]? = some a) (e : H' a = H a) (r : Root K F Ad H a d) : Root K F' Ad' H' a d := by
  cases r with
  | lst h r => exact .lst (e.trans h) (r.mono l p)
  | dK h r => exact .dK (e.trans h) (r.mono l p)
  | dT h r => exact .dT (e.trans h) (r.mono l p)
  | ins h r => exact .ins (e.trans h) (r.mono l p)
/-- the shared objects' contents are M -/
structure MemOk (K : PySem.W.Frag) (F : Hp) (Ad : List Addr) (M : List D) (H : Hp) : Prop where
  sub : ∀ a u, F a = some u → H a = some u
  len : Ad.length = M.length
  nd : Ad.Nodup
  cel : ∀ (n : Nat) (a : Addr) (d : D), Ad[n]? = some a → M[n]? = some d → F a = none ∧ Root K F Ad H a d
/-- from one state to a later one: what stands stays but the shared objects -/
structure Gr (F : Hp) (Ad : List Addr) (H F' : Hp) (Ad' : List Addr) (H' : Hp) : Prop where
  fle : FLe F F'
  fnew : ∀ a o, H a = some o → RootO o → F a = none → a ∉ Ad → F' a = none
  apre : ∃ more, Ad' = Ad ++ more ∧ ∀ a ∈ more, H a = none
  keep : ∀ a o, H a = some o → RootO o → F a = none → a ∉ Ad → H' a = some o
  alive : ∀ a, H a ≠ none → H' a ≠ none
section
variable {K : PySem.W.Frag} {F F1 F2 H H1 H2 : Hp} {Ad Ad1 Ad2 : List Addr} {M : List D}
theorem Gr.refl : Gr F Ad H F Ad H := ⟨FLe.refl F, fun _ _ _ _ h _ => h, ⟨[], by simp, by simp⟩, fun _ _ h _ _ _ => h, fun _ h => h⟩
theorem Gr.pre (g : Gr F Ad H F1 Ad1 H1) : ∀ (n : Nat) (a : Addr), Ad[n]? = some a → Ad1[n]? = some a := fun n a h => by
  obtain ⟨more, e, _⟩ := g.apre
  rw [e, List.getElem?_append_left (List.getElem?_eq_some_iff.mp h).1]; exact h
theorem Gr.notin (g : Gr F Ad H F1 Ad1 H1) {a : Addr} (h : H a ≠ none) (n : a ∉ Ad) : a ∉ Ad1 := fun z => by
  obtain ⟨m1, e1, n1⟩ := g.apre
  rw [e1] at z
  rcases List.mem_append.mp z with z | z
  · exact n z
  · exact h (n1 a z)
theorem Gr.trans (g : Gr F Ad H F1 Ad1 H1) (g' : Gr F1 Ad1 H1 F2 Ad2 H2) : Gr F Ad H F2 Ad2 H2 := by
  obtain ⟨m1, e1, n1⟩ := g.apre
  obtain ⟨m2, e2, n2⟩ := g'.apre
  refine ⟨g.fle.trans g'.fle, fun a o h ro nf na => g'.fnew a o (g.keep a o h ro nf na) ro (g.fnew a o h ro nf na) (g.notin (by rw [h]; simp) na), ⟨m1 ++ m2, by rw [e2, e1, List.append_assoc], fun a ha => ?_⟩, fun a o h ro nf na => g'.keep a o (g.keep a o h ro nf na) ro (g.fnew a o h ro nf na) (g.notin (by rw [h]; simp) na), fun a h => g'.alive a (g.alive a h)⟩
  rcases List.mem_append.mp ha with h | h
  · exact n1 a h
  · cases q : H a with
    | none => rfl
    | some o => exact absurd (n2 a h) (g.alive a (by rw [q]; simp))
theorem Root.gr {a d} (g : Gr F Ad H F1 Ad1 H1) (nf : F a = none) (na : a ∉ Ad) (r : Root K F Ad H a d) : Root K F1 Ad1 H1 a d := by
  obtain ⟨o, h, ro⟩ := r.obj
  refine r.mono g.fle g.pre ?_
  rw [h]
  exact g.keep a o h ro nf na
end

/-- a name's binding: a value, an own object, nothing -/
inductive B where
  | no | shr (d : D) | own (d : D) | slf (d : D)
/-- a call's begin: the heap; self's address, where __init__ runs -/
structure Ent where
  hp : Hp
  fz : Hp
  ad : List Addr
  me : Addr := 0
abbrev EnvM := List B
/-- the names: H0 the heap at the entry -/
structure EnvOk (K : PySem.W.Frag) (N0 : Ent) (F : Hp) (Ad : List Addr) (H : Hp) (σ : St) (env : EnvM) : Prop where
  len : env.length = σ.length
  shr : ∀ (i : Nat) (d : D), env[i]? = some (.shr d) → ∃ v, σ[i]? = some (some v) ∧ Den K F Ad v d
  own : ∀ (i : Nat) (d : D), env[i]? = some (.own d) → ∃ a, σ[i]? = some (some (.ref a)) ∧ F a = none ∧ a ∉ Ad ∧ N0.hp a = none ∧ Root K F Ad H a d
  dis : ∀ (i j : Nat) (d e : D) (a : Addr), env[i]? = some (.own d) → env[j]? = some (.own e) → σ[i]? = some (some (.ref a)) → σ[j]? = some (some (.ref a)) → i = j
  slf : ∀ (i : Nat) (d : D), env[i]? = some (.slf d) → i = 0 ∧ σ[i]? = some (some (.ref N0.me)) ∧ F N0.me = none ∧ N0.me ∉ Ad ∧ N0.hp N0.me = none ∧ Root K F Ad H N0.me d ∧ ∀ (j : Nat) (e : D), env[j]? = some (.own e) → σ[j]? ≠ some (some (.ref N0.me))
section
variable {K : PySem.W.Frag} {N0 : Ent} {F F1 H H1 : Hp} {Ad Ad1 : List Addr} {σ : St} {env : EnvM}
theorem EnvOk.gr (e : EnvOk K N0 F Ad H σ env) (g : Gr F Ad H F1 Ad1 H1) : EnvOk K N0 F1 Ad1 H1 σ env := by
  refine ⟨e.len, fun i d h => ?_, fun i d h => ?_, e.dis, fun i d h => ?_⟩
  · obtain ⟨v, h1, h2⟩ := e.shr i d h
    exact ⟨v, h1, h2.mono g.fle g.pre⟩
  · obtain ⟨a, h1, h2, h3, h4, h5⟩ := e.own i d h
    obtain ⟨o, ho, ro⟩ := h5.obj
    exact ⟨a, h1, g.fnew a o ho ro h2 h3, g.notin (by rw [ho]; simp) h3, h4, h5.gr g h2 h3⟩
  · obtain ⟨h0, h1, h2, h3, h4, h5, h6⟩ := e.slf i d h
    obtain ⟨o, ho, ro⟩ := h5.obj
    exact ⟨h0, h1, g.fnew _ o ho ro h2 h3, g.notin (by rw [ho]; simp) h3, h4, h5.gr g h2 h3, h6⟩
end

/-- an exception: the class's name, its fields -/
structure Xc where
  c : Str
  fs : List (Str × D)
inductive R where
  | ok (d : D) (M : List D) | exc (x : Xc) (M : List D) | stuck
inductive RL where
  | ok (d : List D) (M : List D) | exc (x : Xc) (M : List D) | stuck
inductive RS where
  | next (env : EnvM) (M : List D) | ret (d : D) (M : List D) | brk (env : EnvM) (M : List D) | cont (env : EnvM) (M : List D)
  | exc (x : Xc) (env : EnvM) (M : List D) | stuck
abbrev EF := EnvM → List D → R
abbrev LF := EnvM → List D → RL
abbrev SF := EnvM → List D → RS
def R.bind (r : R) (k : D → List D → R) : R := match r with
  | .ok d M => k d M | .exc x M => .exc x M | .stuck => .stuck
def R.bindL (r : R) (k : D → List D → RL) : RL := match r with
  | .ok d M => k d M | .exc x M => .exc x M | .stuck => .stuck
def RL.bind (r : RL) (k : List D → List D → R) : R := match r with
  | .ok d M => k d M | .exc x M => .exc x M | .stuck => .stuck
def RL.bindL (r : RL) (k : List D → List D → RL) : RL := match r with
  | .ok d M => k d M | .exc x M => .exc x M | .stuck => .stuck
def R.bindS (r : R) (env : EnvM) (k : D → List D → RS) : RS := match r with
  | .ok d M => k d M | .exc x M => .exc x env M | .stuck => .stuck
@[simp] theorem R.bind_ok {d M k} : (R.ok d M).bind k = k d M := rfl
@[simp] theorem R.bindL_ok {d M k} : (R.ok d M).bindL k = k d M := rfl
@[simp] theorem RL.bind_ok {d M k} : (RL.ok d M).bind k = k d M := rfl
@[simp] theorem RL.bindL_ok {d M k} : (RL.ok d M).bindL k = k d M := rfl
@[simp] theorem R.bindS_ok {d M env k} : (R.ok d M).bindS env k = k d M := rfl

/-- how a value lies: DR H F Ad H' v d, H the heap ahead -/
abbrev DRel := Hp → Hp → List Addr → Hp → V → D → Prop
/-- a value that stays -/
def DE (K : PySem.W.Frag) : DRel := fun _ F Ad _ v d => Den K F Ad v d
/-- a value that is looked at now -/
def DB (K : PySem.W.Frag) : DRel := fun _ F Ad H v d => Den K F Ad v d ∨ ∃ a, v = .ref a ∧ F a = none ∧ a ∉ Ad ∧ Root K F Ad H a d
/-- a new object that nobody else knows -/
def DO (K : PySem.W.Frag) : DRel := fun H0 F Ad H v d => ∃ a, v = .ref a ∧ F a = none ∧ a ∉ Ad ∧ H0 a = none ∧ Root K F Ad H a d
/-- the wish of an exception as it lies -/
def XOk (K : PySem.W.Frag) (F : Hp) (Ad : List Addr) (H : Hp) (x : Xc) (cls : Value) (dx : Option Addr) : Prop :=
  cls = .ref (He.ga K x.c) ∧ match dx with
    | none => x.fs = []
    | some d => ∃ vs, H d = some (.xd vs) ∧ DenF K F Ad vs x.fs
/-- what a result asks of the end -/
def RP (K : PySem.W.Frag) (E : XK) (DR : DRel) (F : Hp) (Ad : List Addr) (H : Hp) (Q : VK) : R → Prop
  | .ok d M' => ∀ v F' Ad' H', Gr F Ad H F' Ad' H' → MemOk K F' Ad' M' H' → DR H F' Ad' H' v d → Q v H'
  | .exc x M' => ∀ cls dx F' Ad' H', Gr F Ad H F' Ad' H' → MemOk K F' Ad' M' H' → XOk K F' Ad' H' x cls dx → E cls dx H'
  | .stuck => False
abbrev DRelL := Hp → List Addr → Hp → List V → List D → Prop
def RPL (K : PySem.W.Frag) (E : XK) (DL : DRelL) (F : Hp) (Ad : List Addr) (H : Hp) (Q : List V → Hp → Prop) : RL → Prop
  | .ok d M' => ∀ v F' Ad' H', Gr F Ad H F' Ad' H' → MemOk K F' Ad' M' H' → DL F' Ad' H' v d → Q v H'
  | .exc x M' => ∀ cls dx F' Ad' H', Gr F Ad H F' Ad' H' → MemOk K F' Ad' M' H' → XOk K F' Ad' H' x cls dx → E cls dx H'
  | .stuck => False
/-- DR stays under growth of the heap ahead -/
def DRok (DR : DRel) : Prop := ∀ F0 Ad0 H0 F Ad H F' Ad' H' v d, Gr F0 Ad0 H0 F Ad H → DR H F' Ad' H' v d → DR H0 F' Ad' H' v d
theorem DE.ok {K} : DRok (DE K) := fun _ _ _ _ _ _ _ _ _ _ _ _ h => h
theorem DB.ok {K} : DRok (DB K) := fun _ _ _ _ _ _ _ _ _ _ _ _ h => h
theorem DO.ok {K} : DRok (DO K) := fun _ _ H0 _ _ H _ _ _ _ _ g ⟨a, h1, h2, h3, h4, h5⟩ => ⟨a, h1, h2, h3, by
  cases q : H0 a with
  | none => rfl
  | some o => exact absurd h4 (g.alive a (by rw [q]; simp)), h5⟩
/-- a list of values that stay; that are looked at -/
def DLE (K : PySem.W.Frag) : DRelL := fun F Ad _ vs ds => DenL K F Ad vs ds
inductive DLB (K : PySem.W.Frag) (F : Hp) (Ad : List Addr) (H : Hp) : List V → List D → Prop
  | nil : DLB K F Ad H [] []
  | cons {v d vs ds} : DB K H F Ad H v d → DLB K F Ad H vs ds → DLB K F Ad H (v :: vs) (d :: ds)
section
variable {K : PySem.W.Frag} {E : XK} {DR : DRel} {DL : DRelL} {F F1 H H1 : Hp} {Ad Ad1 : List Addr} {Q : VK}
theorem RP.gr {r : R} (dr : DRok DR) (h : RP K E DR F Ad H Q r) (g : Gr F Ad H F1 Ad1 H1) : RP K E DR F1 Ad1 H1 Q r := by
  cases r with
  | ok d M => exact fun v F' Ad' H' g' m x => h v F' Ad' H' (g.trans g') m (dr _ _ _ _ _ _ _ _ _ _ _ g x)
  | exc x M => exact fun c dx F' Ad' H' g' m z => h c dx F' Ad' H' (g.trans g') m z
  | stuck => exact h
theorem RPL.gr {r : RL} {Q : List V → Hp → Prop} (h : RPL K E DL F Ad H Q r) (g : Gr F Ad H F1 Ad1 H1) : RPL K E DL F1 Ad1 H1 Q r := by
  cases r with
  | ok d M => exact fun v F' Ad' H' g' m x => h v F' Ad' H' (g.trans g') m x
  | exc x M => exact fun c dx F' Ad' H' g' m z => h c dx F' Ad' H' (g.trans g') m z
  | stuck => exact h
theorem DB.gr {v d H0 H0'} (g : Gr F Ad H F1 Ad1 H1) (h : DB K H0 F Ad H v d) : DB K H0' F1 Ad1 H1 v d := by
  rcases h with h | ⟨a, e, n, na, r⟩
  · exact .inl (h.mono g.fle g.pre)
  · obtain ⟨o, ho, ro⟩ := r.obj
    exact .inr ⟨a, e, g.fnew a o ho ro n na, g.notin (by rw [ho]; simp) na, r.gr g n na⟩
theorem DLB.gr (g : Gr F Ad H F1 Ad1 H1) : ∀ {vs ds}, DLB K F Ad H vs ds → DLB K F1 Ad1 H1 vs ds
  | _, _, .nil => .nil
  | _, _, .cons h r => .cons (DB.gr g h) (DLB.gr g r)
theorem DLB.of : ∀ {vs ds}, DenL K F Ad vs ds → DLB K F Ad H vs ds
  | _, _, .nil => .nil
  | _, _, .cons h r => .cons (.inl h) (DLB.of r)
end

/-! ### what an expression is -/
def tG (K : PySem.W.Frag) (W : WX) (DR : DRel) (f : EF) : TE := fun σ H Q => ∃ N0 F Ad M env, MemOk K F Ad M H ∧ EnvOk K N0 F Ad H σ env ∧ RP K (fun c d H => W c d σ H) DR F Ad H Q (f env M)
def tL (K : PySem.W.Frag) (W : WX) (DL : DRelL) (f : LF) : TA := fun σ H Q => ∃ N0 F Ad M env, MemOk K F Ad M H ∧ EnvOk K N0 F Ad H σ env ∧ RPL K (fun c d H => W c d σ H) DL F Ad H Q (f env M)
abbrev SE (X : Cx) (W : WX) (e : Expr) (f : EF) : Prop := PE X e (tG X.K W (DE X.K) f)
abbrev SB (X : Cx) (W : WX) (e : Expr) (f : EF) : Prop := PE X e (tG X.K W (DB X.K) f)
abbrev SO (X : Cx) (W : WX) (e : Expr) (f : EF) : Prop := PE X e (tG X.K W (DO X.K) f)
abbrev SL (X : Cx) (W : WX) (es : List Expr) (f : LF) : Prop := PA X es (tL X.K W (DLE X.K) f)
abbrev SLB (X : Cx) (W : WX) (es : List Expr) (f : LF) : Prop := PA X es (tL X.K W (DLB X.K) f)
theorem PE.imp {X : Cx} {e : Expr} {t u : TE} (h : PE X e t) (i : ∀ σ H Q, u σ H Q → t σ H Q) : PE X e u := ⟨fun pins s σ H Q I q => h.run pins s σ H Q I (i σ H Q q)⟩
theorem PA.imp {X : Cx} {e : List Expr} {t u : TA} (h : PA X e t) (i : ∀ σ H Q, u σ H Q → t σ H Q) : PA X e u := ⟨fun pos pins s σ H Q I q => h.run pos pins s σ H Q I (i σ H Q q)⟩
theorem PT.imp {X : Cx} {e : Expr} {t u : TT} (h : PT X e t) (i : ∀ σ H Q, u σ H Q → t σ H Q) : PT X e u := ⟨fun pins s σ H Q I q => h.run pins s σ H Q I (i σ H Q q)⟩
theorem PW.imp {X : Cx} {e : Expr} {t u : TT} (h : PW X e t) (i : ∀ σ H Q, u σ H Q → t σ H Q) : PW X e u := ⟨fun w pins s σ H Q I q => h.run w pins s σ H Q I (i σ H Q q)⟩
theorem PS.imp {X : Cx} {e : Stmt} {t u : TS} (h : PS X e t) (i : ∀ D σ H, u D σ H → t D σ H) : PS X e u := ⟨fun pins s σ H D I q => h.run pins s σ H D I (i D σ H q)⟩
theorem PSs.imp {X : Cx} {e : List Stmt} {t u : TS} (h : PSs X e t) (i : ∀ D σ H, u D σ H → t D σ H) : PSs X e u := ⟨fun pins s σ H D I q => h.run pins s σ H D I (i D σ H q)⟩
section
variable {K : PySem.W.Frag} {W : WX} {DR' : DRel} {DL : DRelL} {N0 : Ent} {F : Hp} {Ad : List Addr} {M : List D} {env : EnvM} {σ : St} {H : Hp}
/-- one part, then the rest: P is what the rest's result must meet -/
theorem tG_of {f : EF} {Q' : VK} (m : MemOk K F Ad M H) (e : EnvOk K N0 F Ad H σ env) (hx : ∀ x M1, f env M = .exc x M1 → RP K (fun c d H => W c d σ H) DR' F Ad H Q' (.exc x M1)) (hs : f env M ≠ .stuck)
    (hq : ∀ d M1, f env M = .ok d M1 → ∀ v F1 Ad1 H1, Gr F Ad H F1 Ad1 H1 → MemOk K F1 Ad1 M1 H1 → EnvOk K N0 F1 Ad1 H1 σ env → DR' H F1 Ad1 H1 v d → Q' v H1) : tG K W DR' f σ H Q' := by
  refine ⟨N0, F, Ad, M, env, m, e, ?_⟩
  cases q : f env M with
  | ok d M1 => exact fun v F' Ad' H' g m' x => hq d M1 q v F' Ad' H' g m' (e.gr g) x
  | exc x M1 => exact hx x M1 q
  | stuck => exact absurd q hs
theorem tG_seq {DR : DRel} {f : EF} {k : D → List D → R} {Q : VK} (dr : DRok DR) (m : MemOk K F Ad M H) (e : EnvOk K N0 F Ad H σ env)
    (h : RP K (fun c d H => W c d σ H) DR F Ad H Q ((f env M).bind k)) {Q' : VK}
    (hq : ∀ d M1 v F1 Ad1 H1, Gr F Ad H F1 Ad1 H1 → MemOk K F1 Ad1 M1 H1 → EnvOk K N0 F1 Ad1 H1 σ env → DR' H F1 Ad1 H1 v d → RP K (fun c d H => W c d σ H) DR F1 Ad1 H1 Q (k d M1) → Q' v H1) : tG K W DR' f σ H Q' := by
  refine ⟨N0, F, Ad, M, env, m, e, ?_⟩
  cases q : f env M with
  | ok d M1 => rw [q] at h; exact fun v F' Ad' H' g m' x => hq d M1 v F' Ad' H' g m' (e.gr g) x (RP.gr dr h g)
  | exc x M1 => rw [q] at h; exact h
  | stuck => rw [q] at h; exact h
theorem tL_seq {DR : DRel} {f : LF} {k : List D → List D → R} {Q : VK} (dr : DRok DR) (m : MemOk K F Ad M H) (e : EnvOk K N0 F Ad H σ env)
    (h : RP K (fun c d H => W c d σ H) DR F Ad H Q ((f env M).bind k)) {Q' : List V → Hp → Prop}
    (hq : ∀ d M1 v F1 Ad1 H1, Gr F Ad H F1 Ad1 H1 → MemOk K F1 Ad1 M1 H1 → EnvOk K N0 F1 Ad1 H1 σ env → DL F1 Ad1 H1 v d → RP K (fun c d H => W c d σ H) DR F1 Ad1 H1 Q (k d M1) → Q' v H1) : tL K W DL f σ H Q' := by
  refine ⟨N0, F, Ad, M, env, m, e, ?_⟩
  cases q : f env M with
  | ok d M1 => rw [q] at h; exact fun v F' Ad' H' g m' x => hq d M1 v F' Ad' H' g m' (e.gr g) x (RP.gr dr h g)
  | exc x M1 => rw [q] at h; exact h
  | stuck => rw [q] at h; exact h
theorem tG_seqL {f : EF} {k : D → List D → RL} {Q : List V → Hp → Prop} (m : MemOk K F Ad M H) (e : EnvOk K N0 F Ad H σ env)
    (h : RPL K (fun c d H => W c d σ H) DL F Ad H Q ((f env M).bindL k)) {Q' : VK}
    (hq : ∀ d M1 v F1 Ad1 H1, Gr F Ad H F1 Ad1 H1 → MemOk K F1 Ad1 M1 H1 → EnvOk K N0 F1 Ad1 H1 σ env → DR' H F1 Ad1 H1 v d → RPL K (fun c d H => W c d σ H) DL F1 Ad1 H1 Q (k d M1) → Q' v H1) : tG K W DR' f σ H Q' := by
  refine ⟨N0, F, Ad, M, env, m, e, ?_⟩
  cases q : f env M with
  | ok d M1 => rw [q] at h; exact fun v F' Ad' H' g m' x => hq d M1 v F' Ad' H' g m' (e.gr g) x (RPL.gr h g)
  | exc x M1 => rw [q] at h; exact h
  | stuck => rw [q] at h; exact h
theorem tL_seqL {DL' : DRelL} {f : LF} {k : List D → List D → RL} {Q : List V → Hp → Prop} (m : MemOk K F Ad M H) (e : EnvOk K N0 F Ad H σ env)
    (h : RPL K (fun c d H => W c d σ H) DL F Ad H Q ((f env M).bindL k)) {Q' : List V → Hp → Prop}
    (hq : ∀ d M1 v F1 Ad1 H1, Gr F Ad H F1 Ad1 H1 → MemOk K F1 Ad1 M1 H1 → EnvOk K N0 F1 Ad1 H1 σ env → DL' F1 Ad1 H1 v d → RPL K (fun c d H => W c d σ H) DL F1 Ad1 H1 Q (k d M1) → Q' v H1) : tL K W DL' f σ H Q' := by
  refine ⟨N0, F, Ad, M, env, m, e, ?_⟩
  cases q : f env M with
  | ok d M1 => rw [q] at h; exact fun v F' Ad' H' g m' x => hq d M1 v F' Ad' H' g m' (e.gr g) x (RPL.gr h g)
  | exc x M1 => rw [q] at h; exact h
  | stuck => rw [q] at h; exact h
end
end MP

set_option maxRecDepth 100000
set_option maxHeartbeats 1000000
namespace MP
open PySem PySem.Spec PyProof.Rows L2
section
variable {X : Cx} {W : WX} {K : PySem.W.Frag} {E : XK} {DR : DRel} {N0 : Ent} {H0 F H : Hp} {Ad : List Addr} {M : List D} {env : EnvM} {σ : St} {Q : VK}

theorem RP.here {v d} (h : RP K E DR F Ad H Q (.ok d M)) (m : MemOk K F Ad M H) (x : DR H F Ad H v d) : Q v H := h v F Ad H Gr.refl m x
theorem fle_new {p : Addr} {o : HO} (h : F p = none) : FLe F (upd F p o) := ⟨fun b u hb => by
  by_cases eb : b = p
  · subst eb; rw [h] at hb; cases hb
  · rw [upd_ne eb]; exact hb, fun b o' u hb => by
  by_cases eb : b = p
  · subst eb; rw [h] at hb; cases hb
  · rw [upd_ne eb]; exact hb⟩
/-- a new object is laid and stays: the frozen part grows -/
theorem mem_new {p : Addr} {o : HO} (m : MemOk K F Ad M H) (hp : H p = none) : MemOk K (upd F p o) Ad M (upd H p o) := by
  have hF : F p = none := by
    cases q : F p with
    | none => rfl
    | some u => rw [m.sub p u q] at hp; cases hp
  refine ⟨fun a u h => ?_, m.len, m.nd, fun n a d h1 h2 => ?_⟩
  · by_cases e : a = p
    · subst e; rw [upd_same] at h ⊢; exact h
    · rw [upd_ne e] at h ⊢; exact m.sub a u h
  · obtain ⟨f, r⟩ := m.cel n a d h1 h2
    obtain ⟨u, hu, _⟩ := r.obj
    have e : a ≠ p := fun e => by rw [e, hp] at hu; cases hu
    refine ⟨by rw [upd_ne e]; exact f, r.mono (fle_new hF) (fun _ _ h => h) (by rw [upd_ne e])⟩
theorem MemOk.none (m : MemOk K F Ad M H) {p : Addr} (hp : H p = Option.none) : F p = Option.none := by
  cases q : F p with
  | none => rfl
  | some u => rw [m.sub p u q] at hp; cases hp
theorem MemOk.notin (m : MemOk K F Ad M H) {p : Addr} (hp : H p = Option.none) : p ∉ Ad := fun z => by
  obtain ⟨n, hn, e⟩ := List.mem_iff_getElem.mp z
  have h1 : Ad[n]? = some p := by rw [List.getElem?_eq_getElem hn, e]
  have h2 : n < M.length := by rw [← m.len]; exact hn
  obtain ⟨_, r⟩ := m.cel n p M[n] h1 (List.getElem?_eq_getElem h2)
  obtain ⟨o, ho, _⟩ := r.obj
  rw [hp] at ho; cases ho
theorem gr_new {p : Addr} {o : HO} (m : MemOk K F Ad M H) (hp : H p = none) : Gr F Ad H (upd F p o) Ad (upd H p o) := by
  refine ⟨fle_new (m.none hp), fun a o' h' _ h _ => ?_, ⟨[], by simp, by simp⟩, fun a u h _ _ _ => ?_, fun a h => ?_⟩
  · rw [upd_ne (fun e => by rw [e, hp] at h'; cases h')]; exact h
  · rw [upd_ne (fun e => by rw [e, hp] at h; cases h)]; exact h
  · rw [upd_ne (fun e => h (by rw [e]; exact hp))]; exact h
/-- the same, an own object: the frozen part stays -/
theorem mem_own {p : Addr} {o : HO} (m : MemOk K F Ad M H) (hp : H p = none) : MemOk K F Ad M (upd H p o) := by
  refine ⟨fun a u h => ?_, m.len, m.nd, fun n a d h1 h2 => ?_⟩
  · rw [upd_ne (fun e => by rw [e, m.none hp] at h; cases h)]; exact m.sub a u h
  · obtain ⟨f, r⟩ := m.cel n a d h1 h2
    obtain ⟨u, hu, _⟩ := r.obj
    have e : a ≠ p := fun e => by rw [e, hp] at hu; cases hu
    exact ⟨f, r.mono (FLe.refl F) (fun _ _ h => h) (by rw [upd_ne e])⟩
theorem gr_own {p : Addr} {o : HO} (hp : H p = none) : Gr F Ad H F Ad (upd H p o) := by
  refine ⟨FLe.refl F, fun a _ _ _ h _ => h, ⟨[], by simp, by simp⟩, fun a u h _ _ _ => ?_, fun a h => ?_⟩
  · rw [upd_ne (fun e => by rw [e, hp] at h; cases h)]; exact h
  · rw [upd_ne (fun e => h (by rw [e]; exact hp))]; exact h
/-- a new tuple, a new list that stays -/
theorem RP.newTup {vs ds} {p : Addr} (h : RP K E (DE K) F Ad H Q (.ok (.tup ds) M)) (m : MemOk K F Ad M H) (x : DenL K F Ad vs ds) (hp : H p = none) : Q (.ref p) (upd H p (.tup vs)) :=
  h _ _ _ _ (gr_new m hp) (mem_new m hp) (.tup upd_same (x.mono (fle_new (m.none hp)) fun _ _ h => h))
theorem RP.newLst {vs ds} {p : Addr} (h : RP K E (DE K) F Ad H Q (.ok (.lst ds) M)) (m : MemOk K F Ad M H) (x : DenL K F Ad vs ds) (hp : H p = none) : Q (.ref p) (upd H p (.lst vs)) :=
  h _ _ _ _ (gr_new m hp) (mem_new m hp) (.lst upd_same (x.mono (fle_new (m.none hp)) fun _ _ h => h))
theorem RP.newDT {vs ds} {p : Addr} (h : RP K E (DE K) F Ad H Q (.ok (.dT ds) M)) (m : MemOk K F Ad M H) (x : DenT K F Ad vs ds) (hp : H p = none) : Q (.ref p) (upd H p (.dT vs)) :=
  h _ _ _ _ (gr_new m hp) (mem_new m hp) (.dT (by rw [upd_same]; rfl) (x.mono (fle_new (m.none hp)) fun _ _ h => h))
theorem RP.newDK {vs ds} {p : Addr} (h : RP K E (DE K) F Ad H Q (.ok (.dK ds) M)) (m : MemOk K F Ad M H) (x : DenK K F Ad vs ds) (hp : H p = none) : Q (.ref p) (upd H p (.dK vs)) :=
  h _ _ _ _ (gr_new m hp) (mem_new m hp) (.dK (by rw [upd_same]; rfl) (x.mono (fle_new (m.none hp)) fun _ _ h => h))
/-- an own list -/
theorem RP.ownLst {vs ds} {p : Addr} (h : RP K E (DO K) F Ad H Q (.ok (.lst ds) M)) (m : MemOk K F Ad M H) (x : DenL K F Ad vs ds) (hp : H p = none) : Q (.ref p) (upd H p (.lst vs)) :=
  h _ _ _ _ (gr_own hp) (mem_own m hp) ⟨p, rfl, m.none hp, m.notin hp, hp, .lst upd_same x⟩
theorem RP.ownDT {vs ds} {p : Addr} (h : RP K E (DO K) F Ad H Q (.ok (.dT ds) M)) (m : MemOk K F Ad M H) (x : DenT K F Ad vs ds) (hp : H p = none) : Q (.ref p) (upd H p (.dT vs)) :=
  h _ _ _ _ (gr_own hp) (mem_own m hp) ⟨p, rfl, m.none hp, m.notin hp, hp, .dT upd_same x⟩
theorem RP.ownDK {vs ds} {p : Addr} (h : RP K E (DO K) F Ad H Q (.ok (.dK ds) M)) (m : MemOk K F Ad M H) (x : DenK K F Ad vs ds) (hp : H p = none) : Q (.ref p) (upd H p (.dK vs)) :=
  h _ _ _ _ (gr_own hp) (mem_own m hp) ⟨p, rfl, m.none hp, m.notin hp, hp, .dK upd_same x⟩

/-- an own object is frozen -/
theorem freeze {F0 H0' : Hp} {Ad0 : List Addr} {v d} (g : Gr F0 Ad0 H0' F Ad H) (m : MemOk K F Ad M H) (h : DO K H0' F Ad H v d) : ∃ F', Gr F0 Ad0 H0' F' Ad H ∧ MemOk K F' Ad M H ∧ Den K F' Ad v d ∧ FLe F F' ∧ ∀ b, F b = none → v ≠ .ref b → F' b = none := by
  obtain ⟨a, rfl, n, na, n0, r⟩ := h
  obtain ⟨o, ho, _⟩ := r.obj
  have fl : FLe F (upd F a o) := fle_new n
  refine ⟨upd F a o, ⟨g.fle.trans fl, fun b ob hb ro h1 na1 => ?_, g.apre, g.keep, g.alive⟩, ⟨fun b u h => ?_, m.len, m.nd, fun k b e h1 h2 => ?_⟩, ?_, fl, fun b hb ne => ?_⟩
  · rw [upd_ne (fun e => by rw [e, n0] at hb; cases hb)]; exact g.fnew b ob hb ro h1 na1
  · by_cases e : b = a
    · subst e; rw [upd_same] at h; cases h; exact ho
    · rw [upd_ne e] at h; exact m.sub b u h
  · obtain ⟨f, q⟩ := m.cel k b e h1 h2
    have ne : b ≠ a := fun z => na (z ▸ List.mem_of_getElem? h1)
    exact ⟨by rw [upd_ne ne]; exact f, q.mono fl (fun _ _ h => h) rfl⟩
  · cases r with
    | lst h r => rw [h] at ho; cases ho; exact .lst upd_same (r.mono fl fun _ _ h => h)
    | dK h r => rw [h] at ho; cases ho; exact .dK (by rw [upd_same]; rfl) (r.mono fl fun _ _ h => h)
    | dT h r => rw [h] at ho; cases ho; exact .dT (by rw [upd_same]; rfl) (r.mono fl fun _ _ h => h)
    | ins h r => rw [h] at ho; cases ho; exact .ins upd_same (r.mono fl fun _ _ h => h)
  · rw [upd_ne (fun e => ne (by rw [e]))]; exact hb
theorem SO.e {e : Expr} {f : EF} (h : SO X W e f) : SE X W e f := PE.imp h fun σ H Q ⟨N0, F, Ad, M, env, m, en, r⟩ => ⟨N0, F, Ad, M, env, m, en, by
  cases q : f env M with
  | ok d M1 =>
    rw [q] at r
    intro v F' Ad' H' g m' x
    obtain ⟨F2, g2, m2, x2, _⟩ := freeze g m' x
    exact r v F2 Ad' H' g2 m2 x2
  | exc x M1 => rw [q] at r; exact r
  | stuck => rw [q] at r; exact r⟩
theorem SE.b {e : Expr} {f : EF} (h : SE X W e f) : SB X W e f := PE.imp h fun σ H Q ⟨N0, F, Ad, M, env, m, en, r⟩ => ⟨N0, F, Ad, M, env, m, en, by
  cases q : f env M with
  | ok d M1 => rw [q] at r; exact fun v F' Ad' H' g m' x => r v F' Ad' H' g m' (.inl x)
  | exc x M1 => rw [q] at r; exact r
  | stuck => rw [q] at r; exact r⟩
/-- a new object becomes a shared one -/
def eCell (f : EF) : EF := fun env M => (f env M).bind fun d M1 => .ok (.cel M1.length) (M1 ++ [d])
theorem SO.cell {e : Expr} {f : EF} (h : SO X W e f) : SE X W e (eCell f) := PE.imp h fun σ H Q ⟨N0, F, Ad, M, env, m, en, r⟩ => ⟨N0, F, Ad, M, env, m, en, by
  unfold eCell at r
  cases q : f env M with
  | ok d M1 =>
    rw [q] at r
    rintro v F' Ad' H' g m' ⟨a, rfl, n, na, n0, x⟩
    obtain ⟨more, e1, e2⟩ := g.apre
    obtain ⟨o, ho, _⟩ := x.obj
    have pre : ∀ (k : Nat) (b : Addr), Ad'[k]? = some b → (Ad' ++ [a])[k]? = some b := fun k b h => by
      rw [List.getElem?_append_left (List.getElem?_eq_some_iff.mp h).1]; exact h
    have hl : (Ad' ++ [a])[M1.length]? = some a := by
      rw [← m'.len, List.getElem?_append_right (Nat.le_refl _)]; simp
    refine r (.ref a) F' (Ad' ++ [a]) H' ⟨g.fle, g.fnew, ⟨more ++ [a], by rw [e1, List.append_assoc], fun b hb => ?_⟩, g.keep, g.alive⟩ ⟨m'.sub, by simp [m'.len], ?_, fun k b d' h1 h2 => ?_⟩ (.cel hl)
    · rcases List.mem_append.mp hb with z | z
      · exact e2 b z
      · simp at z; subst z; exact n0
    · rw [List.nodup_append]
      exact ⟨m'.nd, by simp, fun x hx y hy => by simp at hy; subst hy; exact fun z => na (z ▸ hx)⟩
    · by_cases hk : k < Ad'.length
      · rw [List.getElem?_append_left hk] at h1
        rw [List.getElem?_append_left (by rw [← m'.len]; exact hk)] at h2
        obtain ⟨f1, q1⟩ := m'.cel k b d' h1 h2
        exact ⟨f1, q1.mono (FLe.refl _) pre rfl⟩
      · have hk2 : k = Ad'.length := by
          have := (List.getElem?_eq_some_iff.mp h1).1
          simp at this; omega
        subst hk2
        rw [m'.len, hl] at h1
        rw [m'.len] at h2
        simp at h1 h2
        subst h1; subst h2
        exact ⟨n, x.mono (FLe.refl _) pre rfl⟩
  | exc x M1 => rw [q] at r; exact r
  | stuck => rw [q] at r; exact r⟩

/-! ### names and constants -/
def eC (d : D) : EF := fun _ M => .ok d M
theorem se_int {i j pos} : SE X W (.Constant (.int i) j pos) (eC (.int i)) := PE.imp pe_int fun _ _ _ ⟨_, _, _, _, _, m, _, h⟩ => RP.here h m .int
theorem se_bl {i j pos} : SE X W (.Constant (.bool i) j pos) (eC (.bl i)) := PE.imp pe_bl fun _ _ _ ⟨_, _, _, _, _, m, _, h⟩ => RP.here h m .bl
theorem se_non {j pos} : SE X W (.Constant .none j pos) (eC .non) := PE.imp pe_non fun _ _ _ ⟨_, _, _, _, _, m, _, h⟩ => RP.here h m .non
theorem se_str {i j pos} : SE X W (.Constant (.str i) j pos) (eC (.str i)) := PE.imp pe_str fun _ _ _ ⟨_, _, _, _, _, m, _, h⟩ => RP.here h m .str
theorem se_globI {x : Str} {i : Int} {pos} (hg : Gl X x) (hm : ∃ t, X.mg x = some (.int i t)) (hd : (x == ("__debug__" : Str)) = false := by decide) : SE X W (.Name x pos) (eC (.int i)) := by
  obtain ⟨t, e⟩ := hm
  exact PE.imp (pe_glob (v := .int i) hg e ⟨t, rfl⟩ hd) fun _ _ _ ⟨_, _, _, _, _, m, _, h⟩ => RP.here h m .int
theorem se_globS {x : Str} {i : Str} {pos} (hg : Gl X x) (hm : ∃ t, X.mg x = some (.str i t)) (hd : (x == ("__debug__" : Str)) = false := by decide) : SE X W (.Name x pos) (eC (.str i)) := by
  obtain ⟨t, e⟩ := hm
  exact PE.imp (pe_glob (v := .str i) hg e ⟨t, rfl⟩ hd) fun _ _ _ ⟨_, _, _, _, _, m, _, h⟩ => RP.here h m .str
def eV (i : Nat) : EF := fun env M => match env[i]? with | some (.shr d) => .ok d M | _ => .stuck
def eVB (i : Nat) : EF := fun env M => match env[i]? with | some (.shr d) => .ok d M | some (.own d) => .ok d M | some (.slf d) => .ok d M | _ => .stuck
theorem se_var {i : Nat} {x : Str} {pos : Pos} (hN : X.N[i]? = some x) (hv : Vis X.env.scope x) (hd : (x == ("__debug__" : Str)) = false := by decide) (hcd : (x == ("__classdict__" : Str)) = false := by decide) : SE X W (.Name x pos) (eV i) :=
  PE.imp (pe_var hN hv hd hcd) fun σ H Q ⟨N0, F, Ad, M, env, m, en, r⟩ => by
    unfold eV at r
    split at r
    · rename_i d e
      obtain ⟨v, h1, h2⟩ := en.shr i d e
      exact ⟨v, h1, RP.here r m h2⟩
    · exact r.elim
theorem sb_var {i : Nat} {x : Str} {pos : Pos} (hN : X.N[i]? = some x) (hv : Vis X.env.scope x) (hd : (x == ("__debug__" : Str)) = false := by decide) (hcd : (x == ("__classdict__" : Str)) = false := by decide) : SB X W (.Name x pos) (eVB i) :=
  PE.imp (pe_var hN hv hd hcd) fun σ H Q ⟨N0, F, Ad, M, env, m, en, r⟩ => by
    unfold eVB at r
    split at r
    · rename_i d e
      obtain ⟨v, h1, h2⟩ := en.shr i d e
      exact ⟨v, h1, RP.here r m (.inl h2)⟩
    · rename_i d e
      obtain ⟨a, h1, h2, h3, h4, h5⟩ := en.own i d e
      exact ⟨.ref a, h1, RP.here r m (.inr ⟨a, rfl, h2, h3, h5⟩)⟩
    · rename_i d e
      obtain ⟨h0, h1, h2, h3, h4, h5, h6⟩ := en.slf i d e
      exact ⟨.ref _, h1, RP.here r m (.inr ⟨_, rfl, h2, h3, h5⟩)⟩
    · exact r.elim

/-! ### operators -/
/-- a shared object is looked up -/
def view (M : List D) : D → D
  | .cel n => (M[n]?).getD (.cel n)
  | d => d
/-- a two-place operation over values: g tells it over data -/
def Op2 (X : Cx) (DR : DRel) (f : Value → Value → Sem Value) (g : D → D → List D → R) : Prop :=
  ∀ (pins : List (Addr × Obj)) (s : Shared) (σ : St) (H F : Hp) (Ad : List Addr) (M : List D) (E : XK) (x y : V) (v u : Value) (dx dy : D) (Q : VK), Inv X pins σ H s → MemOk X.K F Ad M H → RelV x v → RelV y u → DB X.K H F Ad H x dx → DB X.K H F Ad H y dy →
    RP X.K E DR F Ad H Q (g dx dy M) → wpAny (model X.prog X.w) X.A (f v u) (EP X pins σ Q) X.xe s
def e2 (g : D → D → List D → R) (a b : EF) : EF := fun env M => (a env M).bind fun x M1 => (b env M1).bind fun y M2 => g x y M2
theorem s_bin {DR : DRel} (dr : DRok DR) {op : Operator} {g : D → D → List D → R} {a b : Expr} {fa fb : EF} {pos : Pos} (ho : Op2 X DR (binaryOp op) g) (ha : SB X W a fa) (hb : SB X W b fb) : PE X (.BinOp a op b pos) (tG X.K W DR (e2 g fa fb)) := by
  refine ⟨fun pins s σ H Q I ⟨N0, F, Ad, M, env, m, en, r⟩ => ?_⟩
  refine wpAny_BinOp (binT (R := fun x y H2 => ∃ F2 Ad2 M2 dx dy, MemOk X.K F2 Ad2 M2 H2 ∧ DB X.K H2 F2 Ad2 H2 x dx ∧ DB X.K H2 F2 Ad2 H2 y dy ∧ RP X.K (fun c d H => W c d σ H) DR F2 Ad2 H2 Q (g dx dy M2)) ha hb I ?_ ?_)
  · refine tG_seq dr m en r fun d M1 v F1 Ad1 H1 g1 m1 en1 x1 r1 => ?_
    refine tG_seq dr m1 en1 r1 fun d2 M2 v2 F2 Ad2 H2 g2 m2 en2 x2 r2 => ?_
    exact ⟨F2, Ad2, M2, d, d2, m2, DB.gr g2 x1, x2, r2⟩
  · rintro v u s2 x y H2 I2 rx ry ⟨F2, Ad2, M2, dx, dy, m2, x1, x2, r2⟩
    exact ho pins s2 σ H2 F2 Ad2 M2 _ x y v u dx dy Q I2 m2 rx ry x1 x2 r2
theorem s_pc {DR : DRel} (dr : DRok DR) {op : CmpOp} {g : D → D → List D → R} {a b : Expr} {fa fb : EF} (ho : Op2 X DR (compareOp op) g) (ha : SB X W a fa) (hb : SB X W b fb) : PC X op a b (tG X.K W DR (e2 g fa fb)) := by
  refine ⟨fun pins s σ H Q I ⟨N0, F, Ad, M, env, m, en, r⟩ => ?_⟩
  refine binT (R := fun x y H2 => ∃ F2 Ad2 M2 dx dy, MemOk X.K F2 Ad2 M2 H2 ∧ DB X.K H2 F2 Ad2 H2 x dx ∧ DB X.K H2 F2 Ad2 H2 y dy ∧ RP X.K (fun c d H => W c d σ H) DR F2 Ad2 H2 Q (g dx dy M2)) ha hb I ?_ ?_
  · refine tG_seq dr m en r fun d M1 v F1 Ad1 H1 g1 m1 en1 x1 r1 => ?_
    refine tG_seq dr m1 en1 r1 fun d2 M2 v2 F2 Ad2 H2 g2 m2 en2 x2 r2 => ?_
    exact ⟨F2, Ad2, M2, d, d2, m2, DB.gr g2 x1, x2, r2⟩
  · rintro v u s2 x y H2 I2 rx ry ⟨F2, Ad2, M2, dx, dy, m2, x1, x2, r2⟩
    exact ho pins s2 σ H2 F2 Ad2 M2 _ x y v u dx dy Q I2 m2 rx ry x1 x2 r2
theorem s_cmp {DR : DRel} (dr : DRok DR) {op : CmpOp} {g : D → D → List D → R} {a b : Expr} {fa fb : EF} {pos : Pos} (ho : Op2 X DR (compareOp op) g) (ha : SB X W a fa) (hb : SB X W b fb) (hm : behindInMarks op b = false) : PE X (.Compare a [op] [b] pos) (tG X.K W DR (e2 g fa fb)) :=
  pe_cmp (s_pc dr ho ha hb) hm
/-- a one-place one -/
def Op1 (X : Cx) (DR : DRel) (f : Value → Sem Value) (g : D → List D → R) : Prop :=
  ∀ (pins : List (Addr × Obj)) (s : Shared) (σ : St) (H F : Hp) (Ad : List Addr) (M : List D) (E : XK) (x : V) (v : Value) (dx : D) (Q : VK), Inv X pins σ H s → MemOk X.K F Ad M H → RelV x v → DB X.K H F Ad H x dx →
    RP X.K E DR F Ad H Q (g dx M) → wpAny (model X.prog X.w) X.A (f v) (EP X pins σ Q) X.xe s
def e1 (g : D → List D → R) (a : EF) : EF := fun env M => (a env M).bind g
theorem s_un {DR : DRel} (dr : DRok DR) {op : UnaryOp} {g : D → List D → R} {a : Expr} {fa : EF} {pos : Pos} (ho : Op1 X DR (unaryOp op) g) (ha : SB X W a fa) : PE X (.UnaryOp op a pos) (tG X.K W DR (e1 g fa)) := by
  refine ⟨fun pins s σ H Q I ⟨N0, F, Ad, M, env, m, en, r⟩ => ?_⟩
  refine UnaryOp_ (thn (ha.run pins s σ H _ I (tG_seq (Q' := fun v H1 => ∃ F1 Ad1 M1 d, MemOk X.K F1 Ad1 M1 H1 ∧ DB X.K H1 F1 Ad1 H1 v d ∧ RP X.K (fun c d H => W c d σ H) DR F1 Ad1 H1 Q (g d M1)) dr m en r fun d M1 v F1 Ad1 H1 g1 m1 en1 x1 r1 => ⟨F1, Ad1, M1, d, m1, x1, r1⟩)) fun u s1 ⟨x, H1, I1, rx, F1, Ad1, M1, d, m1, x1, r1⟩ => ?_)
  exact ho pins s1 σ H1 F1 Ad1 M1 _ x u d Q I1 m1 rx x1 r1
end
end MP

set_option maxRecDepth 100000
set_option maxHeartbeats 1000000
namespace MP
open PySem PySem.Spec PyProof.Rows L2
/-! ### two dicts with tuple keys, compared -/
section
variable {P : Program} {w : World} {A : Around} {E : Value → Shared → Prop} {s : Shared}
abbrev kT (P : Program) (w : World) : HeapKind P w (List Key) := tupleKind (mixKind P w)
/-- how the items of a meet those of b -/
inductive HitT (A : Around) (s : Shared) (kb : List (List Key × Addr × Value)) : List (List Key × Addr × Value) → Bool → Prop
  | nil : HitT A s kb [] true
  | miss {p r} : (∀ (j : Nat) (q : Addr × Value), kb[j]? ≠ some (p.1, q)) → HitT A s kb (p :: r) false
  | no {p r} {j : Nat} {q : Addr × Value} : kb[j]? = some (p.1, q) → SeqAt.EqAt A s p.2.2 q.2 false → HitT A s kb (p :: r) false
  | yes {p r b} {j : Nat} {q : Addr × Value} : kb[j]? = some (p.1, q) → SeqAt.EqAt A s p.2.2 q.2 true → HitT A s kb r b → HitT A s kb (p :: r) b
theorem entry_get {es : Array DictEntry} {xs : List (List Key × Addr × Value)} (h : es.toList = xs.map (entryOfKey (kT P w))) {i : Nat} {x : List Key × Addr × Value} (e : xs[i]? = some x) : es[i]? = some (entryOfKey (kT P w) x) := by
  rw [entry_at h i, e]; rfl
theorem samePairsT {nm : String} {a b : Addr} {ka kb : List (List Key × Addr × Value)} {r : Bool} {Q : Bool → Shared → Prop} (hu : A.units < cLine) (ha : (a == sysModules) = false) (hb : (b == sysModules) = false)
    (da : s.heap.DictOfH (kT P w) a ka) (db : s.heap.DictOfH (kT P w) b kb) (hl : ka.length = kb.length) (hits : HitT A s kb ka r) (h : Q r s) : wpAny (model P w) A (Builtin.Dict.samePairs nm a b) Q E s := by
  obtain ⟨oa, es, ep, a1, _, a2, a3, a4, _⟩ := da
  obtain ⟨ob, es', ep', b1, _, b2, b3, b4, b5⟩ := db
  have la : es.size = ka.length := size_of_entries a3
  have lb : es'.size = kb.length := size_of_entries b3
  unfold Builtin.Dict.samePairs Builtin.Dict.showsAll
  rw [if_neg (show ¬ (a == sysModules) = true by rw [ha]; exact Bool.false_ne_true), if_neg (show ¬ (b == sysModules) = true by rw [hb]; exact Bool.false_ne_true)]
  refine wpAny_bind (wpAny_pure (wpAny_bind (wpAny_pure (wpAny_bind (wpAny_dictEntries a1 a2 ?_)))))
  dsimp only
  refine wpAny_bind (wpAny_dictEntries b1 b2 ?_)
  rw [if_neg (by rw [la, lb, hl]; simp)]
  refine wpAny_bind (wpAny_dictEpoch a1 a2 (wpAny_bind ?_))
  rw [Std.Legacy.Range.forIn_eq_forIn_range']
  simp only [Std.Legacy.Range.size, Nat.sub_zero, Nat.add_sub_cancel, Nat.div_one]
  refine wpAny_forIn_list _ (fun rest q t => t = s ∧ q = (none, ()) ∧ ∃ i, rest = List.range' i (es.size - i) ∧ i ≤ es.size ∧ HitT A s kb (ka.drop i) r) _ ?_ ?_ _ _ ⟨rfl, rfl, 0, by simp, Nat.zero_le _, hits⟩
  · rintro x rest q t ⟨rfl, rfl, i, hr, hi, hp⟩
    have lt : i < es.size := by
      rcases Nat.lt_or_ge i es.size with z | z
      · exact z
      · rw [Nat.sub_eq_zero_of_le z] at hr; cases hr
    have e1 : es.size - i = (es.size - (i + 1)) + 1 := by omega
    rw [e1, List.range'_succ] at hr
    injection hr with hx hrest
    subst hx
    have ltk : x < ka.length := la ▸ lt
    have ek : ka[x]? = some ka[x] := List.getElem?_eq_getElem ltk
    rw [List.drop_eq_getElem_cons ltk] at hp
    refine wpAny_bind (wpAny_dictEntries a1 a2 ?_)
    rw [entry_get a3 ek]
    refine wpAny_bind (wpAny_holding (wpAny_bind ?_))
    have key := a4 _ (List.mem_of_getElem? ek)
    refine wpAny_dictFind_heap (knd := kT P w) (k := (ka[x]).1) hu key b1 b2 b3 b4 b5 (fun hno => ?_) (fun j p hj => ?_)
    · have er : r = false := by
        cases hp with
        | miss _ => rfl
        | no e2 _ => exact absurd e2 (hno _ _)
        | yes e2 _ _ => exact absurd e2 (hno _ _)
      subst er
      exact wpAny_pure (wpAny_pure (wpAny_pure h))
    · refine wpAny_bind (wpAny_dictEntries b1 b2 ?_)
      rw [entry_get b3 hj]
      have same : ∀ {j' : Nat} {q : Addr × Value}, kb[j']? = some ((ka[x]).1, q) → q = p := fun {j' q} e2 => by
        have k1 : (kb.map (·.1))[j']? = some (ka[x]).1 := by rw [List.getElem?_map, e2]; rfl
        have k2 : (kb.map (·.1))[j]? = some (ka[x]).1 := by rw [List.getElem?_map, hj]; rfl
        have ej : j' = j := (List.getElem?_inj (List.getElem?_eq_some_iff.mp k1).1 b5).mp (k1.trans k2.symm)
        subst ej
        rw [hj] at e2
        exact (Prod.mk.inj (Option.some.inj e2)).2.symm
      refine wpAny_holding ?_
      cases hp with
      | miss e2 => exact absurd hj (e2 _ _)
      | no e2 e3 =>
        obtain rfl := same e2
        exact e3 P w _ _ (wpAny_pure (wpAny_pure h))
      | yes e2 e3 e4 =>
        obtain rfl := same e2
        refine e3 P w _ _ ?_
        refine wpAny_bind (wpAny_dictEpoch a1 a2 ?_)
        rw [if_neg (by simp)]
        exact wpAny_pure ⟨rfl, rfl, x + 1, hrest, lt, e4⟩
  · rintro q t ⟨rfl, rfl, i, hr, hi, hp⟩
    have ei : i = es.size := by
      rcases Nat.lt_or_ge i es.size with z | z
      · have e1 : es.size - i = (es.size - (i + 1)) + 1 := by omega
        rw [e1, List.range'_succ] at hr; cases hr
      · omega
    subst ei
    rw [la, List.drop_length] at hp
    cases hp
    exact wpAny_pure h
theorem samePairsT0 {nm : String} {a b : Addr} {ka kb : List (List Key × Addr × Value)} {Q : Bool → Shared → Prop} (ha : (a == sysModules) = false) (hb : (b == sysModules) = false)
    (da : s.heap.DictOfH (kT P w) a ka) (db : s.heap.DictOfH (kT P w) b kb) (hl : ka.length ≠ kb.length) (h : Q false s) : wpAny (model P w) A (Builtin.Dict.samePairs nm a b) Q E s := by
  obtain ⟨oa, es, ep, a1, _, a2, a3, a4, _⟩ := da
  obtain ⟨ob, es', ep', b1, _, b2, b3, b4, b5⟩ := db
  have la : es.size = ka.length := size_of_entries a3
  have lb : es'.size = kb.length := size_of_entries b3
  unfold Builtin.Dict.samePairs Builtin.Dict.showsAll
  rw [if_neg (show ¬ (a == sysModules) = true by rw [ha]; exact Bool.false_ne_true), if_neg (show ¬ (b == sysModules) = true by rw [hb]; exact Bool.false_ne_true)]
  refine wpAny_bind (wpAny_pure (wpAny_bind (wpAny_pure (wpAny_bind (wpAny_dictEntries a1 a2 ?_)))))
  dsimp only
  refine wpAny_bind (wpAny_dictEntries b1 b2 ?_)
  rw [if_pos (by rw [la, lb]; simpa using hl)]
  exact wpAny_bind (wpAny_rule (wpAny_pure h))
theorem rcT {a b : Addr} {ka kb : List (List Key × Addr × Value)} {r : Bool} {op : CmpOp} (hu : A.units + 1 < cLine) (ha : (a == sysModules) = false) (hb : (b == sysModules) = false) (da : s.heap.DictOfH (kT P w) a ka) (db : s.heap.DictOfH (kT P w) b kb)
    (hits : (ka.length ≠ kb.length ∧ r = false) ∨ (ka.length = kb.length ∧ HitT A.in1 s kb ka r)) (E Q : Value → Shared → Prop) (ho : op = .Eq ∨ op = .NotEq) (h : Q (.bool (if op = .Eq then r else !r)) s) : wpAny (model P w) A (richCompare op (.ref a) (.ref b)) Q E s := by
  have sp : ∀ (nm : String) (E' : Value → Shared → Prop) (Q' : Bool → Shared → Prop), Q' r s → wpAny (model P w) A.in1 (Builtin.Dict.samePairs nm a b) Q' E' s := fun nm E' Q' q => by
    rcases hits with ⟨l, rfl⟩ | ⟨l, t⟩
    · exact samePairsT0 ha hb da db l q
    · exact samePairsT hu ha hb da db l t q
  rcases ho with rfl | rfl
  · refine wpAny_richCompare_same_room (op := .Eq) da.typeIs db.typeIs F.slot_dict_eq (wpAny_call_entry F.slot_dict_eq da.typeIs F.entry_dict_eq ?_ (F.args_dict_eq_2 _ _)) (by omega)
    show wpAny _ _ (Builtin.Dict.dictSlotArgs "__eq__" ⟨[.ref a, .ref b], []⟩ >>= _) _ _ s
    refine wpAny_bind ?_
    unfold Builtin.Dict.dictSlotArgs
    refine wpAny_bind (wpAny_notOrdered_dict da.typeIs ?_)
    show wpAny _ _ (pure (Value.ref a, Value.ref b)) _ _ s
    refine wpAny_pure (wpAny_bind (wpAny_isInstance (T := "dict") db.typeIs F.sub_dict_dict ?_))
    simp only [Bool.not_true, Bool.false_eq_true, if_false]
    refine wpAny_bind (wpAny_pure (wpAny_bind (wpAny_pure (wpAny_bind (sp _ _ _ (wpAny_pure ⟨_, rfl, (fun z => nomatch z), ?_⟩))))))
    simpa using h
  · refine wpAny_richCompare_same_room (op := .NotEq) da.typeIs db.typeIs F.slot_dict_ne (wpAny_call_entry F.slot_dict_ne da.typeIs F.entry_dict_ne ?_ (F.args_dict_ne_2 _ _)) (by omega)
    show wpAny _ _ (Builtin.Dict.dictSlotArgs "__ne__" ⟨[.ref a, .ref b], []⟩ >>= _) _ _ s
    refine wpAny_bind ?_
    unfold Builtin.Dict.dictSlotArgs
    refine wpAny_bind (wpAny_notOrdered_dict da.typeIs ?_)
    show wpAny _ _ (pure (Value.ref a, Value.ref b)) _ _ s
    refine wpAny_pure (wpAny_bind (wpAny_isInstance (T := "dict") db.typeIs F.sub_dict_dict ?_))
    simp only [Bool.not_true, Bool.false_eq_true, if_false]
    refine wpAny_bind (wpAny_pure (wpAny_bind (wpAny_pure (wpAny_bind (sp _ _ _ (wpAny_pure ⟨_, rfl, (fun z => nomatch z), ?_⟩))))))
    simpa using h
end
end MP

set_option maxRecDepth 100000
set_option maxHeartbeats 1000000
namespace MP
open PySem PySem.Spec PyProof.Rows L2
section
variable {X : Cx} {W : WX} {K : PySem.W.Frag} {E : XK} {DR : DRel} {N0 : Ent} {H0 F H : Hp} {Ad : List Addr} {M : List D} {env : EnvM} {σ : St} {Q : VK} {x : V}
/-! ### how data lies -/
/-- a value that is looked at now, a shared object too -/
def DV (K : PySem.W.Frag) (F : Hp) (Ad : List Addr) (H : Hp) (v : V) (d : D) : Prop := Den K F Ad v d ∨ ∃ a, v = .ref a ∧ Root K F Ad H a d
theorem DB.view (m : MemOk K F Ad M H) {d} (h : DB K H0 F Ad H x d) : DV K F Ad H x (view M d) := by
  cases d with
  | cel n =>
    rcases h with h | ⟨a, e, nn, na, r⟩
    · cases h with
      | @cel a _ h =>
        have hn : n < M.length := by rw [← m.len]; exact (List.getElem?_eq_some_iff.mp h).1
        have e2 : M[n]? = some M[n] := List.getElem?_eq_getElem hn
        obtain ⟨f, r⟩ := m.cel n a M[n] h e2
        show DV K F Ad H (.ref a) ((M[n]?).getD (.cel n))
        rw [e2]
        exact .inr ⟨a, rfl, r⟩
    · cases r
  | _ =>
    rcases h with h | ⟨a, e, nn, na, r⟩
    · exact .inl h
    · exact .inr ⟨a, e, r⟩
theorem DV.int {i} (h : DV K F Ad H x (.int i)) : x = .int i := by
  rcases h with h | ⟨a, e, r⟩
  · cases h; rfl
  · cases r
theorem DV.bl {i} (h : DV K F Ad H x (.bl i)) : x = .bl i := by
  rcases h with h | ⟨a, e, r⟩
  · cases h; rfl
  · cases r
theorem DV.str {i} (h : DV K F Ad H x (.str i)) : x = .str i := by
  rcases h with h | ⟨a, e, r⟩
  · cases h; rfl
  · cases r
theorem DV.non (h : DV K F Ad H x .non) : x = .non := by
  rcases h with h | ⟨a, e, r⟩
  · cases h; rfl
  · cases r
theorem sqT_sub (m : MemOk K F Ad M H) {a vs} (h : SqT K F a vs) : SqT K H a vs := by
  rcases h with (h | ⟨o, h⟩) | h
  · exact .inl (.inl (m.sub a _ h))
  · exact .inl (.inr ⟨o, m.sub a _ h⟩)
  · exact .inr h
theorem sqL_sub (m : MemOk K F Ad M H) {a vs} (h : SqL K F a vs) : SqL K H a vs := by
  rcases h with (h | ⟨o, h⟩) | h
  · exact .inl (.inl (m.sub a _ h))
  · exact .inl (.inr ⟨o, m.sub a _ h⟩)
  · exact .inr h
theorem DV.tup (m : MemOk K F Ad M H) {ds} (h : DV K F Ad H x (.tup ds)) : ∃ a vs, x = .ref a ∧ H a = some (.tup vs) ∧ DenL K F Ad vs ds := by
  rcases h with h | ⟨a, e, r⟩
  · cases h with | tup h r => exact ⟨_, _, rfl, m.sub _ _ h, r⟩
  · cases r
theorem DV.ktp (m : MemOk K F Ad M H) {ds} (h : DV K F Ad H x (.ktp ds)) : ∃ a vs, x = .ref a ∧ SqT K H a vs ∧ DenL K F Ad vs ds := by
  rcases h with h | ⟨a, e, r⟩
  · cases h with | ktp h r => exact ⟨_, _, rfl, sqT_sub m h, r⟩
  · cases r
theorem DV.lst (m : MemOk K F Ad M H) {ds} (h : DV K F Ad H x (.lst ds)) : ∃ a vs, x = .ref a ∧ H a = some (.lst vs) ∧ DenL K F Ad vs ds := by
  rcases h with h | ⟨a, e, r⟩
  · cases h with | lst h r => exact ⟨_, _, rfl, m.sub _ _ h, r⟩
  · cases r with | lst h r => exact ⟨_, _, e, h, r⟩
theorem DV.scr (m : MemOk K F Ad M H) {ns} (h : DV K F Ad H x (.scr ns)) : ∃ a, x = .ref a ∧ SqL K H a (ns.map V.int) := by
  rcases h with h | ⟨a, e, r⟩
  · cases h with | scr h => exact ⟨_, rfl, sqL_sub m h⟩
  · cases r
theorem DV.ins (m : MemOk K F Ad M H) {c ds} (h : DV K F Ad H x (.ins c ds)) : ∃ a dx vs, x = .ref a ∧ H a = some (.ins (He.ga K c) dx vs) ∧ DenF K F Ad vs ds := by
  rcases h with h | ⟨a, e, r⟩
  · cases h with | ins h r => exact ⟨_, _, _, rfl, m.sub _ _ h, r⟩
  · cases r with | ins h r => exact ⟨_, _, _, e, h, r⟩
theorem DV.den {d} (h : DV K F Ad H x d) (n : ∀ a, ¬ Root K F Ad H a d) : Den K F Ad x d := by
  rcases h with h | ⟨a, e, r⟩
  · exact h
  · exact absurd r (n a)

/-! ### operators on ints, texts, tuples, lists -/
def oAdd (x y : D) (M : List D) : R := match view M x, view M y with
  | .int i, .int j => .ok (.int (i + j)) M
  | .str a, .str b => if a.length + b.length ≤ sizeLine then .ok (.str (a ++ b)) M else .stuck
  | .tup a, .tup b => if a.length + b.length ≤ sizeLine then .ok (.tup (a ++ b)) M else .stuck
  | .lst a, .lst b => if a.length + b.length ≤ sizeLine then .ok (.lst (a ++ b)) M else .stuck
  | _, _ => .stuck
theorem op2_add : Op2 X (DE X.K) (binaryOp .Add) oAdd := by
  intro pins s σ H F Ad M E x y v u dx dy Q I m rx ry hx hy r
  have ax := DB.view m hx
  have ay := DB.view m hy
  unfold oAdd at r
  revert r ax ay
  generalize view M dx = ex
  generalize view M dy = ey
  intro r ax ay
  split at r
  · exact op_add pins s σ H x y v u Q I rx ry ⟨_, _, ax.int, ay.int, RP.here r m .int⟩
  · rename_i a b
    split at r
    · rename_i h; exact op_add_str pins s σ H x y v u Q I rx ry ⟨_, _, ax.str, ay.str, h, RP.here r m .str⟩
    · exact r.elim
  · rename_i a b
    split at r
    · rename_i h
      obtain ⟨p, vs, rfl, h1, d1⟩ := ax.tup m
      obtain ⟨q, ws, rfl, h2, d2⟩ := ay.tup m
      have l1 := d1.length
      have l2 := d2.length
      refine op_catA pins s σ H _ _ v u Q I rx ry ⟨p, q, vs, ws, rfl, rfl, SqT.of h1, SqT.of h2, by omega, fun e => ?_, fun e e2 => ?_, fun e e2 c hc => ?_⟩
      · subst e; cases d1; exact RP.here r m (ay.den fun _ h => nomatch h)
      · subst e2; cases d2; rw [List.append_nil] at r; exact RP.here r m (ax.den fun _ h => nomatch h)
      · exact RP.newTup r m (d1.append d2) hc
    · exact r.elim
  · rename_i a b
    split at r
    · rename_i h
      obtain ⟨p, vs, rfl, h1, d1⟩ := ax.lst m
      obtain ⟨q, ws, rfl, h2, d2⟩ := ay.lst m
      have l1 := d1.length
      have l2 := d2.length
      refine op_cat pins s σ H _ _ v u Q I rx ry ⟨p, q, vs, ws, rfl, rfl, h1, h2, by omega, fun c hc => RP.newLst r m (d1.append d2) hc⟩
    · exact r.elim
  · exact r.elim
/-- an operation on two ints -/
theorem op2_int {f : Value → Value → Sem Value} {C : Int → Int → Prop} [DecidableRel C] {g : Int → Int → Int} (h : OpR X f (rI C fun i j => .int (g i j))) :
    Op2 X (DE X.K) f (fun x y M => match view M x, view M y with | .int i, .int j => if C i j then .ok (.int (g i j)) M else .stuck | _, _ => .stuck) := by
  intro pins s σ H F Ad M E x y v u dx dy Q I m rx ry hx hy r
  have ax := DB.view m hx
  have ay := DB.view m hy
  dsimp only at r
  revert r ax ay
  generalize view M dx = ex
  generalize view M dy = ey
  intro r ax ay
  split at r
  · rename_i i j
    split at r
    · rename_i hc; exact h pins s σ H x y v u Q I rx ry ⟨i, j, ax.int, ay.int, hc, RP.here r m .int⟩
    · exact r.elim
  · exact r.elim
def oSub (x y : D) (M : List D) : R := match view M x, view M y with | .int i, .int j => .ok (.int (i - j)) M | _, _ => .stuck
theorem op2_sub : Op2 X (DE X.K) (binaryOp .Sub) oSub := by
  intro pins s σ H F Ad M E x y v u dx dy Q I m rx ry hx hy r
  have ax := DB.view m hx
  have ay := DB.view m hy
  unfold oSub at r
  revert r ax ay
  generalize view M dx = ex
  generalize view M dy = ey
  intro r ax ay
  split at r
  · exact op_sub pins s σ H x y v u Q I rx ry ⟨_, _, ax.int, ay.int, RP.here r m .int⟩
  · exact r.elim
/-- one factor small, said so that the kernel can't count it off -/
def CMulB (i j : Int) : Prop := i.natAbs / 9223372036854775808 = 0 ∨ j.natAbs / 9223372036854775808 = 0
instance : DecidableRel CMulB := fun i j => by unfold CMulB; exact inferInstance
theorem small_of {i : Int} (h : i.natAbs / 9223372036854775808 = 0) : -(2 ^ 64) < i ∧ i < 2 ^ 64 := by
  have h1 : i.natAbs < 9223372036854775808 := (Nat.div_eq_zero_iff_lt (by decide)).mp h
  have e : (2 : Int) ^ 64 = 18446744073709551616 := by decide
  rw [e]; omega
theorem CMulB.c {i j : Int} (h : CMulB i j) : CMul i j := by
  rcases h with h | h
  · exact .inl (small_of h)
  · exact .inr (small_of h)
instance : DecidableRel CDivW := fun i j => by unfold CDivW; exact inferInstance
instance : DecidableRel CPow := fun i j => by unfold CPow; exact inferInstance
def oMul (x y : D) (M : List D) : R := match view M x, view M y with | .int i, .int j => if CMulB i j then .ok (.int (i * j)) M else .stuck | _, _ => .stuck
def oDiv (x y : D) (M : List D) : R := match view M x, view M y with | .int i, .int j => if CDivW i j then .ok (.int (i / j)) M else .stuck | _, _ => .stuck
def oMod (x y : D) (M : List D) : R := match view M x, view M y with | .int i, .int j => if 0 < j then .ok (.int (i % j)) M else .stuck | _, _ => .stuck
def oPow (x y : D) (M : List D) : R := match view M x, view M y with | .int i, .int j => if CPow i j then .ok (.int (i ^ j.toNat)) M else .stuck | _, _ => .stuck
theorem op2_mul : Op2 X (DE X.K) (binaryOp .Mult) oMul := op2_int (C := CMulB) fun pins s σ H x y v u Q I rx ry ⟨i, j, e1, e2, hc, q⟩ => op_mul pins s σ H x y v u Q I rx ry ⟨i, j, e1, e2, hc.c, q⟩
theorem op2_div : Op2 X (DE X.K) (binaryOp .FloorDiv) oDiv := op2_int op_fdivW
theorem op2_mod : Op2 X (DE X.K) (binaryOp .Mod) oMod := op2_int (C := fun _ j => 0 < j) op_mod
theorem op2_pow : Op2 X (DE X.K) (binaryOp .Pow) oPow := op2_int op_pow
def oNeg (x : D) (M : List D) : R := match view M x with | .int i => .ok (.int (-i)) M | _ => .stuck
theorem op1_neg : Op1 X (DE X.K) (unaryOp .USub) oNeg := by
  intro pins s σ H F Ad M E x v dx Q I m rx hx r
  have ax := DB.view m hx
  unfold oNeg at r
  revert r ax
  generalize view M dx = ex
  intro r ax
  split at r
  · exact un_neg pins s σ H x v Q I rx ⟨_, ax.int, RP.here r m .int⟩
  · exact r.elim

/-! ### comparisons -/
/-- the ints of a tuple of ints -/
def intsOf : List D → Option (List Int)
  | [] => some []
  | .int i :: r => (intsOf r).map (i :: ·)
  | _ :: _ => none
theorem DenL.ints : ∀ {vs ds ns}, DenL K F Ad vs ds → intsOf ds = some ns → vs = ns.map V.int
  | _, _, ns, .nil, e => by simp [intsOf] at e; subst e; rfl
  | _, _, ns, .cons (d := d) h r, e => by
    cases d with
    | int i =>
      simp only [intsOf, Option.map_eq_some_iff] at e
      obtain ⟨ms, e1, rfl⟩ := e
      cases h
      simp [DenL.ints r e1]
    | _ => simp [intsOf] at e
def oLt (x y : D) (M : List D) : R := match view M x, view M y with
  | .int i, .int j => .ok (.bl (decide (i < j))) M
  | .tup a, .tup b => (match intsOf a, intsOf b with
    | some ns, some ms => .ok (.bl (HT.lexLt ns ms)) M
    | _, _ => .stuck)
  | _, _ => .stuck
theorem op2_lt (hu : X.A.units < cLine) : Op2 X (DE X.K) (compareOp .Lt) oLt := by
  intro pins s σ H F Ad M E x y v u dx dy Q I m rx ry hx hy r
  have ax := DB.view m hx
  have ay := DB.view m hy
  unfold oLt at r
  revert r ax ay
  generalize view M dx = ex
  generalize view M dy = ey
  intro r ax ay
  split at r
  · exact op_lt pins s σ H x y v u Q I rx ry ⟨_, _, ax.int, ay.int, RP.here r m .bl⟩
  · rename_i a b
    split at r
    · rename_i ns ms e1 e2
      obtain ⟨p, vs, rfl, h1, d1⟩ := ax.tup m
      obtain ⟨q, ws, rfl, h2, d2⟩ := ay.tup m
      rw [d1.ints e1] at h1
      rw [d2.ints e2] at h2
      exact op_ltT hu pins s σ H _ _ v u Q I rx ry ⟨p, q, ns, ms, rfl, rfl, SqT.of h1, SqT.of h2, RP.here r m .bl⟩
    · exact r.elim
  · exact r.elim
theorem op2_intB {f : Value → Value → Sem Value} {g : Int → Int → Bool} (h : OpR X f (rI0 fun i j => .bl (g i j))) :
    Op2 X (DE X.K) f (fun x y M => match view M x, view M y with | .int i, .int j => .ok (.bl (g i j)) M | _, _ => .stuck) := by
  intro pins s σ H F Ad M E x y v u dx dy Q I m rx ry hx hy r
  have ax := DB.view m hx
  have ay := DB.view m hy
  dsimp only at r
  revert r ax ay
  generalize view M dx = ex
  generalize view M dy = ey
  intro r ax ay
  split at r
  · exact h pins s σ H x y v u Q I rx ry ⟨_, _, ax.int, ay.int, RP.here r m .bl⟩
  · exact r.elim
def oLe (x y : D) (M : List D) : R := match view M x, view M y with | .int i, .int j => .ok (.bl (decide (i ≤ j))) M | _, _ => .stuck
def oGt (x y : D) (M : List D) : R := match view M x, view M y with | .int i, .int j => .ok (.bl (decide (j < i))) M | _, _ => .stuck
def oGe (x y : D) (M : List D) : R := match view M x, view M y with | .int i, .int j => .ok (.bl (decide (j ≤ i))) M | _, _ => .stuck
theorem op2_le : Op2 X (DE X.K) (compareOp .LtE) oLe := op2_intB op_le
theorem op2_gt : Op2 X (DE X.K) (compareOp .Gt) oGt := op2_intB op_gt
theorem op2_ge : Op2 X (DE X.K) (compareOp .GtE) oGe := op2_intB op_ge
/-! plain data -/
mutual
def D.pd : D → Option PyData
  | .non => some .none
  | .bl b => some (.bool b)
  | .int i => some (.int i)
  | .str s => some (.str s)
  | .tup ds => (D.pdL ds).map .tuple
  | .lst ds => (D.pdL ds).map .list
  | _ => none
def D.pdL : List D → Option (List PyData)
  | [] => some []
  | d :: ds => match D.pd d, D.pdL ds with
    | some p, some ps => some (p :: ps)
    | _, _ => none
end
section
variable {M : List D}
mutual
theorem Den.dp (m : MemOk K F Ad M H) : ∀ {v d p}, Den K F Ad v d → d.pd = some p → Dp K H v p
  | _, _, p, .non, e => by simp [D.pd] at e; subst e; exact .non
  | _, _, p, .bl, e => by simp [D.pd] at e; subst e; exact .bl _
  | _, _, p, .int, e => by simp [D.pd] at e; subst e; exact .int _
  | _, _, p, .str, e => by simp [D.pd] at e; subst e; exact .str _
  | _, _, p, .tup h r, e => by
    simp only [D.pd, Option.map_eq_some_iff] at e
    obtain ⟨ps, e1, rfl⟩ := e
    exact .tup (SqT.of (m.sub _ _ h)) (r.dp m e1)
  | _, _, p, .lst h r, e => by
    simp only [D.pd, Option.map_eq_some_iff] at e
    obtain ⟨ps, e1, rfl⟩ := e
    exact .lst (SqL.of (m.sub _ _ h)) (r.dp m e1)
  | _, _, p, .scr _, e => by simp [D.pd] at e
  | _, _, p, .ktp _ _, e => by simp [D.pd] at e
  | _, _, p, .dK _ _, e => by simp [D.pd] at e
  | _, _, p, .dT _ _, e => by simp [D.pd] at e
  | _, _, p, .ins _ _, e => by simp [D.pd] at e
  | _, _, p, .cel _, e => by simp [D.pd] at e
theorem DenL.dp (m : MemOk K F Ad M H) : ∀ {vs ds ps}, DenL K F Ad vs ds → D.pdL ds = some ps → DpAll K H vs ps
  | _, _, ps, .nil, e => by simp [D.pdL] at e; subst e; exact .nil
  | _, _, ps, .cons h r, e => by
    simp only [D.pdL] at e
    split at e
    · rename_i p qs e1 e2
      cases e
      exact .cons (h.dp m e1) (r.dp m e2)
    · cases e
end
theorem DV.dp (m : MemOk K F Ad M H) {v d p} (h : DV K F Ad H v d) (e : d.pd = some p) : Dp K H v p := by
  rcases h with h | ⟨a, rfl, r⟩
  · exact h.dp m e
  · cases r with
    | lst h r =>
      simp only [D.pd, Option.map_eq_some_iff] at e
      obtain ⟨ps, e1, rfl⟩ := e
      exact .lst (SqL.of h) (r.dp m e1)
    | dK => simp [D.pd] at e
    | dT => simp [D.pd] at e
    | ins => simp [D.pd] at e
end
/-- == over scalars -/
def eqS : D → D → Option Bool
  | .int i, .int j => some (i == j)
  | .str i, .str j => some (i == j)
  | .bl i, .bl j => some (i == j)
  | .non, .non => some true
  | .non, .int _ => some false
  | .int _, .non => some false
  | .str _, .non => some false
  | .non, .str _ => some false
  | .non, .bl _ => some false
  | .bl _, .non => some false
  | .int _, .str _ => some false
  | .str _, .int _ => some false
  | .bl _, .str _ => some false
  | .str _, .bl _ => some false
  | _, _ => none
def eqP (x y : D) : Option Bool := match x.pd, y.pd with
  | some p, some q => if SeqAt.shaped p = true ∧ SeqAt.shaped q = true then some (PyData.eqv p q) else none
  | _, _ => none
def eqD (x y : D) : Option Bool := match eqS x y with
  | some b => some b
  | none => eqP x y
theorem eqS_ok {dx dy : D} {x y : V} {b : Bool} (h : eqS dx dy = some b) (ax : DV K F Ad H x dx) (ay : DV K F Ad H y dy) : scal x y = true ∧ decide (x = y) = b := by
  unfold eqS at h
  split at h
  · cases h; rw [ax.int, ay.int]; exact ⟨rfl, dec_int⟩
  · cases h; rw [ax.str, ay.str]; exact ⟨rfl, dec_str⟩
  · cases h; rw [ax.bl, ay.bl]; exact ⟨rfl, dec_bl⟩
  · cases h; rw [ax.non, ay.non]; exact ⟨rfl, by simp⟩
  · cases h; rw [ax.non, ay.int]; exact ⟨rfl, by simp⟩
  · cases h; rw [ax.int, ay.non]; exact ⟨rfl, by simp⟩
  · cases h; rw [ax.str, ay.non]; exact ⟨rfl, by simp⟩
  · cases h; rw [ax.non, ay.str]; exact ⟨rfl, by simp⟩
  · cases h; rw [ax.non, ay.bl]; exact ⟨rfl, by simp⟩
  · cases h; rw [ax.bl, ay.non]; exact ⟨rfl, by simp⟩
  · cases h; rw [ax.int, ay.str]; exact ⟨rfl, by simp⟩
  · cases h; rw [ax.str, ay.int]; exact ⟨rfl, by simp⟩
  · cases h; rw [ax.bl, ay.str]; exact ⟨rfl, by simp⟩
  · cases h; rw [ax.str, ay.bl]; exact ⟨rfl, by simp⟩
  · cases h
theorem eqP_ok {x y : D} {b : Bool} (h : eqP x y = some b) : ∃ p q, x.pd = some p ∧ y.pd = some q ∧ SeqAt.shaped p = true ∧ SeqAt.shaped q = true ∧ PyData.eqv p q = b := by
  unfold eqP at h
  split at h
  · split at h
    · rename_i h1
      exact ⟨_, _, ‹_›, ‹_›, h1.1, h1.2, Option.some.inj h⟩
    · cases h
  · cases h
def oEq (x y : D) (M : List D) : R := match eqD (view M x) (view M y) with | some b => .ok (.bl b) M | none => .stuck
def oNe (x y : D) (M : List D) : R := match eqD (view M x) (view M y) with | some b => .ok (.bl !b) M | none => .stuck
theorem op2_eq (hu : X.A.units + 64 < cLine) : Op2 X (DE X.K) (compareOp .Eq) oEq := by
  intro pins s σ H F Ad M E x y v u dx dy Q I m rx ry hx hy r
  have ax := DB.view m hx
  have ay := DB.view m hy
  unfold oEq eqD at r
  split at r
  · rename_i b e
    split at e
    · rename_i b' e'
      cases e
      obtain ⟨s1, s2⟩ := eqS_ok e' ax ay
      exact op_eq pins s σ H x y v u Q I rx ry ⟨s1, by rw [s2]; exact RP.here r m .bl⟩
    · obtain ⟨p, q, e1, e2, s1, s2, rfl⟩ := eqP_ok e
      exact op_eqD hu pins s σ H x y v u Q I rx ry ⟨p, q, ax.dp m e1, ay.dp m e2, s1, s2, RP.here r m .bl⟩
  · exact r.elim
theorem op2_ne (hu : X.A.units + 64 < cLine) : Op2 X (DE X.K) (compareOp .NotEq) oNe := by
  intro pins s σ H F Ad M E x y v u dx dy Q I m rx ry hx hy r
  have ax := DB.view m hx
  have ay := DB.view m hy
  unfold oNe eqD at r
  split at r
  · rename_i b e
    split at e
    · rename_i b' e'
      cases e
      obtain ⟨s1, s2⟩ := eqS_ok e' ax ay
      exact op_ne pins s σ H x y v u Q I rx ry ⟨s1, by rw [s2]; exact RP.here r m .bl⟩
    · obtain ⟨p, q, e1, e2, s1, s2, rfl⟩ := eqP_ok e
      exact op_neD hu pins s σ H x y v u Q I rx ry ⟨p, q, ax.dp m e1, ay.dp m e2, s1, s2, RP.here r m .bl⟩
  · exact r.elim
/-- x is None -/
def D.isN : D → Bool | .non => true | _ => false
def oIs (x y : D) (M : List D) : R := match y with | .non => .ok (.bl x.isN) M | _ => .stuck
def oIsnt (x y : D) (M : List D) : R := match y with | .non => .ok (.bl !x.isN) M | _ => .stuck
theorem DB.non (h : DB K H0 F Ad H x .non) : x = .non := by
  rcases h with h | ⟨a, e, n, na, q⟩
  · cases h; rfl
  · cases q
theorem DB.isN {d} (h : DB K H0 F Ad H x d) : decide (x = .non) = d.isN := by
  rcases h with h | ⟨a, e, n, na, r⟩
  · cases h <;> simp [D.isN]
  · subst e; cases r <;> simp [D.isN]
theorem op2_isN : Op2 X (DE X.K) (compareOp .Is) oIs := by
  intro pins s σ H F Ad M E x y v u dx dy Q I m rx ry hx hy r
  unfold oIs at r
  split at r
  · exact op_isN pins s σ H x y v u Q I rx ry ⟨hy.non, by rw [hx.isN]; exact RP.here r m .bl⟩
  · exact r.elim
theorem op2_notN : Op2 X (DE X.K) (compareOp .IsNot) oIsnt := by
  intro pins s σ H F Ad M E x y v u dx dy Q I m rx ry hx hy r
  unfold oIsnt at r
  split at r
  · exact op_notN pins s σ H x y v u Q I rx ry ⟨hy.non, by rw [hx.isN]; exact RP.here r m .bl⟩
  · exact r.elim
end
end MP

set_option maxRecDepth 100000
set_option maxHeartbeats 1000000
namespace MP
open PySem PySem.Spec PyProof.Rows L2
/-! ### tests -/
def RPT (K : PySem.W.Frag) (E : XK) (F : Hp) (Ad : List Addr) (H : Hp) (Q : Bool → Hp → Prop) : R → Prop
  | .ok (.bl b) M' => ∀ F' Ad' H', Gr F Ad H F' Ad' H' → MemOk K F' Ad' M' H' → Q b H'
  | .ok _ _ => False
  | .exc x M' => ∀ cls dx F' Ad' H', Gr F Ad H F' Ad' H' → MemOk K F' Ad' M' H' → XOk K F' Ad' H' x cls dx → E cls dx H'
  | .stuck => False
def tT (K : PySem.W.Frag) (W : WX) (f : EF) : TT := fun σ H Q => ∃ N0 F Ad M env, MemOk K F Ad M H ∧ EnvOk K N0 F Ad H σ env ∧ RPT K (fun c d H => W c d σ H) F Ad H Q (f env M)
abbrev ST (X : Cx) (W : WX) (e : Expr) (f : EF) : Prop := PT X e (tT X.K W f)
abbrev SW (X : Cx) (W : WX) (e : Expr) (f : EF) : Prop := PW X e (tT X.K W f)
def eAnd (a b : EF) : EF := fun env M => (a env M).bind fun x M1 => match x with | .bl true => b env M1 | .bl false => .ok (.bl false) M1 | _ => .stuck
def eOr (a b : EF) : EF := fun env M => (a env M).bind fun x M1 => match x with | .bl true => .ok (.bl true) M1 | .bl false => b env M1 | _ => .stuck
def eNot (a : EF) : EF := fun env M => (a env M).bind fun x M1 => match x with | .bl c => .ok (.bl !c) M1 | _ => .stuck
def eIf (c a b : EF) : EF := fun env M => (c env M).bind fun x M1 => match x with | .bl true => a env M1 | .bl false => b env M1 | _ => .stuck
section
variable {X : Cx} {W : WX} {K : PySem.W.Frag} {E : XK} {DR : DRel} {N0 : Ent} {H0 F F1 H H1 : Hp} {Ad Ad1 : List Addr} {M : List D} {env : EnvM} {σ : St} {Q : VK} {x : V}
theorem RPT.gr {Q : Bool → Hp → Prop} {r : R} (h : RPT K E F Ad H Q r) (g : Gr F Ad H F1 Ad1 H1) : RPT K E F1 Ad1 H1 Q r := by
  cases r with
  | ok d M => cases d with
    | bl b => exact fun F' Ad' H' g' m => h F' Ad' H' (g.trans g') m
    | _ => exact h
  | exc x M => exact fun c dx F' Ad' H' g' m z => h c dx F' Ad' H' (g.trans g') m z
  | stuck => exact h
theorem RPT.here {Q : Bool → Hp → Prop} {b : Bool} (h : RPT K E F Ad H Q (.ok (.bl b) M)) (m : MemOk K F Ad M H) : Q b H := h F Ad H Gr.refl m
theorem tT_seqT {f : EF} {k : D → List D → R} {Q Q' : Bool → Hp → Prop} (m : MemOk K F Ad M H) (e : EnvOk K N0 F Ad H σ env)
    (h : RPT K (fun c d H => W c d σ H) F Ad H Q ((f env M).bind k)) (hn : ∀ d M1, (∀ b, d ≠ .bl b) → k d M1 = .stuck)
    (hq : ∀ b M1 F1 Ad1 H1, Gr F Ad H F1 Ad1 H1 → MemOk K F1 Ad1 M1 H1 → EnvOk K N0 F1 Ad1 H1 σ env → RPT K (fun c d H => W c d σ H) F1 Ad1 H1 Q (k (.bl b) M1) → Q' b H1) : tT K W f σ H Q' := by
  refine ⟨N0, F, Ad, M, env, m, e, ?_⟩
  cases q : f env M with
  | ok d M1 =>
    rw [q] at h
    cases d with
    | bl b => exact fun F' Ad' H' g m' => hq b M1 F' Ad' H' g m' (e.gr g) (RPT.gr h g)
    | _ =>
      rw [R.bind_ok, hn _ M1] at h
      · exact h
      · intro b z; cases z
  | exc x M1 => rw [q] at h; exact h
  | stuck => rw [q] at h; exact h
theorem tT_seqG {f : EF} {k : D → List D → R} {Q : VK} {Q' : Bool → Hp → Prop} (dr : DRok DR) (m : MemOk K F Ad M H) (e : EnvOk K N0 F Ad H σ env)
    (h : RP K (fun c d H => W c d σ H) DR F Ad H Q ((f env M).bind k)) (hn : ∀ d M1, (∀ b, d ≠ .bl b) → k d M1 = .stuck)
    (hq : ∀ b M1 F1 Ad1 H1, Gr F Ad H F1 Ad1 H1 → MemOk K F1 Ad1 M1 H1 → EnvOk K N0 F1 Ad1 H1 σ env → RP K (fun c d H => W c d σ H) DR F1 Ad1 H1 Q (k (.bl b) M1) → Q' b H1) : tT K W f σ H Q' := by
  refine ⟨N0, F, Ad, M, env, m, e, ?_⟩
  cases q : f env M with
  | ok d M1 =>
    rw [q] at h
    cases d with
    | bl b => exact fun F' Ad' H' g m' => hq b M1 F' Ad' H' g m' (e.gr g) (RP.gr dr h g)
    | _ =>
      rw [R.bind_ok, hn _ M1] at h
      · exact h
      · intro b z; cases z
  | exc x M1 => rw [q] at h; exact h
  | stuck => rw [q] at h; exact h
variable {a b c : Expr} {fa fb fc : EF} {pos : Pos} {rest : List Expr}
/-- an expression as a test -/
theorem st_val (h : SE X W a fa) (he : ∀ whole, isTrue a X.env whole = (do let v ← whole; standAt a.pos; holding [v] (truthy v)) := by intro _; rfl) : ST X W a fa :=
  PT.imp (pt_val h he) fun σ H Q ⟨N0, F, Ad, M, env, m, en, r⟩ => ⟨N0, F, Ad, M, env, m, en, by
    cases q : fa env M with
    | ok d M1 =>
      rw [q] at r
      intro v F' Ad' H' g m' x
      cases d with
      | bl b => cases x; exact ⟨b, rfl, r F' Ad' H' g m'⟩
      | _ => exact r.elim
    | exc x M1 => rw [q] at r; exact r
    | stuck => rw [q] at r; exact r⟩
theorem st_cmp {op : CmpOp} {g : D → D → List D → R} (ho : Op2 X (DE X.K) (compareOp op) g) (ha : SB X W a fa) (hb : SB X W b fb) (hm : behindInMarks op b = false) : ST X W (.Compare a [op] [b] pos) (e2 g fa fb) :=
  PT.imp (pt_cmp (s_pc DE.ok ho ha hb) hm) fun σ H Q ⟨N0, F, Ad, M, env, m, en, r⟩ => ⟨N0, F, Ad, M, env, m, en, by
    cases q : e2 g fa fb env M with
    | ok d M1 =>
      rw [q] at r
      intro v F' Ad' H' g m' x
      cases d with
      | bl b => cases x; exact ⟨b, rfl, r F' Ad' H' g m'⟩
      | _ => exact r.elim
    | exc x M1 => rw [q] at r; exact r
    | stuck => rw [q] at r; exact r⟩
theorem sw_and1 (h : ST X W a fa) : SW X W (.BoolOp .And [a] pos) fa := pw_and1 h
theorem sw_or1 (h : ST X W a fa) : SW X W (.BoolOp .Or [a] pos) fa := pw_or1 h
theorem sw_and (ha : ST X W a fa) (hb : SW X W (.BoolOp .And (b :: rest) pos) fb) : SW X W (.BoolOp .And (a :: b :: rest) pos) (eAnd fa fb) :=
  PW.imp (pw_and ha hb) fun σ H Q ⟨N0, F, Ad, M, env, m, en, r⟩ => tT_seqT m en r (fun d M1 hd => by cases d <;> first | rfl | exact absurd rfl (hd _)) fun b M1 F1 Ad1 H1 g1 m1 en1 r1 => by
    cases b with
    | true => exact ⟨N0, F1, Ad1, M1, env, m1, en1, r1⟩
    | false => exact RPT.here r1 m1
theorem sw_or (ha : ST X W a fa) (hb : SW X W (.BoolOp .Or (b :: rest) pos) fb) : SW X W (.BoolOp .Or (a :: b :: rest) pos) (eOr fa fb) :=
  PW.imp (pw_or ha hb) fun σ H Q ⟨N0, F, Ad, M, env, m, en, r⟩ => tT_seqT m en r (fun d M1 hd => by cases d <;> first | rfl | exact absurd rfl (hd _)) fun b M1 F1 Ad1 H1 g1 m1 en1 r1 => by
    cases b with
    | true => exact RPT.here r1 m1
    | false => exact ⟨N0, F1, Ad1, M1, env, m1, en1, r1⟩
theorem st_w (h : SW X W a fa) : ST X W a fa := PW.pt h
theorem st_not (ha : ST X W a fa) : ST X W (.UnaryOp .Not a pos) (eNot fa) :=
  PT.imp (pt_not ha) fun σ H Q ⟨N0, F, Ad, M, env, m, en, r⟩ => tT_seqT m en r (fun d M1 hd => by cases d <;> first | rfl | exact absurd rfl (hd _)) fun b M1 F1 Ad1 H1 g1 m1 en1 r1 => RPT.here r1 m1
theorem se_one {op} (h : PE X a (tG X.K W DR fa)) : PE X (.BoolOp op [a] pos) (tG X.K W DR fa) := pe_one h
theorem bl_of {v : V} {x : D} {F Ad} (h : Den K F Ad v x) {b} (e : x = .bl b) : v = .bl b := by subst e; cases h; rfl
theorem se_and (ha : SE X W a fa) (hb : SE X W (.BoolOp .And (b :: rest) pos) fb) : SE X W (.BoolOp .And (a :: b :: rest) pos) (eAnd fa fb) :=
  PE.imp (pe_and ha hb) fun σ H Q ⟨N0, F, Ad, M, env, m, en, r⟩ => tG_seq DE.ok m en r fun d M1 v F1 Ad1 H1 g1 m1 en1 x1 r1 => by
    cases d with
    | bl b =>
      cases x1
      refine ⟨b, rfl, ?_⟩
      cases b with
      | true => exact ⟨N0, F1, Ad1, M1, env, m1, en1, r1⟩
      | false => exact RP.here r1 m1 .bl
    | _ => exact r1.elim
theorem se_or (ha : SE X W a fa) (hb : SE X W (.BoolOp .Or (b :: rest) pos) fb) : SE X W (.BoolOp .Or (a :: b :: rest) pos) (eOr fa fb) :=
  PE.imp (pe_or ha hb) fun σ H Q ⟨N0, F, Ad, M, env, m, en, r⟩ => tG_seq DE.ok m en r fun d M1 v F1 Ad1 H1 g1 m1 en1 x1 r1 => by
    cases d with
    | bl b =>
      cases x1
      refine ⟨b, rfl, ?_⟩
      cases b with
      | true => exact RP.here r1 m1 .bl
      | false => exact ⟨N0, F1, Ad1, M1, env, m1, en1, r1⟩
    | _ => exact r1.elim
theorem se_not (ha : SE X W a fa) : SE X W (.UnaryOp .Not a pos) (eNot fa) :=
  PE.imp (pe_not ha) fun σ H Q ⟨N0, F, Ad, M, env, m, en, r⟩ => tG_seq DE.ok m en r fun d M1 v F1 Ad1 H1 g1 m1 en1 x1 r1 => by
    cases d with
    | bl b => cases x1; exact ⟨b, rfl, RP.here r1 m1 .bl⟩
    | _ => exact r1.elim
theorem s_if (dr : DRok DR) (hc : ST X W c fc) (ha : PE X a (tG X.K W DR fa)) (hb : PE X b (tG X.K W DR fb)) : PE X (.IfExp c a b pos) (tG X.K W DR (eIf fc fa fb)) :=
  PE.imp (pe_ifExp hc ha hb) fun σ H Q ⟨N0, F, Ad, M, env, m, en, r⟩ => tT_seqG dr m en r (fun d M1 hd => by cases d <;> first | rfl | exact absurd rfl (hd _)) fun b M1 F1 Ad1 H1 g1 m1 en1 r1 => by
    cases b with
    | true => exact ⟨N0, F1, Ad1, M1, env, m1, en1, r1⟩
    | false => exact ⟨N0, F1, Ad1, M1, env, m1, en1, r1⟩
/-- the operation as HandS has it -/
def rOp (X : Cx) (E : XK) (DR : DRel) (g : D → D → List D → R) : R2 := fun x y H Q => ∃ F Ad M dx dy, MemOk X.K F Ad M H ∧ DB X.K H F Ad H x dx ∧ DB X.K H F Ad H y dy ∧ RP X.K E DR F Ad H Q (g dx dy M)
theorem Op2.opR {f : Value → Value → Sem Value} {g : D → D → List D → R} (h : Op2 X DR f g) : OpR X f (rOp X E DR g) := fun pins s σ H x y v u Q I rx ry ⟨F, Ad, M, dx, dy, m, hx, hy, r⟩ => h pins s σ H F Ad M E x y v u dx dy Q I m rx ry hx hy r
/-- a op b op' c -/
def eChain (g g' : D → D → List D → R) (a b c : EF) : EF := fun env M => (a env M).bind fun x M1 => (b env M1).bind fun y M2 => (g x y M2).bind fun r M3 => match r with
  | .bl true => (c env M3).bind fun z M4 => g' y z M4
  | .bl false => .ok (.bl false) M3
  | _ => .stuck
theorem se_chain {op op' : CmpOp} {g g' : D → D → List D → R} (ho : Op2 X (DE X.K) (compareOp op) g) (ho' : Op2 X (DE X.K) (compareOp op') g') (ha : SB X W a fa) (hb : SB X W b fb) (hc : SB X W c fc)
    (hp : ∀ (E : St → XK), (∀ σ, OpR X (compareOp op) (rOp X (E σ) (DE X.K) g)) → PE X (.Compare a [op, op'] [b, c] pos) (fun σ H Q => tChain (rOp X (E σ) (DE X.K) g) (rOp X (E σ) (DE X.K) g') (tG X.K W (DB X.K) fa) (tG X.K W (DB X.K) fb) (tG X.K W (DB X.K) fc) σ H Q)) :
    SE X W (.Compare a [op, op'] [b, c] pos) (eChain g g' fa fb fc) := by
  refine PE.imp (hp (fun σ c d H => W c d σ H) fun σ => ho.opR) fun σ H Q ⟨N0, F, Ad, M, env, m, en, r⟩ => ?_
  refine tG_seq DE.ok m en r fun d M1 v F1 Ad1 H1 g1 m1 en1 x1 r1 => ?_
  refine tG_seq DE.ok m1 en1 r1 fun d2 M2 v2 F2 Ad2 H2 g2 m2 en2 x2 r2 => ?_
  refine ⟨F2, Ad2, M2, d, d2, m2, DB.gr g2 x1, x2, ?_⟩
  cases q : g d d2 M2 with
  | ok d3 M3 =>
    rw [q] at r2
    intro v3 F3 Ad3 H3 g3 m3 x3
    have r3 := RP.gr DE.ok r2 g3
    have en3 := en2.gr g3
    cases d3 with
    | bl b =>
      cases x3
      refine ⟨b, rfl, ?_⟩
      cases b with
      | true =>
        refine tG_seq DE.ok m3 en3 r3 fun d4 M4 v4 F4 Ad4 H4 g4 m4 en4 x4 r4 => ?_
        exact ⟨F4, Ad4, M4, d2, d4, m4, DB.gr g4 (DB.gr g3 x2 (H0' := H3)), x4, r4⟩
      | false => exact RP.here r3 m3 .bl
    | _ => exact r3.elim
  | exc x M3 => rw [q] at r2; exact r2
  | stuck => rw [q] at r2; exact r2

/-! ### lists of expressions -/
def lNil : LF := fun _ M => .ok [] M
def lCons (a : EF) (l : LF) : LF := fun env M => (a env M).bindL fun x M1 => (l env M1).bindL fun xs M2 => .ok (x :: xs) M2
variable {e : Expr} {es : List Expr} {f : EF} {l : LF}
theorem sl_nil : SL X W [] lNil := PA.imp pa_nil fun σ H Q ⟨N0, F, Ad, M, env, m, en, r⟩ => r [] F Ad H Gr.refl m .nil
theorem slb_nil : SLB X W [] lNil := PA.imp pa_nil fun σ H Q ⟨N0, F, Ad, M, env, m, en, r⟩ => r [] F Ad H Gr.refl m .nil
theorem sl_cons (ha : SE X W e f) (hr : SL X W es l) (hs : starEach (e :: es) X.env = (false, eval e X.env) :: starEach es X.env := by rfl) : SL X W (e :: es) (lCons f l) :=
  PA.imp (pa_cons ha hr hs) fun σ H Q ⟨N0, F, Ad, M, env, m, en, r⟩ => tG_seqL m en r fun d M1 v F1 Ad1 H1 g1 m1 en1 x1 r1 => tL_seqL m1 en1 r1 fun ds M2 vs F2 Ad2 H2 g2 m2 en2 x2 r2 =>
    r2 (v :: vs) F2 Ad2 H2 Gr.refl m2 (.cons (x1.mono g2.fle g2.pre) x2)
theorem slb_cons (ha : SB X W e f) (hr : SLB X W es l) (hs : starEach (e :: es) X.env = (false, eval e X.env) :: starEach es X.env := by rfl) : SLB X W (e :: es) (lCons f l) :=
  PA.imp (pa_cons ha hr hs) fun σ H Q ⟨N0, F, Ad, M, env, m, en, r⟩ => tG_seqL m en r fun d M1 v F1 Ad1 H1 g1 m1 en1 x1 r1 => tL_seqL m1 en1 r1 fun ds M2 vs F2 Ad2 H2 g2 m2 en2 x2 r2 =>
    r2 (v :: vs) F2 Ad2 H2 Gr.refl m2 (.cons (DB.gr g2 x1) x2)
/-- a tuple, a list -/
def eTup (l : LF) : EF := fun env M => (l env M).bind fun xs M1 => if xs.length ≤ sizeLine then .ok (.tup xs) M1 else .stuck
def eLst (l : LF) : EF := fun env M => (l env M).bind fun xs M1 => if xs.length ≤ sizeLine then .ok (.lst xs) M1 else .stuck
theorem se_tup {k} (h : SL X W es l) : SE X W (.Tuple es k pos) (eTup l) := PE.imp (pe_tup h) fun σ H Q ⟨N0, F, Ad, M, env, m, en, r⟩ => tL_seq DE.ok m en r fun ds M1 vs F1 Ad1 H1 g1 m1 en1 x1 r1 => by
  split at r1
  · rename_i z; exact ⟨by rw [x1.length]; exact z, fun p hp => RP.newTup r1 m1 x1 hp⟩
  · exact r1.elim
theorem so_lst (h : SL X W es l) : SO X W (.List es pos) (eLst l) := PE.imp (pe_lst h) fun σ H Q ⟨N0, F, Ad, M, env, m, en, r⟩ => tL_seq DO.ok m en r fun ds M1 vs F1 Ad1 H1 g1 m1 en1 x1 r1 => by
  split at r1
  · rename_i z; exact ⟨by rw [x1.length]; exact z, fun p hp => RP.ownLst r1 m1 x1 hp⟩
  · exact r1.elim
def eNew (d : D) : EF := fun _ M => .ok d M
theorem so_dK : SO X W (.Dict [] [] pos) (eNew (.dK [])) := PE.imp pe_dnewK fun σ H Q ⟨N0, F, Ad, M, env, m, en, r⟩ p hp => RP.ownDK r m .nil hp
theorem so_dT : SO X W (.Dict [] [] pos) (eNew (.dT [])) := PE.imp pe_dnewT fun σ H Q ⟨N0, F, Ad, M, env, m, en, r⟩ p hp => RP.ownDT r m .nil hp

/-! ### calls of what is built in -/
def CallS (X : Cx) (DR : DRel) (f : Value) (g : List D → List D → R) : Prop :=
  ∀ (pins : List (Addr × Obj)) (s : Shared) (σ : St) (H F : Hp) (Ad : List Addr) (M : List D) (E : XK) (xs : List V) (us : List Value) (ds : List D) (Q : VK), Inv X pins σ H s → MemOk X.K F Ad M H → Vals xs us → DLB X.K F Ad H xs ds →
    RP X.K E DR F Ad H Q (g ds M) → wpAny (model X.prog X.w) X.A (call f us) (EP X pins σ Q) X.xe s
def eCall (g : List D → List D → R) (l : LF) : EF := fun env M => (l env M).bind g
def rC (X : Cx) (E : XK) (DR : DRel) (g : List D → List D → R) : List V → Hp → VK → Prop := fun xs H Q => ∃ F Ad M ds, MemOk X.K F Ad M H ∧ DLB X.K F Ad H xs ds ∧ RP X.K E DR F Ad H Q (g ds M)
theorem s_callB (dr : DRok DR) {id : String} {x : Str} {p : Pos} {g : List D → List D → R} (hc : CallS X DR (.builtin id) g) (hg : Gl X x) (hm : X.mg x = none) (hv : bootBuiltins x = some (.builtin id)) (ha : SLB X W (e :: es) l) (hn : x ≠ "__name__" := by decide) (hdb : (x == ("__debug__" : Str)) = false := by decide)
    (he : starEach (e :: es) X.env = (false, eval e X.env) :: starEach es X.env := by rfl) (hpl : (backTo pos (starEach es X.env)).any (·.1) = false := by rfl) : PE X (.Call (.Name x p) (e :: es) [] pos) (tG X.K W DR (eCall g l)) := by
  refine ⟨fun pins s σ H Q I ⟨N0, F, Ad, M, env, m, en, r⟩ => ?_⟩
  refine wpAny_Call_Name_kw (ld_blt I hg hm hv ?_ hn hdb)
  refine PyProof.Rows.callWith_builtin1 (thn (ha.run pos pins s σ H _ I (tL_seq (Q' := fun vs H1 => rC X (fun c d H => W c d σ H) DR g vs H1 Q) dr m en r fun ds M1 vs F1 Ad1 H1 g1 m1 en1 x1 r1 => ⟨F1, Ad1, M1, ds, m1, x1, r1⟩)) fun us s1 ⟨vs, H1, I1, rv, F1, Ad1, M1, ds, m1, x1, r1⟩ => ?_) he hpl
  exact hc pins s1 σ H1 F1 Ad1 M1 _ vs us ds Q I1 m1 rv x1 r1
theorem s_callTy (dr : DRok DR) {id : String} {x : Str} {p : Pos} {g : List D → List D → R} (hc : CallS X DR (.type id) g) (hg : Gl X x) (hm : X.mg x = none) (hv : bootBuiltins x = some (.type id)) (ha : SLB X W (e :: es) l) (hn : x ≠ "__name__" := by decide) (hdb : (x == ("__debug__" : Str)) = false := by decide)
    (he : starEach (e :: es) X.env = (false, eval e X.env) :: starEach es X.env := by rfl) (hpl : (backTo pos (starEach es X.env)).any (·.1) = false := by rfl) : PE X (.Call (.Name x p) (e :: es) [] pos) (tG X.K W DR (eCall g l)) := by
  refine ⟨fun pins s σ H Q I ⟨N0, F, Ad, M, env, m, en, r⟩ => ?_⟩
  refine wpAny_Call_Name_kw (ld_blt I hg hm hv ?_ hn hdb)
  refine PyProof.Rows.callWith_type1 (thn (ha.run pos pins s σ H _ I (tL_seq (Q' := fun vs H1 => rC X (fun c d H => W c d σ H) DR g vs H1 Q) dr m en r fun ds M1 vs F1 Ad1 H1 g1 m1 en1 x1 r1 => ⟨F1, Ad1, M1, ds, m1, x1, r1⟩)) fun us s1 ⟨vs, H1, I1, rv, F1, Ad1, M1, ds, m1, x1, r1⟩ => ?_) he hpl
  exact hc pins s1 σ H1 F1 Ad1 M1 _ vs us ds Q I1 m1 rv x1 r1
theorem CallS.of {v : Value} {g : List D → List D → R} (h : ∀ (E : XK), CallR X v (rC X E DR g)) : CallS X DR v g := fun pins s σ H F Ad M E xs us ds Q I m rv x r => h E pins s σ H xs us Q I rv ⟨F, Ad, M, ds, m, x, r⟩
theorem DLB.one {vs d} (h : DLB K F Ad H vs [d]) : ∃ v, vs = [v] ∧ DB K H F Ad H v d := by
  cases h with | cons h r => cases r; exact ⟨_, rfl, h⟩
theorem DLB.two {vs d d'} (h : DLB K F Ad H vs [d, d']) : ∃ v v', vs = [v, v'] ∧ DB K H F Ad H v d ∧ DB K H F Ad H v' d' := by
  cases h with | cons h r => obtain ⟨v', rfl, h'⟩ := r.one; exact ⟨_, _, rfl, h, h'⟩
def bLen (ds : List D) (M : List D) : R := match ds with
  | [d] => (match view M d with
    | .lst xs => .ok (.int xs.length) M
    | .tup xs => .ok (.int xs.length) M
    | .ktp xs => .ok (.int xs.length) M
    | .scr xs => .ok (.int xs.length) M
    | .str s => if s.length ≤ sizeLine then .ok (.int s.length) M else .stuck
    | _ => .stuck)
  | _ => .stuck
theorem call_lenS : CallS X (DE X.K) (.builtin "len") bLen := by
  intro pins s σ H F Ad M E xs us ds Q I m rv x r
  unfold bLen at r
  split at r
  · rename_i d
    obtain ⟨v, rfl, hx⟩ := x.one
    have ax := DB.view m hx
    split at r
    · rename_i ys e; rw [e] at ax; obtain ⟨a, vs, rfl, h1, h2⟩ := ax.lst m
      exact call_len pins s σ H _ us Q I rv ⟨_, ys.length, rfl, .inl ⟨vs, SqL.of h1, h2.length.symm⟩, RP.here r m .int⟩
    · rename_i ys e; rw [e] at ax; obtain ⟨a, vs, rfl, h1, h2⟩ := ax.tup m
      exact call_len pins s σ H _ us Q I rv ⟨_, ys.length, rfl, .inr ⟨vs, SqT.of h1, h2.length.symm⟩, RP.here r m .int⟩
    · rename_i ys e; rw [e] at ax; obtain ⟨a, vs, rfl, h1, h2⟩ := ax.ktp m
      exact call_len pins s σ H _ us Q I rv ⟨_, ys.length, rfl, .inr ⟨vs, h1, h2.length.symm⟩, RP.here r m .int⟩
    · rename_i ys e; rw [e] at ax; obtain ⟨a, rfl, h1⟩ := ax.scr m
      exact call_len pins s σ H _ us Q I rv ⟨_, ys.length, rfl, .inl ⟨_, h1, by simp⟩, RP.here r m .int⟩
    · rename_i z e; rw [e] at ax
      split at r
      · rename_i hz; obtain rfl := ax.str; exact call_len pins s σ H _ us Q I rv ⟨_, z.length, rfl, ⟨hz, rfl⟩, RP.here r m .int⟩
      · exact r.elim
    · exact r.elim
  · exact r.elim
def bInt (ds : List D) (M : List D) : R := match ds with
  | [d] => (match view M d with
    | .int i => .ok (.int i) M
    | _ => .stuck)
  | _ => .stuck
theorem call_intS : CallS X (DE X.K) (.type "int") bInt := by
  intro pins s σ H F Ad M E xs us ds Q I m rv x r
  unfold bInt at r
  split at r
  · rename_i d
    obtain ⟨v, rfl, hx⟩ := x.one
    have ax := DB.view m hx
    split at r
    · rename_i i e; rw [e] at ax
      exact call_int1 pins s σ H _ us Q I rv (.inl ⟨i, by rw [ax.int], RP.here r m .int⟩)
    · exact r.elim
  · exact r.elim
def bAbs (ds : List D) (M : List D) : R := match ds with
  | [d] => (match view M d with
    | .int i => .ok (.int (if i < 0 then -i else i)) M
    | _ => .stuck)
  | _ => .stuck
theorem call_absS : CallS X (DE X.K) (.builtin "abs") bAbs := by
  intro pins s σ H F Ad M E xs us ds Q I m rv x r
  unfold bAbs at r
  split at r
  · rename_i d
    obtain ⟨v, rfl, hx⟩ := x.one
    have ax := DB.view m hx
    split at r
    · rename_i i e; rw [e] at ax
      exact call_abs pins s σ H _ us Q I rv ⟨i, by rw [ax.int], RP.here r m .int⟩
    · exact r.elim
  · exact r.elim
/-- max, min: of two, of a list -/
def mx2 (i j : Int) : Int := if j > i then j else i
def mn2 (i j : Int) : Int := if j < i then j else i
def mxL : List Int → Int | [] => 0 | [i] => i | i :: r => max i (mxL r)
def mnL : List Int → Int | [] => 0 | [i] => i | i :: r => min i (mnL r)
theorem mxL_spec : ∀ {ns : List Int} {m : Int}, m ∈ ns → (∀ y, y ∈ ns → y ≤ m) → mxL ns = m
  | [i], m, h, _ => by simp at h; subst h; rfl
  | i :: j :: r, m, h, hm => by
    show max i (mxL (j :: r)) = m
    have hi := hm i (by simp)
    rcases List.mem_cons.mp h with rfl | h
    · have : mxL (j :: r) ≤ m := by
        clear h
        have key : ∀ l : List Int, l ≠ [] → (∀ y, y ∈ l → y ≤ m) → mxL l ≤ m := by
          intro l
          induction l with
          | nil => intro h; exact absurd rfl h
          | cons a t ih =>
            intro _ hl
            cases t with
            | nil => exact hl a (by simp)
            | cons b t => 
              have h1 := ih (by simp) fun y hy => hl y (List.mem_cons_of_mem _ hy)
              have h2 := hl a (by simp)
              show max a (mxL (b :: t)) ≤ m
              omega
        exact key _ (by simp) fun y hy => hm y (List.mem_cons_of_mem _ hy)
      omega
    · rw [mxL_spec h fun y hy => hm y (List.mem_cons_of_mem _ hy)]
      omega
theorem mnL_spec : ∀ {ns : List Int} {m : Int}, m ∈ ns → (∀ y, y ∈ ns → m ≤ y) → mnL ns = m
  | [i], m, h, _ => by simp at h; subst h; rfl
  | i :: j :: r, m, h, hm => by
    show min i (mnL (j :: r)) = m
    have hi := hm i (by simp)
    rcases List.mem_cons.mp h with rfl | h
    · have : m ≤ mnL (j :: r) := by
        clear h
        have key : ∀ l : List Int, l ≠ [] → (∀ y, y ∈ l → m ≤ y) → m ≤ mnL l := by
          intro l
          induction l with
          | nil => intro h; exact absurd rfl h
          | cons a t ih =>
            intro _ hl
            cases t with
            | nil => exact hl a (by simp)
            | cons b t => 
              have h1 := ih (by simp) fun y hy => hl y (List.mem_cons_of_mem _ hy)
              have h2 := hl a (by simp)
              show m ≤ min a (mnL (b :: t))
              omega
        exact key _ (by simp) fun y hy => hm y (List.mem_cons_of_mem _ hy)
      omega
    · rw [mnL_spec h fun y hy => hm y (List.mem_cons_of_mem _ hy)]
      omega
def bMax (ds : List D) (M : List D) : R := match ds with
  | [d, d'] => (match view M d, view M d' with
    | .int i, .int j => .ok (.int (mx2 i j)) M
    | _, _ => .stuck)
  | [d] => (match view M d with
    | .lst xs => (match intsOf xs with
      | some (i :: r) => .ok (.int (mxL (i :: r))) M
      | _ => .stuck)
    | _ => .stuck)
  | _ => .stuck
def bMin (ds : List D) (M : List D) : R := match ds with
  | [d, d'] => (match view M d, view M d' with
    | .int i, .int j => .ok (.int (mn2 i j)) M
    | _, _ => .stuck)
  | [d] => (match view M d with
    | .lst xs => (match intsOf xs with
      | some (i :: r) => .ok (.int (mnL (i :: r))) M
      | _ => .stuck)
    | _ => .stuck)
  | _ => .stuck
theorem call_maxS (hc : X.calm = true) : CallS X (DE X.K) (.builtin "max") bMax := by
  intro pins s σ H F Ad M E xs us ds Q I m rv x r
  unfold bMax at r
  split at r
  · rename_i d d'
    obtain ⟨v, v', rfl, hx, hy⟩ := x.two
    have ax := DB.view m hx
    have ay := DB.view m hy
    split at r
    · rename_i i j e e'; rw [e] at ax; rw [e'] at ay
      exact call_max2 hc pins s σ H _ us Q I rv ⟨i, j, by rw [ax.int, ay.int], RP.here r m .int⟩
    · exact r.elim
  · rename_i d
    obtain ⟨v, rfl, hx⟩ := x.one
    have ax := DB.view m hx
    split at r
    · rename_i ys e; rw [e] at ax; obtain ⟨a, vs, rfl, h1, h2⟩ := ax.lst m
      split at r
      · rename_i i t e2
        refine cr_max hc pins s σ H _ us Q I rv ⟨a, i :: t, rfl, by rw [← h2.ints e2]; exact SqL.of h1, by simp, fun mm h3 h4 => ?_⟩
        rw [← mxL_spec h3 h4]; exact RP.here r m .int
      · exact r.elim
    · exact r.elim
  · exact r.elim
theorem call_minS (hc : X.calm = true) : CallS X (DE X.K) (.builtin "min") bMin := by
  intro pins s σ H F Ad M E xs us ds Q I m rv x r
  unfold bMin at r
  split at r
  · rename_i d d'
    obtain ⟨v, v', rfl, hx, hy⟩ := x.two
    have ax := DB.view m hx
    have ay := DB.view m hy
    split at r
    · rename_i i j e e'; rw [e] at ax; rw [e'] at ay
      exact call_min2 hc pins s σ H _ us Q I rv ⟨i, j, by rw [ax.int, ay.int], RP.here r m .int⟩
    · exact r.elim
  · rename_i d
    obtain ⟨v, rfl, hx⟩ := x.one
    have ax := DB.view m hx
    split at r
    · rename_i ys e; rw [e] at ax; obtain ⟨a, vs, rfl, h1, h2⟩ := ax.lst m
      split at r
      · rename_i i t e2
        refine cr_min hc pins s σ H _ us Q I rv ⟨a, i :: t, rfl, by rw [← h2.ints e2]; exact SqL.of h1, by simp, fun mm h3 h4 => ?_⟩
        rw [← mnL_spec h3 h4]; exact RP.here r m .int
      · exact r.elim
    · exact r.elim
  · exact r.elim
/-- the bools of a list -/
def boolsOf : List D → Option (List Bool)
  | [] => some []
  | .bl i :: r => (boolsOf r).map (i :: ·)
  | _ :: _ => none
theorem DenL.bools : ∀ {vs ds ns}, DenL K F Ad vs ds → boolsOf ds = some ns → vs = ns.map V.bl
  | _, _, ns, .nil, e => by simp [boolsOf] at e; subst e; rfl
  | _, _, ns, .cons (d := d) h r, e => by
    cases d with
    | bl i =>
      simp only [boolsOf, Option.map_eq_some_iff] at e
      obtain ⟨ms, e1, rfl⟩ := e
      cases h
      simp [DenL.bools r e1]
    | _ => simp [boolsOf] at e
def bAll (ds : List D) (M : List D) : R := match ds with
  | [d] => (match view M d with
    | .lst xs => (match boolsOf xs with
      | some bs => .ok (.bl (bs.all id)) M
      | _ => .stuck)
    | _ => .stuck)
  | _ => .stuck
theorem call_allS (hc : X.calm = true) : CallS X (DE X.K) (.builtin "all") bAll := by
  intro pins s σ H F Ad M E xs us ds Q I m rv x r
  unfold bAll at r
  split at r
  · rename_i d
    obtain ⟨v, rfl, hx⟩ := x.one
    have ax := DB.view m hx
    split at r
    · rename_i ys e; rw [e] at ax; obtain ⟨a, vs, rfl, h1, h2⟩ := ax.lst m
      split at r
      · rename_i bs e2
        exact cr_all hc pins s σ H _ us Q I rv ⟨a, bs, rfl, by rw [← h2.bools e2]; exact SqL.of h1, RP.here r m .bl⟩
      · exact r.elim
    · exact r.elim
  · exact r.elim
/-- tuple(list), tuple(tuple) -/
def bTup (ds : List D) (M : List D) : R := match ds with
  | [d] => (match view M d with
    | .lst xs => .ok (.tup xs) M
    | .tup xs => .ok (.tup xs) M
    | _ => .stuck)
  | _ => .stuck
theorem call_tupS : CallS X (DE X.K) (.type "tuple") bTup := by
  intro pins s σ H F Ad M E xs us ds Q I m rv x r
  unfold bTup at r
  split at r
  · rename_i d
    obtain ⟨v, rfl, hx⟩ := x.one
    have ax := DB.view m hx
    split at r
    · rename_i ys e; rw [e] at ax; obtain ⟨a, vs, rfl, h1, h2⟩ := ax.lst m
      exact call_tuple_of pins s σ H _ us Q I rv ⟨a, vs, rfl, .inl ⟨SqL.of h1, fun p hp => RP.newTup r m h2 hp⟩⟩
    · rename_i ys e; rw [e] at ax
      have ad := ax.den (fun _ h => nomatch h)
      obtain ⟨a, vs, rfl, h1, h2⟩ := ax.tup m
      exact call_tuple_of pins s σ H _ us Q I rv ⟨a, vs, rfl, .inr ⟨SqT.of h1, RP.here r m ad⟩⟩
    · exact r.elim
  · exact r.elim
end
end MP

set_option maxRecDepth 100000
set_option maxHeartbeats 1000000
namespace MP
open PySem PySem.Spec PyProof.Rows L2
/-! ### tables -/
section
variable {κ : Type} [DecidableEq κ] {α : Type}
def valK (kvs : List (κ × α)) (k : κ) : Option α := (kvs.find? fun kv => decide (kv.1 = k)).map (·.2)
def insK (kvs : List (κ × α)) (k : κ) (v : α) : List (κ × α) :=
  if (kvs.any fun kv => decide (kv.1 = k)) = true then kvs.map (fun kv => if kv.1 = k then (kv.1, v) else kv) else kvs ++ [(k, v)]
end
def keyD : D → Option Key
  | .int i => some (.inl i)
  | .str s => some (.inr s)
  | _ => none
def keysD : List D → Option (List Key)
  | [] => some []
  | d :: r => match keyD d, keysD r with
    | some k, some ks => some (k :: ks)
    | _, _ => none
section
variable {X : Cx} {W : WX} {K : PySem.W.Frag} {E : XK} {DR : DRel} {N0 : Ent} {H0 F H : Hp} {Ad : List Addr} {M : List D} {env : EnvM} {σ : St} {Q : VK} {x : V}
theorem keyD_v {d : D} {k : Key} (h : Den K F Ad x d) (e : keyD d = some k) : x = kV k := by
  cases h <;> simp [keyD] at e <;> subst e <;> rfl
theorem keysD_v : ∀ {vs : List V} {ds : List D} {ks : List Key}, DenL K F Ad vs ds → keysD ds = some ks → vs = ks.map kV
  | _, _, ks, .nil, e => by simp [keysD] at e; subst e; rfl
  | _, _, ks, .cons h r, e => by
    simp only [keysD] at e
    split at e
    · rename_i k ks' e1 e2
      cases e
      rw [keyD_v h e1, keysD_v r e2]; rfl
    · cases e
theorem DenK.val (k : Key) : ∀ {vs ds}, DenK K F Ad vs ds → (∀ d, valK ds k = some d → ∃ v, valV vs k = some v ∧ Den K F Ad v d) ∧ (valK ds k = none → valV vs k = none)
  | _, _, .nil => ⟨fun _ h => by simp [valK] at h, fun _ => rfl⟩
  | _, _, .cons (k := j) h r => by
    have ih := DenK.val k r
    by_cases e : j = k
    · rw [valV_pos e]
      refine ⟨fun d hd => ?_, fun hd => ?_⟩
      · simp [valK, List.find?_cons, e] at hd; subst hd; exact ⟨_, rfl, h⟩
      · simp [valK, List.find?_cons, e] at hd
    · rw [valV_neg e]
      refine ⟨fun d hd => ih.1 d ?_, fun hd => ih.2 ?_⟩
      · simpa [valK, List.find?_cons, e] using hd
      · simpa [valK, List.find?_cons, e] using hd
theorem DenT.val (k : List Key) : ∀ {vs ds}, DenT K F Ad vs ds → (∀ d, valK ds k = some d → ∃ v, valV vs k = some v ∧ Den K F Ad v d) ∧ (valK ds k = none → valV vs k = none)
  | _, _, .nil => ⟨fun _ h => by simp [valK] at h, fun _ => rfl⟩
  | _, _, .cons (k := j) h r => by
    have ih := DenT.val k r
    by_cases e : j = k
    · rw [valV_pos e]
      refine ⟨fun d hd => ?_, fun hd => ?_⟩
      · simp [valK, List.find?_cons, e] at hd; subst hd; exact ⟨_, rfl, h⟩
      · simp [valK, List.find?_cons, e] at hd
    · rw [valV_neg e]
      refine ⟨fun d hd => ih.1 d ?_, fun hd => ih.2 ?_⟩
      · simpa [valK, List.find?_cons, e] using hd
      · simpa [valK, List.find?_cons, e] using hd
theorem DenK.any (k : Key) : ∀ {vs ds}, DenK K F Ad vs ds → (vs.any fun kv => decide (kv.1 = k)) = (ds.any fun kv => decide (kv.1 = k))
  | _, _, .nil => rfl
  | _, _, .cons _ r => by simp only [List.any_cons]; rw [DenK.any k r]
theorem DenT.any (k : List Key) : ∀ {vs ds}, DenT K F Ad vs ds → (vs.any fun kv => decide (kv.1 = k)) = (ds.any fun kv => decide (kv.1 = k))
  | _, _, .nil => rfl
  | _, _, .cons _ r => by simp only [List.any_cons]; rw [DenT.any k r]
theorem DenK.app {k v d} : ∀ {vs ds}, DenK K F Ad vs ds → Den K F Ad v d → DenK K F Ad (vs ++ [(k, v)]) (ds ++ [(k, d)])
  | _, _, .nil, h => .cons h .nil
  | _, _, .cons q r, h => .cons q (r.app h)
theorem DenT.app {k v d} : ∀ {vs ds}, DenT K F Ad vs ds → Den K F Ad v d → DenT K F Ad (vs ++ [(k, v)]) (ds ++ [(k, d)])
  | _, _, .nil, h => .cons h .nil
  | _, _, .cons q r, h => .cons q (r.app h)
theorem DenK.repl {k v d} : ∀ {vs ds}, DenK K F Ad vs ds → Den K F Ad v d → DenK K F Ad (vs.map fun kv => if kv.1 = k then (kv.1, v) else kv) (ds.map fun kv => if kv.1 = k then (kv.1, d) else kv)
  | _, _, .nil, h => .nil
  | _, _, .cons (k := j) q r, h => by
    simp only [List.map_cons]
    by_cases e : j = k
    · simp only [e, if_true]; exact .cons h (r.repl h)
    · simp only [e, if_false]; exact .cons q (r.repl h)
theorem DenT.repl {k v d} : ∀ {vs ds}, DenT K F Ad vs ds → Den K F Ad v d → DenT K F Ad (vs.map fun kv => if kv.1 = k then (kv.1, v) else kv) (ds.map fun kv => if kv.1 = k then (kv.1, d) else kv)
  | _, _, .nil, h => .nil
  | _, _, .cons (k := j) q r, h => by
    simp only [List.map_cons]
    by_cases e : j = k
    · simp only [e, if_true]; exact .cons h (r.repl h)
    · simp only [e, if_false]; exact .cons q (r.repl h)
theorem DenK.put {k v d vs ds} (h : DenK K F Ad vs ds) (q : Den K F Ad v d) : DenK K F Ad (putK vs k v) (insK ds k d) := by
  unfold putK insK
  rw [h.any k]
  split
  · exact h.repl q
  · exact h.app q
theorem DenT.put {k v d vs ds} (h : DenT K F Ad vs ds) (q : Den K F Ad v d) : DenT K F Ad (putK vs k v) (insK ds k d) := by
  unfold putK insK
  rw [h.any k]
  split
  · exact h.repl q
  · exact h.app q
theorem DV.dK (m : MemOk K F Ad M H) {ds} (h : DV K F Ad H x (.dK ds)) : ∃ a vs, x = .ref a ∧ Rd H a (.dK vs) ∧ DenK K F Ad vs ds := by
  rcases h with h | ⟨a, e, r⟩
  · cases h with
    | dK h r =>
      rcases nrm_dK h with h | ⟨b, h⟩
      · exact ⟨_, _, rfl, .inl (m.sub _ _ h), r⟩
      · exact ⟨_, _, rfl, .inr ⟨b, m.sub _ _ h⟩, r⟩
  · cases r with | dK h r => exact ⟨_, _, e, .inl h, r⟩
theorem DV.dT (m : MemOk K F Ad M H) {ds} (h : DV K F Ad H x (.dT ds)) : ∃ a vs, x = .ref a ∧ Rd H a (.dT vs) ∧ DenT K F Ad vs ds := by
  rcases h with h | ⟨a, e, r⟩
  · cases h with
    | dT h r =>
      rcases nrm_dT h with h | ⟨b, h⟩
      · exact ⟨_, _, rfl, .inl (m.sub _ _ h), r⟩
      · exact ⟨_, _, rfl, .inr ⟨b, m.sub _ _ h⟩, r⟩
  · cases r with | dT h r => exact ⟨_, _, e, .inl h, r⟩
theorem DB.int {i} (h : DB K H0 F Ad H x (.int i)) : x = .int i := by
  rcases h with h | ⟨a, e, n, na, q⟩
  · cases h; rfl
  · cases q
theorem DB.den {d} (h : DB K H0 F Ad H x d) (n : ∀ a, ¬ Root K F Ad H a d) : Den K F Ad x d := by
  rcases h with h | ⟨a, e, _, _, r⟩
  · exact h
  · exact absurd r (n a)
theorem ix_dict (hu : X.A.units + 1 < cLine) : IxR X (fun x y H Q => ∃ a v, x = .ref a ∧ DGet H a y (some v) ∧ Q v H) := by
  intro value slice pins s σ H x y v u Q I rx ry h hs
  obtain ⟨a, z, rfl, g, q⟩ := h
  obtain rfl : v = Value.ref a := rx
  have key : wpAny (model X.prog X.w) X.A (getItem (.ref a) u) (EP X pins σ Q) X.xe s := d_getItem hu I g ry fun w' s3 I3 rw' => ⟨z, H, I3, rw', q⟩
  have T := dict_typeIs I g
  have fin : wpAny (model X.prog X.w) X.A (subscripted slice false (.ref a) u) (fun r s₃ => wpAny (model X.prog X.w) X.A (letTemporaryGo value (.ref a) r >>= fun _ => pure r) (EP X pins σ Q) X.xe s₃) X.xe s := by
    rw [hs]
    refine wpAny_operating ?_
    refine wpAny_mono key (fun r s3 q3 => ?_) fun _ _ z => z
    exact wpAny_bind (wpAny_letTemporaryGo (wpAny_pure q3))
  unfold subscriptTail
  apply wpAny_bind
  rw [getitemInPython_of_ne T.not_modules]
  apply wpAny_bind
  apply wpAny_specialOf T PySem.F.slot_dict_getitem.lookup
  first
    | exact wpAny_pure (wpAny_bind fin)
    | exact wpAny_bind fin
    | exact wpAny_pure fin
/-! ### a[b] -/
def oIx (x y : D) (M : List D) : R := match view M x with
  | .lst xs => (match y with | .int i => (match atI xs i with | some d => .ok d M | none => .stuck) | _ => .stuck)
  | .tup xs => (match y with | .int i => (match atI xs i with | some d => .ok d M | none => .stuck) | _ => .stuck)
  | .ktp xs => (match y with | .int i => (match atI xs i with | some d => .ok d M | none => .stuck) | _ => .stuck)
  | .scr ns => (match y with | .int i => (match atI ns i with | some d => .ok (.int d) M | none => .stuck) | _ => .stuck)
  | .str z => (match y with | .int i => (if z.length ≤ sizeLine then (match atI z.cps.toList i with | some c => .ok (.str ⟨#[c]⟩) M | none => .stuck) else .stuck) | _ => .stuck)
  | .dK kvs => (match keyD y with | some k => (match valK kvs k with | some d => .ok d M | none => .stuck) | none => .stuck)
  | .dT kvs => (match y with | .tup ks => (match keysD ks with | some k => (match valK kvs k with | some d => .ok d M | none => .stuck) | none => .stuck) | _ => .stuck)
  | _ => .stuck
theorem atI_den {vs ds} {i : Int} {d : D} (h : DenL K F Ad vs ds) (e : atI ds i = some d) : ∃ v, atI vs i = some v ∧ Den K F Ad v d := by
  unfold atI at e ⊢
  rw [h.length]
  cases q : ixN ds.length i with
  | none => rw [q] at e; cases e
  | some j =>
    rw [q] at e
    obtain ⟨v, h1, h2⟩ := h.get (i := j) (d := d) e
    exact ⟨v, h1, h2⟩
theorem atI_map {α β : Type} {f : α → β} {ns : List α} {i : Int} {d : α} (e : atI ns i = some d) : atI (ns.map f) i = some (f d) := by
  unfold atI at e ⊢
  rw [List.length_map]
  cases q : ixN ns.length i with
  | none => rw [q] at e; cases e
  | some j =>
    rw [q] at e
    have e : ns[j]? = some d := e
    show (ns.map f)[j]? = some (f d)
    rw [List.getElem?_map, e]; rfl
def rIxAll (X : Cx) : R2 := fun x y H Q => rIxL X.K x y H Q ∨ rIxT X.K x y H Q ∨ rIxS x y H Q ∨ ∃ a v, x = .ref a ∧ DGet H a y (some v) ∧ Q v H
theorem ix_all (hu : X.A.units + 1 < cLine) : IxR X (rIxAll X) := ix_list.or (ix_tup.or (ix_str.or (ix_dict hu)))
theorem oIx_ok {y : V} {dx dy : D} (m : MemOk X.K F Ad M H) (hx : DB X.K H F Ad H x dx) (hy : DB X.K H F Ad H y dy) (r : RP X.K E (DE X.K) F Ad H Q (oIx dx dy M)) : rIxAll X x y H Q := by
  have ax := DB.view m hx
  unfold oIx at r
  revert r ax
  generalize view M dx = ex
  intro r ax
  cases ex with
  | lst xs =>
    dsimp only at r
    split at r
    · rename_i i
      split at r
      · rename_i oo d e
        obtain ⟨a, vs, rfl, h1, d1⟩ := ax.lst m
        obtain ⟨v, e1, e2⟩ := atI_den d1 e
        exact .inl ⟨a, vs, i, v, rfl, hy.int, SqL.of h1, e1, RP.here r m e2⟩
      · exact r.elim
    · exact r.elim
  | tup xs =>
    dsimp only at r
    split at r
    · rename_i i
      split at r
      · rename_i oo d e
        obtain ⟨a, vs, rfl, h1, d1⟩ := ax.tup m
        obtain ⟨v, e1, e2⟩ := atI_den d1 e
        exact .inr (.inl ⟨a, vs, i, v, rfl, hy.int, SqT.of h1, e1, RP.here r m e2⟩)
      · exact r.elim
    · exact r.elim
  | ktp xs =>
    dsimp only at r
    split at r
    · rename_i i
      split at r
      · rename_i oo d e
        obtain ⟨a, vs, rfl, h1, d1⟩ := ax.ktp m
        obtain ⟨v, e1, e2⟩ := atI_den d1 e
        exact .inr (.inl ⟨a, vs, i, v, rfl, hy.int, h1, e1, RP.here r m e2⟩)
      · exact r.elim
    · exact r.elim
  | scr xs =>
    dsimp only at r
    split at r
    · rename_i i
      split at r
      · rename_i oo d e
        obtain ⟨a, rfl, h1⟩ := ax.scr m
        exact .inl ⟨a, _, i, .int d, rfl, hy.int, h1, atI_map e, RP.here r m .int⟩
      · exact r.elim
    · exact r.elim
  | str z =>
    dsimp only at r
    split at r
    · rename_i i
      split at r
      · rename_i hz
        split at r
        · rename_i oo c e
          exact .inr (.inr (.inl ⟨z, i, c, ax.str, hy.int, hz, e, RP.here r m .str⟩))
        · exact r.elim
      · exact r.elim
    · exact r.elim
  | dK kvs =>
    dsimp only at r
    split at r
    · rename_i oo k ek
      split at r
      · rename_i oo2 d e
        obtain ⟨a, vs, rfl, h1, d1⟩ := ax.dK m
        obtain ⟨v, e1, e2⟩ := (d1.val k).1 d e
        have hy' : y = kV k := keyD_v (hy.den (fun a q => by cases q <;> simp [keyD] at ek)) ek
        exact .inr (.inr (.inr ⟨a, v, rfl, .inl ⟨vs, k, h1, hy', e1.symm⟩, RP.here r m e2⟩))
      · exact r.elim
    · exact r.elim
  | dT kvs =>
    dsimp only at r
    split at r
    · rename_i ks
      split at r
      · rename_i oo k ek
        split at r
        · rename_i oo2 d e
          obtain ⟨a, vs, rfl, h1, d1⟩ := ax.dT m
          obtain ⟨v, e1, e2⟩ := (d1.val k).1 d e
          have hd := hy.den (fun a q => nomatch q)
          cases hd with
          | tup h2 d2 =>
            rw [keysD_v d2 ek] at h2
            exact .inr (.inr (.inr ⟨a, v, rfl, .inr ⟨vs, k, _, h1, rfl, m.sub _ _ h2, e1.symm⟩, RP.here r m e2⟩))
        · exact r.elim
      · exact r.elim
    · exact r.elim
  | _ => exact r.elim
variable {a b e : Expr} {fa fb f : EF} {pos p2 : Pos}
theorem s_ix (hu : X.A.units + 1 < cLine) (ha : SB X W a fa) (hb : SB X W b fb) (hs : PlainIx b := by intro _ _; rfl) : SE X W (.Subscript a b pos) (e2 oIx fa fb) :=
  PE.imp (pe_ix (ix_all hu) ha hb hs) fun σ H Q ⟨N0, F, Ad, M, env, m, en, r⟩ =>
    tG_seq DE.ok m en r fun d M1 v F1 Ad1 H1 g1 m1 en1 x1 r1 => tG_seq DE.ok m1 en1 r1 fun d2 M2 v2 F2 Ad2 H2 g2 m2 en2 x2 r2 => oIx_ok m2 (DB.gr g2 x1) x2 r2
/-! ### a[lo:hi] -/
def optI : D → Option (Option Int)
  | .non => some none
  | .int i => some (some i)
  | _ => none
def tO (K : PySem.W.Frag) (W : WX) (f : EF) : TO := fun σ H Q => ∃ N0 F Ad M env, MemOk K F Ad M H ∧ EnvOk K N0 F Ad H σ env ∧ (match f env M with
  | .ok d M1 => ∃ o, optI d = some o ∧ ∀ F' Ad' H', Gr F Ad H F' Ad' H' → MemOk K F' Ad' M1 H' → Q o H'
  | .exc x M1 => ∀ cls dx F' Ad' H', Gr F Ad H F' Ad' H' → MemOk K F' Ad' M1 H' → XOk K F' Ad' H' x cls dx → W cls dx σ H'
  | .stuck => False)
abbrev SP (X : Cx) (W : WX) (e : Option Expr) (f : EF) : Prop := PO X e (tO X.K W f)
theorem PO.imp {X : Cx} {e : Option Expr} {t u : TO} (h : PO X e t) (i : ∀ σ H Q, u σ H Q → t σ H Q) : PO X e u := ⟨fun pins s σ H Q I q => h.run pins s σ H Q I (i σ H Q q)⟩
theorem sp_none : SP X W none (eC .non) := PO.imp po_none fun σ H Q ⟨N0, F, Ad, M, env, m, en, o, e, r⟩ => by
  cases e; exact r F Ad H Gr.refl m
def eInt (f : EF) : EF := fun env M => (f env M).bind fun d M1 => match d with | .int i => .ok (.int i) M1 | _ => .stuck
theorem sp_some (h : SE X W a fa) : SP X W (some a) (eInt fa) := PO.imp (po_some h) fun σ H Q ⟨N0, F, Ad, M, env, m, en, r⟩ => ⟨N0, F, Ad, M, env, m, en, by
  unfold eInt at r
  cases q : fa env M with
  | ok d M1 =>
    rw [q] at r
    intro v F' Ad' H' g m' x
    cases d with
    | int i =>
      cases x
      obtain ⟨o, e, r⟩ := r
      cases e
      exact ⟨_, rfl, r F' Ad' H' g m'⟩
    | _ => exact r.elim
  | exc x M1 => rw [q] at r; exact r
  | stuck => rw [q] at r; exact r⟩
def cutD (xs : List D) (lo hi : Option Int) : List D := (xs.drop (HT.sIx xs.length 0 lo)).take (HT.sIx xs.length xs.length hi - HT.sIx xs.length 0 lo)
def oSl (x : D) (lo hi : Option Int) (M : List D) : R := match view M x with
    | .lst xs => .ok (.lst (cutD xs lo hi)) M
    | .scr ns => .ok (.lst (cutD (ns.map D.int) lo hi)) M
    | _ => .stuck
def oSlE (x : D) (lo hi : Option Int) (M : List D) : R := match view M x with
    | .lst xs => .ok (.lst (cutD xs lo hi)) M
    | .scr ns => .ok (.lst (cutD (ns.map D.int) lo hi)) M
    | .tup xs => .ok (.tup (cutD xs lo hi)) M
    | .str z => if z.length ≤ sizeLine then .ok (.str (cutS z lo hi)) M else .stuck
    | _ => .stuck
def eSl (g : D → Option Int → Option Int → List D → R) (a l u : EF) : EF := fun env M => (a env M).bind fun x M1 => (l env M1).bind fun y M2 => match optI y with
  | none => .stuck
  | some lo => (u env M2).bind fun z M3 => match optI z with
    | none => .stuck
    | some hi => g x lo hi M3
theorem tO_seq {f : EF} {k : D → List D → R} {Q : VK} {Q' : Option Int → Hp → Prop} (dr : DRok DR) (m : MemOk K F Ad M H) (e : EnvOk K N0 F Ad H σ env)
    (h : RP K (fun c d H => W c d σ H) DR F Ad H Q ((f env M).bind k)) (hn : ∀ d M1, optI d = none → k d M1 = .stuck)
    (hq : ∀ d o M1 F1 Ad1 H1, optI d = some o → Gr F Ad H F1 Ad1 H1 → MemOk K F1 Ad1 M1 H1 → EnvOk K N0 F1 Ad1 H1 σ env → RP K (fun c d H => W c d σ H) DR F1 Ad1 H1 Q (k d M1) → Q' o H1) : tO K W f σ H Q' := by
  refine ⟨N0, F, Ad, M, env, m, e, ?_⟩
  cases q : f env M with
  | ok d M1 =>
    rw [q] at h
    cases ho : optI d with
    | none => rw [R.bind_ok, hn d M1 ho] at h; exact h.elim
    | some o => exact ⟨o, ho, fun F' Ad' H' g m' => hq d o M1 F' Ad' H' ho g m' (e.gr g) (RP.gr dr h g)⟩
  | exc x M1 => rw [q] at h; exact h
  | stuck => rw [q] at h; exact h
def rSlAll (X : Cx) : V → Option Int → Option Int → Hp → VK → Prop := fun x lo hi H Q => rSlL X.K x lo hi H Q ∨ rSlA X.K x lo hi H Q ∨ rSlS x lo hi H Q
theorem sl_all : SlR X (rSlAll X) := sl_list.or (sl_tupA.or sl_str)
theorem DenL.cut {vs ds lo hi} (h : DenL K F Ad vs ds) : DenL K F Ad (cutV vs lo hi) (cutD ds lo hi) := by
  unfold cutV cutD
  rw [h.length]
  exact (h.drop _).take _
theorem DenL.map_int : ∀ {ns : List Int}, DenL K F Ad (ns.map V.int) (ns.map D.int)
  | [] => .nil
  | _ :: _ => .cons .int DenL.map_int
theorem oSl_ok {lo hi : Option Int} {dx : D} (m : MemOk X.K F Ad M H) (hx : DB X.K H F Ad H x dx) (r : RP X.K E (DO X.K) F Ad H Q (oSl dx lo hi M)) : rSlAll X x lo hi H Q := by
  have ax := DB.view m hx
  unfold oSl at r
  revert r ax
  generalize view M dx = ex
  intro r ax
  cases ex with
  | lst xs =>
    obtain ⟨a, vs, rfl, h1, d1⟩ := ax.lst m
    exact .inl ⟨a, vs, rfl, SqL.of h1, fun p hp => RP.ownLst r m d1.cut hp⟩
  | scr ns =>
    obtain ⟨a, rfl, h1⟩ := ax.scr m
    exact .inl ⟨a, _, rfl, h1, fun p hp => RP.ownLst r m DenL.map_int.cut hp⟩
  | _ => exact False.elim r
theorem oSlE_ok {lo hi : Option Int} {dx : D} (m : MemOk X.K F Ad M H) (hx : DB X.K H F Ad H x dx) (r : RP X.K E (DE X.K) F Ad H Q (oSlE dx lo hi M)) : rSlAll X x lo hi H Q := by
  have ax := DB.view m hx
  unfold oSlE at r
  revert r ax
  generalize view M dx = ex
  intro r ax
  cases ex with
  | lst xs =>
    obtain ⟨a, vs, rfl, h1, d1⟩ := ax.lst m
    exact .inl ⟨a, vs, rfl, SqL.of h1, fun p hp => RP.newLst r m d1.cut hp⟩
  | scr ns =>
    obtain ⟨a, rfl, h1⟩ := ax.scr m
    exact .inl ⟨a, _, rfl, h1, fun p hp => RP.newLst r m DenL.map_int.cut hp⟩
  | tup xs =>
    dsimp only at r
    have dn := ax.den (fun _ h => nomatch h)
    obtain ⟨a, vs, rfl, h1, d1⟩ := ax.tup m
    refine .inr (.inl ⟨a, vs, rfl, SqT.of h1, fun ⟨e1, e2⟩ => ?_, fun _ p hp => RP.newTup r m d1.cut hp⟩)
    have hc : cutD xs lo hi = xs := by
      unfold cutD
      rw [← d1.length, e1, e2, d1.length]; simp
    rw [hc] at r
    exact RP.here r m dn
  | str z =>
    dsimp only at r
    split at r
    · rename_i hz; exact .inr (.inr ⟨z, ax.str, hz, RP.here r m .str⟩)
    · exact False.elim r
  | _ => exact False.elim r
theorem s_sl (dr : DRok DR) {g : D → Option Int → Option Int → List D → R} (ho : ∀ {E : XK} {F H : Hp} {Ad : List Addr} {M : List D} {Q : VK} {x : V} {lo hi : Option Int} {dx : D}, MemOk X.K F Ad M H → DB X.K H F Ad H x dx → RP X.K E DR F Ad H Q (g dx lo hi M) → rSlAll X x lo hi H Q)
    {lo hi : Option Expr} {fl fu : EF} (ha : SB X W a fa) (hl : SP X W lo fl) (hu : SP X W hi fu) : PE X (.Subscript a (.Slice lo hi none p2) pos) (tG X.K W DR (eSl g fa fl fu)) :=
  PE.imp (pe_slice sl_all ha hl hu) fun σ H Q ⟨N0, F, Ad, M, env, m, en, r⟩ =>
    tG_seq dr m en r fun d M1 v F1 Ad1 H1 g1 m1 en1 x1 r1 =>
      tO_seq dr m1 en1 r1 (fun d2 M2 hd => by rw [hd]) fun d2 o2 M2 F2 Ad2 H2 e2 g2 m2 en2 r2 => by
        rw [e2] at r2
        exact tO_seq dr m2 en2 r2 (fun d3 M3 hd => by rw [hd]) fun d3 o3 M3 F3 Ad3 H3 e3 g3 m3 en3 r3 => by
          rw [e3] at r3
          exact ho m3 (DB.gr g3 (DB.gr g2 x1 (H0' := H2))) r3
theorem so_sl {lo hi : Option Expr} {fl fu : EF} (ha : SB X W a fa) (hl : SP X W lo fl) (hu : SP X W hi fu) : SO X W (.Subscript a (.Slice lo hi none p2) pos) (eSl oSl fa fl fu) := s_sl DO.ok oSl_ok ha hl hu
theorem se_sl {lo hi : Option Expr} {fl fu : EF} (ha : SB X W a fa) (hl : SP X W lo fl) (hu : SP X W hi fu) : SE X W (.Subscript a (.Slice lo hi none p2) pos) (eSl oSlE fa fl fu) := s_sl DE.ok oSlE_ok ha hl hu

end
end MP

set_option maxRecDepth 100000
set_option maxHeartbeats 1000000
/-! The calls of this farm's layer: the room says as well that no guard is under way (repr needs it). -/
namespace MP
open PySem PySem.Spec PyProof.Rows L2
structure Room (k : Nat) (A : Around) : Prop where
  rm : L2.Room k A
  gd : A.guards = some []
theorem Room.mono {j k : Nat} {A : Around} (r : Room k A) (h : j ≤ k) : Room j A := ⟨r.rm.mono h, r.gd⟩
theorem Room.deeper {k : Nat} {A : Around} (r : Room (k + 1) A) (env : Env) : Room k (A.deeper env) := ⟨r.rm.deeper env, r.gd⟩
theorem Room.in1 {k : Nat} {A : Around} (r : Room (k + 1) A) : Room k A.in1 := ⟨r.rm.in1, r.gd⟩
theorem make_gd {A : Around} {C : Addr} {us : List Value} {kw : List (Str × Value)} : (A.under (.builtin "type.__call__" ⟨.ref C :: us, kw⟩)).guards = A.guards := by
  obtain ⟨a, b, c, d, e⟩ := A
  cases d <;> simp [Around.under, Code.guards, Code.isGuard, pushGuards, guardIds]
theorem Room.make {k : Nat} {A : Around} (r : Room (k + 1) A) (C : Addr) (us : List Value) (kw : List (Str × Value)) : Room k (A.under (.builtin "type.__call__" ⟨.ref C :: us, kw⟩)) :=
  ⟨r.rm.make C us kw, make_gd.trans r.gd⟩
theorem Room.hd {k : Nat} {A : Around} (r : Room k A) : A.handled = none := r.rm.hd
theorem Room.depth {k : Nat} {A : Around} (r : Room k A) : A.depth < recursionLimit := r.rm.depth
theorem Room.units {k : Nat} {A : Around} (r : Room k A) : A.units + 64 < cLine := r.rm.units
theorem Room.units0 {k : Nat} {A : Around} (r : Room k A) : A.units < cLine := r.rm.units0
structure FnOk (P : Program) (w : World) (K : PySem.W.Frag) (mg : Str → Option Value) (base : Heap) (CX : CXT) (k : Nat) (f : Addr) (fd : FuncData) (ps : List Str) (sp : Sp) : Prop where
  len : ∀ vs H Q E, sp vs H Q E → vs.length = ps.length
  run : ∀ (A : Around) (outer : List Env) (s : Shared) (H : Hp) (args : Args) (us : List Value) (vs : List V) (Q : VK) (E : XK), Room k A → Env0 P w K mg base A outer s H → BindsTo s fd args (ps.zip us) → Vals vs us → sp vs H Q E →
    codeAny (model P w) A (.call (.ref f) args) (CR CX outer P w H s Q E) s
section
variable {X : Cx} {CX : CXT} {k : Nat} {f : Addr} {fd : FuncData} {ps : List Str} {sp : Sp} {dvs : List V} {ds : List Value} {E : St → XK} {x : Str} {p pos : Pos} {e : Expr} {es : List Expr} {t : TA}
/-- what a call gives reaches the caller -/
theorem cr_here {CX : CXT} {Ex : XK} {pins : List (Addr × Obj)} {σ : St} {H : Hp} {s : Shared} {Q : VK} (hx : PassesAt CX X σ Ex) (I : Inv X pins σ H s) {r : Result} {s' : Shared} (h : CR CX X.stack X.prog X.w H s Q Ex r s') :
    match r with
    | .ok (.ret u) => EP X pins σ Q u s'
    | .ok _ => False
    | .error er => X.xe er s' := by
  cases r with
  | error er => exact hx pins H s er s' I h
  | ok fl => cases fl with
    | ret u => exact I.after h
    | _ => exact h
theorem run_any {pins : List (Addr × Obj)} {σ : St} {H : Hp} {s : Shared} {Q : VK} {kw : List (Str × Value)} {us al : List Value} {vs : List V} {Ex : XK} (F : FnOk X.prog X.w X.K X.mg X.base CX k f fd ps sp) (hr : Room k X.A)
    (hx : PassesAt CX X σ Ex) (I : Inv X pins σ H s) (hb : al.length = ps.length → BindsTo s fd ⟨us, kw⟩ (ps.zip al)) (r : Vals vs al) (h : sp vs H Q Ex) : wpAny (model X.prog X.w) X.A (call (.ref f) us kw) (EP X pins σ Q) X.xe s := by
  refine wpAny_call (codeAny_mono (F.run X.A X.stack s H ⟨us, kw⟩ al vs Q Ex hr I.env0 (hb (by rw [← r.length]; exact F.len _ _ _ _ h)) r h) fun r s' hq => ?_)
  have z := cr_here hx I hq
  cases r with
  | error er => exact z
  | ok fl => cases fl with
    | ret u => exact z
    | _ => exact z.elim
theorem run_fnSD {pins : List (Addr × Obj)} {σ : St} {H : Hp} {s : Shared} {Q : VK} {us : List Value} {vs : List V} (F : FnOk X.prog X.w X.K X.mg X.base CX k f fd ps sp) (hr : Room k X.A) (hb : Binds X.K fd ps ds) (hd : Vals dvs ds) (hx : PassesAt CX X σ (E σ))
    (I : Inv X pins σ H s) (r : Vals vs us) (h : sp (vs ++ dvs) H Q (E σ)) : wpAny (model X.prog X.w) X.A (call (.ref f) us) (EP X pins σ Q) X.xe s :=
  run_any F hr hx I (fun hl => hb s us I.kIn hl) (r.append hd) h
theorem pe_callSD (F : FnOk X.prog X.w X.K X.mg X.base CX k f fd ps sp) (hr : Room k X.A) (hg : Gl X x) (hm : X.mg x = some (.ref f)) (hk : PySem.W.keepIn X.K (.ref f) = true) (hb : Binds X.K fd ps ds) (hd : Vals dvs ds) (hx : ∀ σ, PassesAt CX X σ (E σ))
    (ha : PA X (e :: es) t) (hdb : (x == ("__debug__" : Str)) = false := by decide) (he : starEach (e :: es) X.env = (false, eval e X.env) :: starEach es X.env := by rfl) (hpl : (backTo pos (starEach es X.env)).any (·.1) = false := by rfl) :
    PE X (.Call (.Name x p) (e :: es) [] pos) (tCallSD sp dvs E t) :=
  ⟨fun pins s σ H Q I h => wpAny_Call_Name_kw (ld_glob I hg hm (PySem.W.callWith_K (h₀ := X.base) I.ok.mod.kin hk (thn (ha.run pos pins s σ H _ I h) fun us s1 ⟨vs, H1, I1, r, q⟩ => ⟨I1.kIn, run_fnSD F hr hb hd (hx σ) I1 r q⟩) he hpl) hdb)⟩
end
section
variable {X : Cx} {CX : CXT} {k : Nat} {a C p g dx : Addr} {f : Str} {fd : FuncData} {ps : List Str} {sp : Sp} {dvs : List V} {ds : List Value} {E : XK} {fs : List (Str × V)}
theorem getprop_ok {pins : List (Addr × Obj)} {σ : St} {H : Hp} {s : Shared} {Q : VK} {b : Bool} {E' : Value → Shared → Prop} (I : Inv X pins σ H s) (ea : H a = some (.ins C dx fs)) (c : Cls X.K C) (hp : PropOf X.K C f p g)
    (F : FnOk X.prog X.w X.K X.mg X.base CX k g fd ps sp) (hr : Room (k + 1) X.A) (hb : Binds X.K fd ps ds) (hd : Vals dvs ds) (hx : Passes CX X.nox E) (h : sp (.ref a :: dvs) H Q E) :
    wpAny (model X.prog X.w) X.A (getAttr (.ref a) f b) (EP X pins σ Q) E' s := by
  obtain ⟨_, O, _⟩ := ins_get I.hok ea
  obtain ⟨_, J, _⟩ := O.look
  obtain ⟨_, hrec⟩ := hp.rec_
  have J1 := I.tok (s.toks + 1)
  have hc : (PySem.W.clsIn X.K C).isSome = true := by obtain ⟨_, hc, _⟩ := PySem.W.any_some c.hd; rw [hc]; rfl
  have hl : ([Value.ref a] ++ ds).length = ps.length := by
    have := F.len _ _ _ _ h
    simp only [List.length_append, List.length_cons, List.length_nil] at this ⊢
    rw [← hd.length]; omega
  refine PySem.W.get_bind I.kIn J (PySem.W.plainGet_of (c.get f)).1 (PySem.W.findObj_data hc hp.at_ hp.get hp.tak) (PySem.W.plainGet_of (c.get f)).2 (wpAny_call (PySem.W.prop_get (s := { s with toks := s.toks + 1 }) I.kIn hrec
    (codeAny_mono (F.run X.A.in1 X.stack { s with toks := s.toks + 1 } H ⟨[.ref a], []⟩ (.ref a :: ds) (.ref a :: dvs) Q E hr.in1 J1.env0.in1 (hb _ [.ref a] J1.kIn hl) (.cons rfl hd) h) fun r s' hq => ?_)))
  cases r with
  | error er => exact (hx pins σ H { s with toks := s.toks + 1 } er s' (J1.wish _) hq).elim
  | ok fl => cases fl with
    | ret u =>
      obtain ⟨v, H', J3, rv, q3⟩ := J1.after hq
      show wpAny _ _ (handedOut u) _ _ _
      rw [PySem.W.handedOut_of (handed_of rv)]
      exact wpAny_pure ⟨v, H', J3, rv, q3⟩
    | _ => exact (show False from hq).elim
end
/-- a def's body keeps its promise -/
theorem fn_of {CX : CXT} {P : Program} {w : World} {K : PySem.W.Frag} {mg : Str → Option Value} {base : Heap} {k : Nat} {f : Addr} {name qual : Str} {params : Arguments} {body : List Stmt} {scope : Scope} {dvs : List V} {kws : List (Str × V)} {fd : FuncData} {N ps : List Str} {sp : Sp}
    (Fd : FunD K name qual params body scope dvs kws f fd) (S : FnScope N ps scope) (len : ∀ vs H Q E, sp vs H Q E → vs.length = ps.length)
    (hbody : ∀ (cdv : Value) (A : Around) (outer : List Env) (s : Shared) (H : Hp) (vs : List V) (Q : VK) (E : XK), Room k (A.deeper (envOfC qual scope s.heap.objs.size f cdv)) → sp vs H Q E →
      ∃ t, PSs (cxOf CX P w K mg base N qual scope f cdv A outer s H E) body t ∧ t { nx := fun _ H' => Q .non H', rt := Q } (start N vs) H) : FnOk P w K mg base CX (k + 1) f fd ps sp := by
  obtain ⟨oc, od, dV, kV, doc, pm, an, cdv, ct, osl, rfl, lk, hcd, _, _⟩ := Fd.ex
  refine ⟨len, fun A outer s H args us vs Q E hr e0 hb r hsp => ?_⟩
  have keep : ∀ (b : Addr) (o : Obj), base.get? b = some o → s.heap.get? b = some o := fun b o e => (e0.bs b o e).1
  have KX : K.In s.heap := e0.mod.kin.keeps keep
  have kinds : ∀ y ∈ ps.zip us, scope.names.lookup y.1 = some .local ∨ (scope.names.lookup y.1 = some .cell ∧ ((cellsFrom (s.heap.objs.size + 1) scope.names []).lookup y.1).isSome = true) := by
    rintro ⟨n, v⟩ hy
    exact (S.par n (List.of_mem_zip hy).1).imp_right fun q => ⟨q, PySem.W.cellsFrom_some _ _ _ (.inl q)⟩
  refine codeAny_call_function hr.depth (KX _ _ lk) rfl S.co S.gen rfl (PySem.W.codeRec_of KX hcd) (hb _ _ _ _ (wpAny_newFunctionEnv_cells S.kind kinds fun env he s1 x => ?_))
  subst he
  obtain ⟨t, ht, hq⟩ := hbody cdv A outer s H vs Q E (hr.deeper _) hsp
  have I : Inv (cxOf CX P w K mg base N qual scope f cdv A outer s H E) [] (start N vs) H s1 := inv_start S hr.hd e0 (len _ _ _ _ hsp) r x
  refine ⟨(e0.mod.nolimit.keeps keep).keeps x.toInCall.keep, codeAny_func (wpAny_mono (ht.run [] s1 (start N vs) H _ I hq) (fun fl s' hs => ?_) fun e s' hs => hs)⟩
  cases fl with
  | ret u =>
    obtain ⟨v, σ', H', J, rv, q⟩ := hs
    exact ⟨v, H', J.os, J.bare, J.base, J.hok, rv, q⟩
  | next =>
    obtain ⟨σ', H', J, q⟩ := hs
    exact ⟨.non, H', J.os, J.bare, J.base, J.hok, rfl, q⟩
  | brk => obtain ⟨_, _, _, q⟩ := hs; exact q.elim
  | cont => obtain ⟨_, _, _, q⟩ := hs; exact q.elim
end MP

set_option maxRecDepth 100000
set_option maxHeartbeats 1000000
namespace MP
open PySem PySem.Spec PyProof.Rows L2
/-! ### attributes -/
section
variable {X : Cx} {W : WX} {K : PySem.W.Frag} {E : XK} {DR : DRel} {N0 : Ent} {H0 F H : Hp} {Ad : List Addr} {M : List D} {env : EnvM} {σ : St} {Q : VK} {x : V} {a : Expr} {fa : EF} {pos : Pos} {f : Str}
/-- one-place, over values that stay -/
def Op1E (X : Cx) (W : WX) (DR : DRel) (f : Value → Sem Value) (g : D → List D → R) : Prop :=
  ∀ (pins : List (Addr × Obj)) (s : Shared) (σ : St) (H F : Hp) (Ad : List Addr) (M : List D) (x : V) (v : Value) (dx : D) (Q : VK), Inv X pins σ H s → MemOk X.K F Ad M H → RelV x v → Den X.K F Ad x dx →
    RP X.K (fun c d H => W c d σ H) DR F Ad H Q (g dx M) → wpAny (model X.prog X.w) X.A (f v) (EP X pins σ Q) X.xe s
theorem Op1.e {f : Value → Sem Value} {g : D → List D → R} (h : Op1 X DR f g) : Op1E X W DR f g := fun pins s σ H F Ad M x v dx Q I m rx hx r => h pins s σ H F Ad M _ x v dx Q I m rx (.inl hx) r
theorem s_attrB (dr : DRok DR) {g : D → List D → R} (ho : Op1 X DR (fun v => getAttr v f true) g) (ha : SB X W a fa) (hb : attributeBase a f X.env (eval a X.env) = eval a X.env := by rfl) : PE X (.Attribute a f pos) (tG X.K W DR (e1 g fa)) := by
  refine ⟨fun pins s σ H Q I ⟨N0, F, Ad, M, env, m, en, r⟩ => ?_⟩
  refine attr_of hb (thn (ha.run pins s σ H _ I (tG_seq (Q' := fun v H1 => ∃ F1 Ad1 M1 d, MemOk X.K F1 Ad1 M1 H1 ∧ DB X.K H1 F1 Ad1 H1 v d ∧ RP X.K (fun c d H => W c d σ H) DR F1 Ad1 H1 Q (g d M1)) dr m en r fun d M1 v F1 Ad1 H1 g1 m1 en1 x1 r1 => ⟨F1, Ad1, M1, d, m1, x1, r1⟩)) fun u s1 ⟨x, H1, I1, rx, F1, Ad1, M1, d, m1, x1, r1⟩ => ?_)
  exact ho pins s1 σ H1 F1 Ad1 M1 _ x u d Q I1 m1 rx x1 r1
theorem s_attr (dr : DRok DR) {g : D → List D → R} (ho : Op1E X W DR (fun v => getAttr v f true) g) (ha : SE X W a fa) (hb : attributeBase a f X.env (eval a X.env) = eval a X.env := by rfl) : PE X (.Attribute a f pos) (tG X.K W DR (e1 g fa)) := by
  refine ⟨fun pins s σ H Q I ⟨N0, F, Ad, M, env, m, en, r⟩ => ?_⟩
  refine attr_of hb (thn (ha.run pins s σ H _ I (tG_seq (Q' := fun v H1 => ∃ F1 Ad1 M1 d, MemOk X.K F1 Ad1 M1 H1 ∧ Den X.K F1 Ad1 v d ∧ RP X.K (fun c d H => W c d σ H) DR F1 Ad1 H1 Q (g d M1)) dr m en r fun d M1 v F1 Ad1 H1 g1 m1 en1 x1 r1 => ⟨F1, Ad1, M1, d, m1, x1, r1⟩)) fun u s1 ⟨x, H1, I1, rx, F1, Ad1, M1, d, m1, x1, r1⟩ => ?_)
  exact ho pins s1 σ H1 F1 Ad1 M1 x u d Q I1 m1 rx x1 r1
/-- a class and its fields -/
structure ClsF (K : PySem.W.Frag) (c : Str) (fs : List Str) : Prop where
  cls : Cls K (He.ga K c)
  no : ∀ f ∈ fs, NoAttr K (He.ga K c) f
def fldR (c f : Str) (x : D) (M : List D) : R := match view M x with
  | .ins c' fs => if c' = c then (match fs.lookup f with | some d => .ok d M | none => .stuck) else .stuck
  | _ => .stuck
theorem op1_fld {c : Str} (hc : Cls X.K (He.ga X.K c)) (hn : NoAttr X.K (He.ga X.K c) f) : Op1 X (DE X.K) (fun v => getAttr v f true) (fldR c f) := by
  intro pins s σ H F Ad M E x v dx Q I m rx hx r
  have ax := DB.view m hx
  unfold fldR at r
  split at r
  · rename_i c' fs e
    split at r
    · rename_i ec
      subst ec
      split at r
      · rename_i dd e2
        rw [e] at ax
        obtain ⟨p, dx, vs, rfl, h1, d1⟩ := ax.ins m
        obtain ⟨w, e3, e4⟩ := d1.lookup e2
        obtain rfl : v = Value.ref p := rx
        exact getattr_ok I h1 hc hn e3 fun u s' I' ru => ⟨w, H, I', ru, RP.here r m e4⟩
      · exact r.elim
    · exact r.elim
  · exact r.elim
/-- either class -/
def orR (c : Str) (g g' : D → List D → R) (x : D) (M : List D) : R := match view M x with
  | .ins c' _ => if c' = c then g x M else g' x M
  | _ => .stuck
theorem op1_or {c : Str} {h : Value → Sem Value} {g g' : D → List D → R} (h1 : Op1 X DR h g) (h2 : Op1 X DR h g') : Op1 X DR h (orR c g g') := by
  intro pins s σ H F Ad M E x v dx Q I m rx hx r
  unfold orR at r
  split at r
  · split at r
    · exact h1 pins s σ H F Ad M E x v dx Q I m rx hx r
    · exact h2 pins s σ H F Ad M E x v dx Q I m rx hx r
  · exact r.elim
theorem op1e_or {c : Str} {h : Value → Sem Value} {g g' : D → List D → R} (h1 : Op1E X W DR h g) (h2 : Op1E X W DR h g') : Op1E X W DR h (orR c g g') := by
  intro pins s σ H F Ad M x v dx Q I m rx hx r
  unfold orR at r
  split at r
  · split at r
    · exact h1 pins s σ H F Ad M x v dx Q I m rx hx r
    · exact h2 pins s σ H F Ad M x v dx Q I m rx hx r
  · exact r.elim

/-! ### functions -/
/-- a def's promise: c over the data of its arguments -/
def spD (K : PySem.W.Frag) (DR : DRel) (n : Nat) (c : List D → List D → R) : Sp := fun vs H Q E => vs.length = n ∧ ∃ F Ad M ds, MemOk K F Ad M H ∧ DenL K F Ad vs ds ∧ RP K E DR F Ad H Q (c ds M)
/-- __init__'s: c gives the fields -/
def spI (K : PySem.W.Frag) (cn : Str) (n : Nat) (c : List D → List D → R) : Sp := fun vs H Q E => vs.length = n + 1 ∧ ∃ x dx rest HH F Ad M ds, vs = .ref x :: rest ∧ H = upd (upd HH dx (.own x)) x (.ins (He.ga K cn) dx []) ∧ HH x = none ∧ HH dx = none ∧ dx ≠ x ∧
  MemOk K F Ad M HH ∧ DenL K F Ad rest ds ∧ RP K E (DO K) F Ad HH (fun v H' => v = .ref x → Q .non H') (c ds M)
abbrev Pas (X : Cx) (W : WX) : Prop := ∀ σ, PassesAt (L2.CX X.prog X.w) X σ (WE W σ)
def WN : WX := fun _ _ _ _ => False
theorem pas_no : Pas X WN := fun _ _ _ _ _ _ _ ⟨_, _, _, _, _, _, _, _, _, _, _, _, w⟩ => w.elim
/-- a def, known: at g, level k, its promise c, its defaults dd -/
structure FnK (P : Program) (w : World) (K : PySem.W.Frag) (mg : Str → Option Value) (base : Heap) (DR : DRel) (k n : Nat) (g : Addr) (dd : List D) (c : List D → List D → R) : Prop where
  ex : ∃ (fd : FuncData) (ps : List Str) (dvs : List V) (us : List Value), FnOk P w K mg base (L2.CX P w) k g fd ps (spD K DR n c) ∧ Binds K fd ps us ∧ Vals dvs us ∧ (∀ F Ad, DenL K F Ad dvs dd) ∧ PySem.W.keepIn K (.ref g) = true
abbrev FnX (X : Cx) (DR : DRel) (k n : Nat) (g : Addr) (dd : List D) (c : List D → List D → R) : Prop := FnK X.prog X.w X.K X.mg X.base DR k n g dd c
def apC (c : List D → List D → R) (n : Nat) (dd xs M : List D) : R := if (xs ++ dd).length = n then c (xs ++ dd) M else .stuck
theorem spD_of {n : Nat} {c : List D → List D → R} {vs dvs : List V} {ds dd : List D} (m : MemOk K F Ad M H) (x : DenL K F Ad vs ds) (h : ∀ F Ad, DenL K F Ad dvs dd) (r : RP K E DR F Ad H Q (apC c n dd ds M)) : spD K DR n c (vs ++ dvs) H Q E := by
  unfold apC at r
  split at r
  · rename_i hn
    have l := (x.append (h F Ad)).length
    exact ⟨by rw [l]; exact hn, F, Ad, M, _, m, x.append (h F Ad), r⟩
  · exact r.elim
variable {k n : Nat} {g : Addr} {dd : List D} {c : List D → List D → R} {es : List Expr} {e : Expr} {l : LF} {y m : Str} {p apos : Pos}
theorem run_fnK {pins : List (Addr × Obj)} {s : Shared} {us : List Value} {vs : List V} {ds : List D} (Fk : FnX X DR k n g dd c) (hr : Room k X.A) (hx : Pas X W) (I : Inv X pins σ H s) (mm : MemOk X.K F Ad M H) (r : Vals vs us) (x : DenL X.K F Ad vs ds)
    (h : RP X.K (fun c d H => W c d σ H) DR F Ad H Q (apC c n dd ds M)) : wpAny (model X.prog X.w) X.A (call (.ref g) us) (EP X pins σ Q) X.xe s := by
  obtain ⟨fd, ps, dvs, ws, Fo, hb, hv, hd, hk⟩ := Fk.ex
  exact run_fnSD Fo hr hb hv (hx σ) I r (spD_of mm x hd h)
/-- f(..) -/
theorem s_call (dr : DRok DR) (Fk : FnX X DR k n g dd c) (hr : Room k X.A) (hx : Pas X W) (hg : Gl X y) (hm : X.mg y = some (.ref g)) (ha : SL X W (e :: es) l) (hdb : (y == ("__debug__" : Str)) = false := by decide)
    (he : starEach (e :: es) X.env = (false, eval e X.env) :: starEach es X.env := by rfl) (hpl : (backTo pos (starEach es X.env)).any (·.1) = false := by rfl) : PE X (.Call (.Name y p) (e :: es) [] pos) (tG X.K W DR (eCall (apC c n dd) l)) := by
  obtain ⟨fd, ps, dvs, ws, Fo, hb, hv, hd, hk⟩ := Fk.ex
  refine PE.imp (pe_callSD Fo hr hg hm hk hb hv hx ha hdb he hpl) fun σ H Q ⟨N0, F, Ad, M, env, m, en, r⟩ => ?_
  refine tL_seq dr m en r fun ds M1 vs F1 Ad1 H1 g1 m1 en1 x1 r1 => ?_
  exact spD_of m1 x1 hd r1
/-- o.m(..) -/
def eMeth (cn m : Str) (c : List D → List D → R) (n : Nat) (dd : List D) (o : EF) (l : LF) : EF := fun env M => (o env M).bind fun x M1 => match view M1 x with
  | .ins c' fs => if c' = cn ∧ fs.lookup m = none then (l env M1).bind fun xs M2 => apC c n dd (x :: xs) M2 else .stuck
  | _ => .stuck
theorem s_meth0 (dr : DRok DR) {cn : Str} {pl : Sem Bool} {o : Expr} {fo : EF} (hc : Cls X.K (He.ga X.K cn)) (hm : Meth X.K (He.ga X.K cn) m g) (Fk : FnX X DR k n g dd c) (hr : Room k X.A) (hx : Pas X W) (ho : SE X W o fo)
    (ht : eval (.Call (.Attribute o m apos) [] [] pos) X.env = (do
      let ov ← eval o X.env
      standAt apos.atName
      let (f, first) ← holding [ov] (getMethod ov m pl)
      callWith pos f first (backTo pos (starEach [] X.env)) (backToKw pos (keywordEach [] X.env))) := by rfl) : PE X (.Call (.Attribute o m apos) [] [] pos) (tG X.K W DR (eMeth cn m c n dd fo lNil)) := by
  refine ⟨fun pins s σ H Q I ⟨N0, F, Ad, M, env, mm, en, r⟩ => ?_⟩
  refine PySem.W.methodCall_KW (pl := pl) (thn (ho.run pins s σ H _ I (tG_seq dr mm en r (Q' := fun v H1 => ∃ F1 Ad1 M1 d, MemOk X.K F1 Ad1 M1 H1 ∧ Den X.K F1 Ad1 v d ∧ EnvOk X.K N0 F1 Ad1 H1 σ env ∧ RP X.K (fun c d H => W c d σ H) DR F1 Ad1 H1 Q (match view M1 d with
    | .ins c' fs => if c' = cn ∧ fs.lookup m = none then (lNil env M1).bind fun xs M2 => apC c n dd (d :: xs) M2 else .stuck
    | _ => .stuck)) fun d M1 v F1 Ad1 H1 g1 m1 en1 x1 r1 => ⟨F1, Ad1, M1, d, m1, x1, en1, r1⟩)) fun u s1 ⟨x, H1, I1, rx, F1, Ad1, M1, d, m1, x1, en1, r1⟩ => ?_) ht
  have ax := DB.view m1 (H0 := H1) (.inl x1 : DB X.K H1 F1 Ad1 H1 x d)
  split at r1
  · rename_i c' fs e
    split at r1
    · rename_i ec
      obtain ⟨ec, en⟩ := ec
      subst ec
      rw [e] at ax
      obtain ⟨q, dx, vs, rfl, h1, d1⟩ := ax.ins m1
      obtain rfl : u = Value.ref q := rx
      refine getmeth_ok I1 h1 hc hm (d1.none en) ?_
      refine PySem.W.callWith_K0 (first := [.ref q]) I1.kIn hm.kp ?_
      exact run_fnK (us := [.ref q]) (vs := [.ref q]) Fk hr hx I1 m1 (.cons rfl .nil) (.cons x1 .nil) r1
    · exact r1.elim
  · exact r1.elim
theorem s_meth (dr : DRok DR) {cn : Str} {pl : Sem Bool} {o : Expr} {fo : EF} (hc : Cls X.K (He.ga X.K cn)) (hm : Meth X.K (He.ga X.K cn) m g) (Fk : FnX X DR k n g dd c) (hr : Room k X.A) (hx : Pas X W) (ho : SE X W o fo) (ha : SL X W (e :: es) l)
    (hst : starEach (e :: es) X.env = (false, eval e X.env) :: starEach es X.env := by rfl) (hpl : (backTo pos (starEach es X.env)).any (·.1) = false := by rfl)
    (ht : eval (.Call (.Attribute o m apos) (e :: es) [] pos) X.env = (do
      let ov ← eval o X.env
      standAt apos.atName
      let (f, first) ← holding [ov] (getMethod ov m pl)
      callWith pos f first (backTo pos (starEach (e :: es) X.env)) (backToKw pos (keywordEach [] X.env))) := by rfl) : PE X (.Call (.Attribute o m apos) (e :: es) [] pos) (tG X.K W DR (eMeth cn m c n dd fo l)) := by
  refine ⟨fun pins s σ H Q I ⟨N0, F, Ad, M, env, mm, en, r⟩ => ?_⟩
  refine PySem.W.methodCall_KW (pl := pl) (thn (ho.run pins s σ H _ I (tG_seq dr mm en r (Q' := fun v H1 => ∃ F1 Ad1 M1 d, MemOk X.K F1 Ad1 M1 H1 ∧ Den X.K F1 Ad1 v d ∧ EnvOk X.K N0 F1 Ad1 H1 σ env ∧ RP X.K (fun c d H => W c d σ H) DR F1 Ad1 H1 Q (match view M1 d with
    | .ins c' fs => if c' = cn ∧ fs.lookup m = none then (l env M1).bind fun xs M2 => apC c n dd (d :: xs) M2 else .stuck
    | _ => .stuck)) fun d M1 v F1 Ad1 H1 g1 m1 en1 x1 r1 => ⟨F1, Ad1, M1, d, m1, x1, en1, r1⟩)) fun u s1 ⟨x, H1, I1, rx, F1, Ad1, M1, d, m1, x1, en1, r1⟩ => ?_) ht
  have ax := DB.view m1 (H0 := H1) (.inl x1 : DB X.K H1 F1 Ad1 H1 x d)
  split at r1
  · rename_i c' fs e
    split at r1
    · rename_i ec
      obtain ⟨ec, en⟩ := ec
      subst ec
      rw [e] at ax
      obtain ⟨q, dx, vs, rfl, h1, d1⟩ := ax.ins m1
      obtain rfl : u = Value.ref q := rx
      refine getmeth_ok I1 h1 hc hm (d1.none en) ?_
      refine PySem.W.callWith_K (first := [.ref q]) (h₀ := X.base) I1.ok.mod.kin hm.kp (thn (ha.run pos pins s1 σ H1 _ I1 (tL_seq dr m1 en1 r1 (Q' := fun vs H2 => ∃ F2 Ad2 M2 ds, MemOk X.K F2 Ad2 M2 H2 ∧ DenL X.K F2 Ad2 (.ref q :: vs) (d :: ds) ∧ RP X.K (fun c d H => W c d σ H) DR F2 Ad2 H2 Q (apC c n dd (d :: ds) M2)) fun ds M2 vs F2 Ad2 H2 g2 m2 en2 x2 r2 =>
        ⟨F2, Ad2, M2, ds, m2, .cons (x1.mono g2.fle g2.pre) x2, r2⟩)) fun us s2 ⟨vs, H2, I2, r, F2, Ad2, M2, ds, m2, x2, r2⟩ => ⟨I2.kIn, ?_⟩) hst hpl
      exact run_fnK (us := .ref q :: us) (vs := .ref q :: vs) Fk hr hx I2 m2 (.cons rfl r) x2 r2
    · exact r1.elim
  · exact r1.elim
/-- a property; what it lets out is not had -/
def noX (r : R) : R := match r with
  | .exc _ _ => .stuck
  | r => r
def propR (cn : Str) (c : List D → List D → R) (x : D) (M : List D) : R := match view M x with
  | .ins c' _ => if c' = cn then noX (apC c 1 [] [x] M) else .stuck
  | _ => .stuck
theorem op1_prop {cn : Str} {q : Addr} (hc : Cls X.K (He.ga X.K cn)) (hp : PropOf X.K (He.ga X.K cn) f q g) (Fk : FnX X DR k 1 g [] c) (hr : Room (k + 1) X.A) : Op1E X W DR (fun v => getAttr v f true) (propR cn c) := by
  intro pins s σ H F Ad M x v dx Q I m rx hx r
  have ax := DB.view m (H0 := H) (.inl hx : DB X.K H F Ad H x dx)
  unfold propR at r
  split at r
  · rename_i c' fs e
    split at r
    · rename_i ec
      subst ec
      rw [e] at ax
      obtain ⟨p, dx', vs, rfl, h1, d1⟩ := ax.ins m
      obtain rfl : v = Value.ref p := rx
      obtain ⟨fd, ps, dvs, ws, Fo, hb, hv, hd, hk⟩ := Fk.ex
      refine getprop_ok (E := fun _ _ _ => False) I h1 hc hp Fo hr hb hv (fun _ _ _ _ _ _ _ ⟨_, _, _, _, _, _, _, _, _, _, _, _, w⟩ => w.elim) ?_
      have r' : RP X.K (fun _ _ _ => False) DR F Ad H Q (apC c 1 [] [dx] M) := by
        cases h : apC c 1 [] [dx] M with
        | ok d M1 => rw [h] at r; exact r
        | exc z M1 => rw [h] at r; exact r.elim
        | stuck => rw [h] at r; exact r.elim
      exact spD_of m (.cons hx .nil) hd r'
    · exact r.elim
  · exact r.elim

/-! ### a new instance -/
structure InK (P : Program) (w : World) (K : PySem.W.Frag) (mg : Str → Option Value) (base : Heap) (k n : Nat) (cn : Str) (g : Addr) (dd : List D) (c : List D → List D → R) : Prop where
  mak : Mk K (He.ga K cn) g
  ex : ∃ (fd : FuncData) (ps : List Str) (dvs : List V) (us : List Value), FnOk P w K mg base (L2.CX P w) k g fd ps (spI K cn n c) ∧ Binds K fd ps us ∧ Vals dvs us ∧ (∀ F Ad, DenL K F Ad dvs dd)
theorem run_makeS {C fI : Addr} {kk : Nat} {CX : CXT} {fd : FuncData} {ps : List Str} {sp : Sp} {dvs vs : List V} {ds us : List Value} {Ex : XK} {pins : List (Addr × Obj)} {s : Shared} (Mm : Mk X.K C fI) (Fo : FnOk X.prog X.w X.K X.mg X.base CX kk fI fd ps sp) (hr : Room (kk + 1) X.A) (hb : Binds X.K fd ps ds) (hd : Vals dvs ds)
    (hx : PassesAt CX X σ Ex) (I : Inv X pins σ H s) (r : Vals vs us)
    (h : ∀ x dx, H x = none → H dx = none → dx ≠ x → sp (.ref x :: (vs ++ dvs)) (upd (upd H dx (.own x)) x (.ins C dx [])) (fun v H2 => v = .non ∧ Q (.ref x) H2) Ex) :
    wpAny (model X.prog X.w) X.A (call (.ref C) us) (EP X pins σ Q) X.xe s := by
  obtain ⟨x, hxx⟩ : ∃ x, x = s.heap.objs.size + 1 := ⟨_, rfl⟩
  have fresh1 := I.hok.fresh (Nat.le_succ s.heap.objs.size)
  have fresh0 := I.hok.fresh (Nat.le_refl s.heap.objs.size)
  have sp1 := h (s.heap.objs.size + 1) s.heap.objs.size fresh1 fresh0 (Nat.ne_of_lt (Nat.lt_succ_self _))
  have J := Inv.made (C := C) I
  have rr : Vals (V.ref (s.heap.objs.size + 1) :: (vs ++ dvs)) (Value.ref (s.heap.objs.size + 1) :: (us ++ ds)) := Paired.cons rfl (r.append hd)
  have ll : (Value.ref (s.heap.objs.size + 1) :: us ++ ds).length = ps.length := (rr.length.symm).trans (Fo.len _ _ _ _ sp1)
  have bb := hb { s with heap := (s.heap.push PySem.W.emptyDict).push (PySem.W.instObj C s.heap.objs.size) } (Value.ref (s.heap.objs.size + 1) :: us) J.kIn ll
  apply wpAny_call
  apply make_map (f := fI) I.kIn Mm.makes Mm.init (beq_iff_eq.mp Mm.fn)
  refine codeAny_mono (Fo.run _ X.stack _ _ _ _ _ _ _ (hr.make C us []) (J.env0.make C us []) bb rr sp1) ?_
  intro res s' done
  cases res with
  | error e => exact hx pins _ _ e s' J done
  | ok fl =>
    cases fl with
    | ret u =>
      obtain ⟨v, H', J', rv, ev, q⟩ := J.after done
      cases ev
      exact ⟨rv, V.ref (s.heap.objs.size + 1), H', J', rfl, q⟩
    | next => exact done.elim
    | brk => exact done.elim
    | cont => exact done.elim
theorem so_make {cn : Str} (Ik : InK X.prog X.w X.K X.mg X.base k n cn g dd c) (hr : Room (k + 1) X.A) (hx : Pas X W) (hg : Gl X y) (hm : X.mg y = some (.ref (He.ga X.K cn))) (ha : SL X W (e :: es) l) (hdb : (y == ("__debug__" : Str)) = false := by decide)
    (he : starEach (e :: es) X.env = (false, eval e X.env) :: starEach es X.env := by rfl) (hpl : (backTo pos (starEach es X.env)).any (·.1) = false := by rfl) : SO X W (.Call (.Name y p) (e :: es) [] pos) (eCall (apC c n dd) l) := by
  obtain ⟨fd, ps, dvs, ws, Fo, hb, hv, hd⟩ := Ik.ex
  refine ⟨fun pins s σ H Q I ⟨N0, F, Ad, M, env, m, en, r⟩ => ?_⟩
  refine wpAny_Call_Name_kw (ld_glob I hg hm ?_ hdb)
  refine PySem.W.callWith_K (h₀ := X.base) I.ok.mod.kin Ik.mak.kp (thn (ha.run pos pins s σ H _ I (tL_seq DO.ok m en r (Q' := fun vs H2 => ∃ F2 Ad2 M2 ds, MemOk X.K F2 Ad2 M2 H2 ∧ DenL X.K F2 Ad2 vs ds ∧ RP X.K (fun c d H => W c d σ H) (DO X.K) F2 Ad2 H2 Q (apC c n dd ds M2)) fun ds M2 vs F2 Ad2 H2 g2 m2 en2 x2 r2 =>
        ⟨F2, Ad2, M2, ds, m2, x2, r2⟩)) fun us s1 ⟨vs, H1, I1, r, F2, Ad2, M2, ds, m2, x2, r2⟩ => ⟨I1.kIn, ?_⟩) he hpl
  refine run_makeS Ik.mak Fo hr hb hv (hx σ) I1 r fun x dx hx0 hd0 hne => ?_
  unfold apC at r2
  split at r2
  · rename_i hn
    have x3 := x2.append (hd F2 Ad2)
    refine ⟨by show (vs ++ dvs).length + 1 = n + 1; rw [x3.length, hn], x, dx, _, H1, F2, Ad2, M2, _, rfl, rfl, hx0, hd0, hne, m2, x3, ?_⟩
    cases hq : c (ds ++ dd) M2 with
    | ok d M3 =>
      rw [hq] at r2
      intro v F' Ad' H' g' m' z ev
      subst ev
      exact ⟨rfl, r2 _ F' Ad' H' g' m' z⟩
    | exc z M3 => rw [hq] at r2; exact r2
    | stuck => rw [hq] at r2; exact r2.elim
  · exact r2.elim
end
end MP

set_option maxRecDepth 100000
set_option maxHeartbeats 1000000
namespace MP
open PySem PySem.Spec PyProof.Rows L2
/-! ### enumerate over a tuple -/
set_option maxHeartbeats 4000000 in
theorem enum1_meets {v : Value} {o : Obj} {G : Heap → Prop} (B : Begins v o G) : Meets (Builtin.«enumerate.__new__» ⟨[.type "enumerate", v], []⟩) (fun _ R s => G s.heap ∧
      R (.ok (.ret (.ref (s.heap.push o).objs.size))) { s with heap := (s.heap.push o).push { cls := .type "enumerate", data := .fields #[.none, .bool false, .ref s.heap.objs.size, rawInt 0, .none, .none] } }) := by
  refine .of_wp fun P w A R s hs => ?_
  obtain ⟨hp, gg, dd, tt, oo⟩ := s
  obtain ⟨hG, hR⟩ := hs
  have hsub := sub_enumerate
  have it1 : ∀ {A2 : Around} {E2 : Value → Shared → Prop} {Q2 : Value → Shared → Prop}, Q2 (.ref hp.objs.size) ⟨hp.push o, gg, dd, tt, oo⟩ → wpAny (model P w) A2 (pyIter v) Q2 E2 ⟨hp, gg, dd, tt, oo⟩ := fun hq =>
    B.iter P w _ _ ⟨hp, gg, dd, tt, oo⟩ _ hG hq
  wp_walk using it1
  refine wpAny_stack_any fun st => wpAny_pure ?_
  split
  · rename_i cc _ _ _ _ _
    cases (cc == Value.type "enumerate") <;> (wp_walk using it1; exact ⟨_, rfl, hR⟩)
  · wp_walk using it1
    exact ⟨_, rfl, hR⟩
theorem enum1_call {P : Program} {w : World} {A : Around} {E : Value → Shared → Prop} {s : Shared} {v : Value} {o : Obj} {G : Heap → Prop} {Q : Value → Shared → Prop} (B : Begins v o G) (hG : G s.heap)
    (h : ∀ h', IsEnum h' (s.heap.objs.size + 1) s.heap.objs.size 0 .none → h'.get? s.heap.objs.size = some o → (∀ b u, s.heap.get? b = some u → h'.get? b = some u) → Q (.ref (s.heap.objs.size + 1)) { s with heap := h' }) :
    wpAny (model P w) A (call (.type "enumerate") [v]) Q E s := by
  refine callType_new F.called_enumerate (by decide) (F.typeCall_enumerate_1 _) (F.newCall_enumerate_1 _) (fun obj => F.args_object_init_2 obj _) F.entry_enumerate_new (enum1_meets B) ⟨hG, ?_⟩
  have z1 : (s.heap.push o).objs.size = s.heap.objs.size + 1 := Heap.size_push ..
  have ie := Heap.get?_push_size (s.heap.push o) (o := { cls := .type "enumerate", data := .fields #[.none, .bool false, .ref s.heap.objs.size, rawInt 0, .none, .none] }) rfl
  show _ ∧ _
  rw [z1] at ie ⊢
  exact ⟨⟨_, ie, rfl⟩, h _ ie (Heap.get?_push_of_some _ (Heap.get?_push_size _ B.free)) fun b u q => Heap.get?_push_of_some _ (Heap.get?_push_of_some _ q)⟩
/-- the tuple at a, each item in a new pair -/
def IteT (K : PySem.W.Frag) (a : Addr) : It where
  go := fun i H => ∃ (xs : List V) (x : V), SqT K H a xs ∧ xs[i]? = some x
  yld := fun i H v H' => ∃ T x, v = .ref T ∧ H T = none ∧ H' = upd H T (.tup [.int (i : Nat), x]) ∧ ∀ xs, SqT K H a xs → xs[i]? = some x
  stop := fun i H => ∃ xs : List V, SqT K H a xs ∧ xs.length = i
theorem tup_ne {h : Heap} {a it t : Addr} {i : Nat} {xs : Array Value} (p : h.IsTuple a xs) (q : h.IsTupleIter it t i) : a ≠ it := fun e => by
  obtain ⟨o, h1, h2, _⟩ := p
  obtain ⟨o', h3, h4, _⟩ := q
  rw [e, h3] at h1
  cases h1
  rw [h4] at h2
  exact absurd h2 (by decide)
theorem tup_neE {h : Heap} {a e it : Addr} {i : Int} {old : Value} {xs : Array Value} (p : h.IsTuple a xs) (q : IsEnum h e it i old) : e ≠ a := fun z => by
  obtain ⟨o, h1, h2, _⟩ := p
  rw [← z] at h1
  have q' : h.get? e = some _ := q
  rw [q'] at h1
  cases h1
  injection h2 with h2
  exact absurd h2 (by decide)
theorem turn_enumT {P : Program} {w : World} {K : PySem.W.Frag} {elts : List Expr} {kk : Nat} {tpos : Pos} (a e it : Addr) :
    Turn P w K (.Tuple elts kk tpos) (IteT K a) [e, it] e (fun i h => (∃ old, IsEnum h e it ((i : Nat) : Int) old) ∧ h.IsTupleIter it a i ∧ e ≠ it) where
  mem := List.mem_cons_self ..
  obj := by
    intro i h ⟨⟨old, he⟩, ⟨o, ho, hc, hd⟩, _⟩ b hb
    rcases (by simpa using hb : b = e ∨ b = it) with rfl | rfl
    · exact ⟨_, he, fun v q => nomatch q⟩
    · exact ⟨o, ho, fun v q => by rw [hd] at q; cases q⟩
  keep := by
    intro i h h' ⟨⟨old, he⟩, hi, hne⟩ k
    exact ⟨⟨old, k e (by simp) _ he⟩, hi.at fun o q => k it (by simp) o q, hne⟩
  item := by
    intro X hP hw hK hc i pins s σ H E I hf ⟨⟨old, he⟩, hit, hne⟩ ⟨xs, x, hq, hx⟩
    subst hP hw hK
    obtain ⟨its, rv, p, hz⟩ := I.tuple hq
    obtain ⟨u, hu, ru⟩ := rv.get hx
    have p' : s.heap.IsTuple a its.toArray := p
    have hel : e < s.heap.objs.size := Heap.lt_size he
    have hil : it < s.heap.objs.size := by obtain ⟨_, q, _⟩ := hit; exact Heap.lt_size q
    have n1 := tup_ne p' hit
    have n2 := tup_neE p' he
    have hu' : its[i]? = some u := hu
    have hlt : i < its.toArray.size := by
      rw [List.size_toArray]; exact (List.getElem?_eq_some_iff.mp hu').1
    refine wpAny_pyNext_enum_itemD (Draws.tuple (A := X.A.in1) (I.ok.hd hc) it a n1 its.toArray) he ⟨hit, p'⟩ hlt hne (by simp [hne, n2]) fun y h' tk hy ho st' hT hsz hk => ?_
    have hy : its.toArray[i]? = some y := hy
    have ey : y = u := by
      rw [List.getElem?_toArray, hu'] at hy; cases hy; rfl
    subst ey
    refine ⟨_, rfl, wpAny_letOwnedTupleGo_enum (s := { s with heap := h', toks := tk + 1 }) ho fun h'' he' sb => ?_⟩
    have hT2 : h''.get? s.heap.objs.size = some { cls := .type "tuple", data := .seq #[.int i tk, y] } := (sb.2 _ (Nat.ne_of_gt hel)).trans hT
    have ob : ObjOk X.prog X.w (upd H s.heap.objs.size (.tup [.int (i : Nat), x])) h'' s.heap.objs.size (.tup [.int (i : Nat), x]) :=
      ⟨by show 2 ≤ sizeLine; decide, [.int i tk, y], .cons ⟨_, rfl⟩ (.cons ru .nil), ⟨_, hT2, rfl, _, rfl⟩⟩
    have I1 : Inv X pins σ (upd H s.heap.objs.size (.tup [.int (i : Nat), x])) { s with heap := h'', toks := tk + 1 } :=
      I.turnedNew (ch := [e, it]) (fun b o hb q => (sb.2 b (fun z => hb (by simp [z]))).trans (hk b o (fun z => hb (by simp [z])) (fun z => hb (by simp [z])) q)) hf (Nat.le_refl _) ob
    refine ⟨.ref s.heap.objs.size, _, I1, rfl, ⟨_, x, rfl, I.hok.fresh (Nat.le_refl _), rfl, fun ys hys => by rw [I.tuple_inj hys hq]; exact hx⟩, ⟨⟨y, ?_⟩, st'.1.at fun o q => (sb.2 it (Ne.symm hne)).trans q, hne⟩, fun b hb => ?_⟩
    · rw [show ((i + 1 : Nat) : Int) = (i : Int) + 1 by omega]; exact he'
    · have hb' : b < s.heap.objs.size := by
        rcases (by simpa using hb : b = e ∨ b = it) with rfl | rfl
        · exact hel
        · exact hil
      rw [upd_ne (Nat.ne_of_lt hb')]
      exact (hf b hb).1
  done := by
    intro X hP hw hK hc i pins s σ H E I hf ⟨⟨old, he⟩, hit, hne⟩ ⟨xs, hq, hx⟩
    subst hP hw hK
    obtain ⟨its, rv, p, hz⟩ := I.tuple hq
    obtain ⟨f0, f1, f2, f3, f4, f5⟩ := hf it (by simp)
    have hl := rv.length
    have p' : s.heap.IsTuple a its.toArray := p
    have hsz : its.toArray.size = i := by rw [List.size_toArray]; omega
    have n1 := tup_ne p' hit
    rw [← hsz] at hit
    exact wpAny_pyNext_enum_endD (Draws.tuple (A := X.A.in1) (I.ok.hd hc) it a n1 its.toArray) he ⟨hit, p'⟩ fun h' eb => ⟨rfl, I.turned (t' := s.toks) (fun b o hb q => eb b o hb q) f0 f1 f3 f4 f5⟩
  self := fun A i s Q E st h => let ⟨⟨_, he⟩, _⟩ := st; wpAny_pyIter_enum he h
def iEnumT (K : PySem.W.Frag) (ta : TA) : TI := fun σ H R => ta σ H fun vs H1 => ∃ a xs, vs = [.ref a] ∧ SqT K H1 a xs ∧ R (IteT K a) H1
theorem pi_enumT {X : Cx} {e : Expr} {ta : TA} {p pos tpos : Pos} {elts : List Expr} {kk : Nat} (hg : Gl X "enumerate") (hm : X.mg "enumerate" = none) (ha : PA X [e] ta) (hs : starEach [e] X.env = [(false, eval e X.env)] := by rfl) :
    PI X (.Tuple elts kk tpos) (.Call (.Name "enumerate" p) [e] [] pos) (iEnumT X.K ta) := by
  refine ⟨fun pins s σ H R I h => ?_⟩
  refine Call_ (ld_blt I hg hm boot_enumerate ?_)
  refine PyProof.Rows.callWith_type1 (thn (ha.run pos pins s σ H _ I h) fun us s1 ⟨vs, H1, I1, r1, a, xs, ex, hq, q⟩ => ?_) hs rfl
  subst ex
  cases r1 with
  | cons r rr =>
    cases rr
    cases r
    obtain ⟨its, rv, p', hz⟩ := I1.tuple hq
    refine enum1_call (begins_tuple a its.toArray) p' fun h' he hit hk => wpAny_pyIter_enum he ?_
    have I2 : Inv X pins σ H1 { s1 with heap := h' } := I1.kept (t' := s1.toks) hk
    refine ⟨s1.heap.objs.size + 1, [s1.heap.objs.size + 1, s1.heap.objs.size], _, _, H1, rfl, I2, turn_enumT a (s1.heap.objs.size + 1) s1.heap.objs.size, ⟨⟨.none, he⟩, ⟨_, hit, rfl, rfl⟩, Nat.succ_ne_self _⟩, fun b hb => ?_, q⟩
    have hle : s1.heap.objs.size ≤ b := by
      rcases (by simpa using hb : b = s1.heap.objs.size + 1 ∨ b = s1.heap.objs.size) with rfl | rfl
      · exact Nat.le_succ _
      · exact Nat.le_refl _
    exact I1.fpOk hle (I1.hok.fresh hle)
end MP

set_option maxRecDepth 100000
set_option maxHeartbeats 1000000
namespace MP
open PySem PySem.Spec PyProof.Rows L2
/-! ### dicts with tuple keys, walked -/
section
variable {X : Cx} {pins : List (Addr × Obj)} {σ : St} {H : Hp} {s : Shared} {d : Addr} {o : Obj}
theorem frzT2 {kvs : List (List Key × V)} (I : Inv X pins σ H s) (h : H d = some (.frz o (.dT kvs))) :
    (d == sysModules) = false ∧ s.heap.get? d = some o ∧ o.ExactDict ∧ ∃ (es : Array DictEntry) (ep : Nat), o.data = .dict es ep ∧ es.size = kvs.length ∧
      ∀ (j : Nat) (ks : List Key) (y : V), kvs[j]? = some (ks, y) → ∃ (en : DictEntry) (q : Addr), es[j]? = some en ∧ en.key = .ref q ∧ H q = some (.tup (ks.map kV)) ∧ RelV y en.val := by
  obtain ⟨e1, e2, e3, xs, pr, o2, es, ep, ho, e4, e5, e6, e7⟩ := I.hok d _ h
  rw [e1] at ho
  obtain rfl := Option.some.inj ho
  have z1 : es.size = xs.length := size_of_entries e6
  have z2 : kvs.length = xs.length := Paired.length pr
  refine ⟨e3, e1, e4, es, ep, e5, z1.trans z2.symm, fun j ks y e => ?_⟩
  obtain ⟨b, hb, p1, p2, p3⟩ := paired_get pr e
  have q := entry_at e6 j
  rw [hb] at q
  exact ⟨_, b.2.1, q, rfl, p2, p3⟩
end
/-- the pairs of the locked dict at d, each a new tuple of the key's own tuple and the value -/
def ItiT (d : Addr) (o : Obj) (kvs : List (List Key × V)) : It where
  go := fun i H => H d = some (.frz o (.dT kvs)) ∧ i < kvs.length
  yld := fun i H x H' => ∃ T q ks y, kvs[i]? = some (ks, y) ∧ x = .ref T ∧ H T = none ∧ H q = some (.tup (ks.map kV)) ∧ H' = upd H T (.tup [.ref q, y])
  stop := fun i H => H d = some (.frz o (.dT kvs)) ∧ kvs.length ≤ i
theorem turn_itemsT {P : Program} {w : World} {K : PySem.W.Frag} {d : Addr} {o : Obj} {es : Array DictEntry} {ep : Nat} {kvs : List (List Key × V)} {elts : List Expr} {kk : Nat} {tpos : Pos} (it : Addr) (hod : o.data = .dict es ep) :
    Turn P w K (.Tuple elts kk tpos) (ItiT d o kvs) [it] it (fun i h => ∃ ok ov, IsItemIter h it d i kvs.length ep ok ov) where
  mem := List.mem_singleton.mpr rfl
  obj := fun i h ⟨ok, ov, e⟩ b hb => by
    rw [List.mem_singleton.mp hb]; exact ⟨_, e, fun v z => nomatch z⟩
  keep := fun i h h' ⟨ok, ov, e⟩ k => ⟨ok, ov, k it (List.mem_singleton.mpr rfl) _ e⟩
  item := by
    rintro X rfl rfl rfl hc i pins s σ H E I hf ⟨ok, ov, st⟩ ⟨hd, hi⟩
    obtain ⟨e1, e2, e3, es2, ep2, e4, e5, e6⟩ := frzT2 I hd
    obtain ⟨rfl, rfl⟩ := dict_ep hod e4
    have hkv := List.getElem?_eq_getElem hi
    obtain ⟨en, q, g1, g2, g3, g4⟩ := e6 i _ _ hkv
    have hi2 : i < es2.size := by rw [e5]; exact hi
    have hen : es2[i] = en := Option.some.inj ((Array.getElem?_eq_getElem hi2).symm.trans g1)
    rw [← e5] at st
    have hlt : it < s.heap.objs.size := Heap.lt_size st
    refine DT.nextI st ⟨o, e2, e3, hod⟩ hi2 fun h1 ho hT hz hk => ⟨_, rfl, wpAny_letOwnedTupleGo_items (s := { s with heap := h1 }) ho fun h2 hit sb => ?_⟩
    have hT2 : h2.get? s.heap.objs.size = some { cls := .type "tuple", data := .seq #[.ref q, en.val] } := by
      rw [sb.2 _ (Nat.ne_of_gt hlt), hT, hen, g2]
    have new : ObjOk X.prog X.w (upd H s.heap.objs.size (.tup [.ref q, (kvs[i]).2])) h2 s.heap.objs.size (.tup [.ref q, (kvs[i]).2]) :=
      ⟨show 2 ≤ sizeLine by decide, [.ref q, en.val], .cons rfl (.cons g4 .nil), ⟨_, hT2, rfl, _, rfl⟩⟩
    have I1 : Inv X pins σ (upd H s.heap.objs.size (.tup [.ref q, (kvs[i]).2])) { s with heap := h2 } :=
      I.turnedNew (t' := s.toks) (ch := [it]) (fun b ob hb e => (sb.2 b (fun z => hb (List.mem_singleton.mpr z))).trans (hk b ob (fun z => hb (List.mem_singleton.mpr z)) e)) hf (Nat.le_refl _) new
    refine ⟨.ref s.heap.objs.size, _, I1, rfl, ⟨_, q, _, _, hkv, rfl, I.hok.fresh (Nat.le_refl _), g3, rfl⟩, ⟨_, _, by rw [← e5]; exact hit⟩, fun b hb => ?_⟩
    rw [List.mem_singleton.mp hb, upd_ne (Nat.ne_of_lt hlt)]
    exact (hf it (List.mem_singleton.mpr rfl)).1
  done := by
    rintro X rfl rfl rfl hc i pins s σ H E I hf ⟨ok, ov, st⟩ ⟨hd, hi⟩
    obtain ⟨f0, f1, f2, f3, f4, f5⟩ := hf it (List.mem_singleton.mpr rfl)
    obtain ⟨e1, e2, e3, es2, ep2, e4, e5, e6⟩ := frzT2 I hd
    obtain ⟨rfl, rfl⟩ := dict_ep hod e4
    rw [← e5] at st hi
    exact DT.endI (I.ok.hd hc) st ⟨o, e2, e3, hod⟩ hi fun h1 eb => ⟨rfl, I.turned (t' := s.toks) (fun b ob hb e => eb b ob hb e) f0 f1 f3 f4 f5⟩
  self := fun A i s Q E ⟨_, _, e⟩ h => PySem.W.kcp_self e h
/-- the dict that a value is gets locked -/
def tLk (td : TE) : TE := fun σ H Q => td σ H fun x H1 => ∃ d u, x = .ref d ∧ ((∃ od, H1 d = some (.frz od u) ∧ Q x H1) ∨ (H1 d = some u ∧ Mut (some u) ∧ ∀ od, Q x (upd H1 d (.frz od u))))
section
variable {X : Cx} {tg e : Expr} {td : TE} {apos cpos : Pos}
theorem pe_lk (h : PE X e td) : PE X e (tLk td) := ⟨fun pins s σ H Q I q => wpAny_mono (h.run pins s σ H _ I q) (fun v s1 ⟨x, H1, I1, rx, d, u, ex, z⟩ => by
  rcases z with ⟨od, hd, q⟩ | ⟨hd, mu, q⟩
  · exact ⟨x, H1, I1, rx, q⟩
  · obtain ⟨od, I2⟩ := I1.lock hd mu
    exact ⟨x, _, I2, rx, q od⟩) fun _ _ h => h⟩
def iItemsT (td : TE) : TI := fun σ H R => td σ H fun x H1 => ∃ d o kvs, x = .ref d ∧ H1 d = some (.frz o (.dT kvs)) ∧ R (ItiT d o kvs) H1
theorem pi_itemsT {elts : List Expr} {kk : Nat} {tpos : Pos} (he : PE X e td) (hb : attributeBase e "items" X.env (eval e X.env) = eval e X.env := by rfl) (hl : (apos.endLine == cpos.line) = true := by rfl) :
    PI X (.Tuple elts kk tpos) (.Call (.Attribute e "items" apos) [] [] cpos) (iItemsT td) := by
  refine ⟨fun pins s σ H R I h => ?_⟩
  refine wpAny_Call_method (T := "dict") (id := "dict.items") hb rfl hl F.plainAttrs_dict F.slot_dict_items F.type_dict_items (thn (he.run pins s σ H _ I h) fun u s1 ⟨x, H1, I1, rx, d, o, kvs, ex, hd, q⟩ => ?_)
  cases ex
  cases rx
  obtain ⟨e1, e2, e3, es, ep, e4, e5, e6⟩ := frzT2 I1 hd
  have raw : DT.Raw s1.heap d es ep := ⟨o, e2, e3, e4⟩
  have I2 : Inv X pins σ H1 { s1 with heap := s1.heap.push { cls := .type "dict_items", data := .fields #[.ref d] } } := I1.kept (t' := s1.toks) fun b ob z => Heap.get?_push_of_some _ z
  refine ⟨raw.typeIs, fun b z => by cases z; exact ⟨o, e2, e3.2.1⟩, ?_⟩
  have fin : wpAny (model X.prog X.w) X.A (pyIter (.ref s1.heap.objs.size)) (PIE X pins σ (.Tuple elts kk tpos) R) X.xe { s1 with heap := s1.heap.push { cls := .type "dict_items", data := .fields #[.ref d] } } :=
    DT.iterI (d := d) ⟨_, Heap.get?_push_size _ rfl, rfl, rfl⟩ (raw.push _) (pi_one (tk := s1.toks) I2 _ (turn_itemsT _ e4) ⟨.none, .none, by rw [← e5]; exact Heap.get?_push_size _ rfl⟩ q)
  show wpAny _ _ (callWith cpos (.builtin "dict.items") [.ref d] [] []) _ X.xe s1
  exact method_meetsIn F.slot_dict_items F.entry_dict_items rfl (PySem.evalArgs_none ⟨rfl, raw.typeIs, F.args_dict_items_1 _, _, DT.meetsItems (es := es) (ep := ep) e1, raw, fin⟩)
end
end MP

set_option maxRecDepth 100000
set_option maxHeartbeats 1000000
namespace MP
open PySem PySem.Spec PyProof.Rows L2
/-! ### what is walked -/
def Pre (Ad Ad' : List Addr) : Prop := ∀ (n : Nat) (a : Addr), Ad[n]? = some a → Ad'[n]? = some a
def KsOk (ks : List (Addr × HO)) (H : Hp) : Prop := ∀ k ∈ ks, H k.1 = some k.2
structure ItOk (K : PySem.W.Frag) (F : Hp) (Ad : List Addr) (ks : List (Addr × HO)) (J : It) (ds : List D) : Prop where
  go : ∀ (i : Nat) F' Ad' M' H', i < ds.length → FLe F F' → Pre Ad Ad' → MemOk K F' Ad' M' H' → KsOk ks H' → J.go i H'
  stop : ∀ F' Ad' M' H', FLe F F' → Pre Ad Ad' → MemOk K F' Ad' M' H' → KsOk ks H' → J.stop ds.length H'
  yld : ∀ (i : Nat) F' Ad' M' H' x H'', i < ds.length → FLe F F' → Pre Ad Ad' → MemOk K F' Ad' M' H' → KsOk ks H' → J.yld i H' x H'' →
    ∃ d F'', ds[i]? = some d ∧ Gr F' Ad' H' F'' Ad' H'' ∧ MemOk K F'' Ad' M' H'' ∧ Den K F'' Ad' x d
/-- the sequence at a is ds, wherever we look -/
def AtL (K : PySem.W.Frag) (F : Hp) (Ad : List Addr) (ks : List (Addr × HO)) (a : Addr) (ds : List D) : Prop :=
  ∀ F' Ad' M' H', FLe F F' → Pre Ad Ad' → MemOk K F' Ad' M' H' → KsOk ks H' → ∃ vs, SqL K H' a vs ∧ DenL K F' Ad' vs ds
def AtT (K : PySem.W.Frag) (F : Hp) (Ad : List Addr) (ks : List (Addr × HO)) (a : Addr) (ds : List D) : Prop :=
  ∀ F' Ad' M' H', FLe F F' → Pre Ad Ad' → MemOk K F' Ad' M' H' → KsOk ks H' → ∃ vs, SqT K H' a vs ∧ DenL K F' Ad' vs ds
def enumD (ds : List D) : List D := ds.mapIdx fun i d => .tup [.int i, d]
section
variable {K : PySem.W.Frag} {F H : Hp} {Ad : List Addr} {M : List D} {ks : List (Addr × HO)} {a : Addr} {ds : List D}
theorem atL_lst {vs} (h : F a = some (.lst vs)) (r : DenL K F Ad vs ds) : AtL K F Ad [] a ds := fun F' Ad' M' H' l p m _ =>
  ⟨vs, SqL.of (m.sub _ _ (nrm_lst (l a (.lst vs) (by rw [h]; rfl)))), r.mono l p⟩
theorem atL_own {vs} (h : H a = some (.lst vs)) (r : DenL K F Ad vs ds) : AtL K F Ad [(a, .lst vs)] a ds := fun F' Ad' M' H' l p m k =>
  ⟨vs, SqL.of (k (a, .lst vs) (by simp)), r.mono l p⟩
theorem atL_scr {ns : List Int} (h : SqL K F a (ns.map V.int)) : AtL K F Ad [] a (ns.map D.int) := fun F' Ad' M' H' l p m _ =>
  ⟨_, sqL_sub m (sqL_fle l h), DenL.map_int⟩
theorem atT_tup {vs} (h : F a = some (.tup vs)) (r : DenL K F Ad vs ds) : AtT K F Ad [] a ds := fun F' Ad' M' H' l p m _ =>
  ⟨vs, SqT.of (m.sub _ _ (nrm_tup (l a (.tup vs) (by rw [h]; rfl)))), r.mono l p⟩
theorem atT_ktp {vs} (h : SqT K F a vs) (r : DenL K F Ad vs ds) : AtT K F Ad [] a ds := fun F' Ad' M' H' l p m _ =>
  ⟨vs, sqT_sub m (sqT_fle l h), r.mono l p⟩
theorem DenL.lt {vs} {i : Nat} (r : DenL K F Ad vs ds) (h : i < ds.length) : ∃ v d, vs[i]? = some v ∧ ds[i]? = some d ∧ Den K F Ad v d := by
  obtain ⟨v, h1, h2⟩ := r.get (List.getElem?_eq_getElem h)
  exact ⟨v, _, h1, List.getElem?_eq_getElem h, h2⟩
theorem it_l (h : AtL K F Ad ks a ds) : ItOk K F Ad ks (Itl K a) ds where
  go := fun i F' Ad' M' H' hi l p m k => by
    obtain ⟨vs, h1, h2⟩ := h F' Ad' M' H' l p m k
    obtain ⟨v, d, e1, e2, e3⟩ := h2.lt hi
    exact ⟨vs, v, h1, e1⟩
  stop := fun F' Ad' M' H' l p m k => by
    obtain ⟨vs, h1, h2⟩ := h F' Ad' M' H' l p m k
    exact ⟨vs, h1, by rw [h2.length]; exact Nat.le_refl _⟩
  yld := fun i F' Ad' M' H' x H'' hi l p m k ⟨e, q⟩ => by
    subst e
    obtain ⟨vs, h1, h2⟩ := h F' Ad' M' H'' l p m k
    obtain ⟨v, d, e1, e2, e3⟩ := h2.lt hi
    rw [q vs h1] at e1; cases e1
    exact ⟨d, F', e2, Gr.refl, m, e3⟩
theorem it_t (h : AtT K F Ad ks a ds) : ItOk K F Ad ks (Itt K a) ds where
  go := fun i F' Ad' M' H' hi l p m k => by
    obtain ⟨vs, h1, h2⟩ := h F' Ad' M' H' l p m k
    obtain ⟨v, d, e1, e2, e3⟩ := h2.lt hi
    exact ⟨vs, v, h1, e1⟩
  stop := fun F' Ad' M' H' l p m k => by
    obtain ⟨vs, h1, h2⟩ := h F' Ad' M' H' l p m k
    exact ⟨vs, h1, by rw [h2.length]; exact Nat.le_refl _⟩
  yld := fun i F' Ad' M' H' x H'' hi l p m k ⟨e, q⟩ => by
    subst e
    obtain ⟨vs, h1, h2⟩ := h F' Ad' M' H'' l p m k
    obtain ⟨v, d, e1, e2, e3⟩ := h2.lt hi
    rw [q vs h1] at e1; cases e1
    exact ⟨d, F', e2, Gr.refl, m, e3⟩
theorem enum_len : (enumD ds).length = ds.length := by unfold enumD; simp
theorem enum_get {i : Nat} {d : D} (h : ds[i]? = some d) : (enumD ds)[i]? = some (.tup [.int i, d]) := by unfold enumD; simp [h]
theorem pair_new {F H : Hp} {Ad : List Addr} {M : List D} {T : Addr} {x : V} {d : D} {i : Int} (m : MemOk K F Ad M H) (hT : H T = none) (x1 : Den K F Ad x d) :
    Gr F Ad H (upd F T (.tup [.int i, x])) Ad (upd H T (.tup [.int i, x])) ∧ MemOk K (upd F T (.tup [.int i, x])) Ad M (upd H T (.tup [.int i, x])) ∧ Den K (upd F T (.tup [.int i, x])) Ad (.ref T) (.tup [.int i, d]) :=
  ⟨gr_new m hT, mem_new m hT, .tup upd_same (.cons .int (.cons (x1.mono (fle_new (m.none hT)) fun _ _ h => h) .nil))⟩
theorem it_e (h : AtL K F Ad ks a ds) : ItOk K F Ad ks (Ite K a) (enumD ds) where
  go := fun i F' Ad' M' H' hi l p m k => by
    rw [enum_len] at hi
    obtain ⟨vs, h1, h2⟩ := h F' Ad' M' H' l p m k
    obtain ⟨v, d, e1, e2, e3⟩ := h2.lt hi
    exact ⟨vs, v, h1, e1⟩
  stop := fun F' Ad' M' H' l p m k => by
    obtain ⟨vs, h1, h2⟩ := h F' Ad' M' H' l p m k
    exact ⟨vs, h1, by rw [h2.length, enum_len]; exact Nat.le_refl _⟩
  yld := fun i F' Ad' M' H' x H'' hi l p m k ⟨T, y, ex, hT, e, q⟩ => by
    rw [enum_len] at hi
    subst e; subst ex
    obtain ⟨vs, h1, h2⟩ := h F' Ad' M' H' l p m k
    obtain ⟨v, d, e1, e2, e3⟩ := h2.lt hi
    rw [q vs h1] at e1; cases e1
    obtain ⟨g, m', dn⟩ := pair_new (i := (i : Nat)) m hT e3
    exact ⟨_, _, enum_get e2, g, m', dn⟩
theorem it_et (h : AtT K F Ad ks a ds) : ItOk K F Ad ks (IteT K a) (enumD ds) where
  go := fun i F' Ad' M' H' hi l p m k => by
    rw [enum_len] at hi
    obtain ⟨vs, h1, h2⟩ := h F' Ad' M' H' l p m k
    obtain ⟨v, d, e1, e2, e3⟩ := h2.lt hi
    exact ⟨vs, v, h1, e1⟩
  stop := fun F' Ad' M' H' l p m k => by
    obtain ⟨vs, h1, h2⟩ := h F' Ad' M' H' l p m k
    exact ⟨vs, h1, by rw [h2.length, enum_len]⟩
  yld := fun i F' Ad' M' H' x H'' hi l p m k ⟨T, y, ex, hT, e, q⟩ => by
    rw [enum_len] at hi
    subst e; subst ex
    obtain ⟨vs, h1, h2⟩ := h F' Ad' M' H' l p m k
    obtain ⟨v, d, e1, e2, e3⟩ := h2.lt hi
    rw [q vs h1] at e1; cases e1
    obtain ⟨g, m', dn⟩ := pair_new (i := (i : Nat)) m hT e3
    exact ⟨_, _, enum_get e2, g, m', dn⟩
def rngD (lo : Int) (n : Nat) : List D := (List.range n).map fun (k : Nat) => D.int (lo + (k : Nat))
theorem it_r {lo : Int} {n : Nat} : ItOk K F Ad [] (Itr lo n) (rngD lo n) where
  go := fun i F' Ad' M' H' hi l p m k => by show i < n; simpa [rngD] using hi
  stop := fun F' Ad' M' H' l p m k => by show n ≤ (rngD lo n).length; simp [rngD]
  yld := fun i F' Ad' M' H' x H'' hi l p m k ⟨e, q⟩ => by
    subst e; subst q
    have hi : i < n := by simpa [rngD] using hi
    exact ⟨.int (lo + (i : Nat)), F', by simp [rngD, hi], Gr.refl, m, .int⟩
end
/-! ### dicts, walked -/
def keyE : Key → D
  | .inl i => .int i
  | .inr s => .str s
def keyTE (ks : List Key) : D := .tup (ks.map keyE)
section
variable {K : PySem.W.Frag} {F H : Hp} {Ad : List Addr} {M : List D} {a : Addr}
theorem den_key : ∀ k : Key, Den K F Ad (kV k) (keyE k)
  | .inl _ => .int
  | .inr _ => .str
theorem denL_keys : ∀ ks : List Key, DenL K F Ad (ks.map kV) (ks.map keyE)
  | [] => .nil
  | k :: ks => .cons (den_key k) (denL_keys ks)
/-- a tuple that stands becomes a frozen one -/
theorem absorb {q : Addr} {vs : List V} (m : MemOk K F Ad M H) (h : H q = some (.tup vs)) : ∃ F', Gr F Ad H F' Ad H ∧ MemOk K F' Ad M H ∧ F' q = some (.tup vs) := by
  cases e : F q with
  | some u =>
    have z := m.sub q u e
    rw [h] at z
    cases z
    exact ⟨F, Gr.refl, m, e⟩
  | none =>
    refine ⟨upd F q (.tup vs), ⟨fle_new e, fun b o hb ro n _ => ?_, ⟨[], by simp, by simp⟩, fun b o hb _ _ _ => hb, fun b hb => hb⟩, ⟨fun b u hb => ?_, m.len, m.nd, fun n b d h1 h2 => ?_⟩, upd_same⟩
    · rw [upd_ne (fun z => by subst z; rw [h] at hb; cases hb; exact ro)]; exact n
    · by_cases z : b = q
      · subst z; rw [upd_same] at hb; cases hb; exact h
      · rw [upd_ne z] at hb; exact m.sub b u hb
    · obtain ⟨f, r⟩ := m.cel n b d h1 h2
      obtain ⟨o, ho, ro⟩ := r.obj
      have ne : b ≠ q := fun z => by subst z; rw [h] at ho; cases ho; exact ro
      exact ⟨by rw [upd_ne ne]; exact f, r.mono (fle_new e) (fun _ _ h => h) rfl⟩
def isDict : HO → Bool
  | .dK _ => true
  | .dT _ => true
  | _ => false
theorem lock_den {u : HO} (hu : isDict u = true) (m : MemOk K F Ad M H) (h : F a = some u) (od : Obj) : Gr F Ad H (upd F a (.frz od u)) Ad (upd H a (.frz od u)) ∧ MemOk K (upd F a (.frz od u)) Ad M (upd H a (.frz od u)) := by
  have hn : nrm (some (HO.frz od u)) = some u ∧ ∀ o' u', u ≠ .frz o' u' := by
    cases u <;> first | exact ⟨rfl, fun _ _ z => nomatch z⟩ | cases hu
  have fl : FLe F (upd F a (.frz od u)) := ⟨fun b v hb => by
    by_cases z : b = a
    · subst z
      rw [h] at hb
      rw [upd_same, hn.1, ← hb]
      cases u <;> first | rfl | cases hu
    · rw [upd_ne z]; exact hb, fun b o v hb => by
    by_cases z : b = a
    · subst z; rw [h] at hb; exact absurd (Option.some.inj hb) (hn.2 o v)
    · rw [upd_ne z]; exact hb⟩
  have nf : ∀ {b}, F b = none → b ≠ a := fun n z => by rw [z, h] at n; cases n
  refine ⟨⟨fl, fun b o hb ro n _ => by rw [upd_ne (nf n)]; exact n, ⟨[], by simp, by simp⟩, fun b o hb _ n _ => by rw [upd_ne (nf n)]; exact hb, fun b hb => ?_⟩, ⟨fun b v hb => ?_, m.len, m.nd, fun n b d h1 h2 => ?_⟩⟩
  · by_cases z : b = a
    · subst z; rw [upd_same]; simp
    · rw [upd_ne z]; exact hb
  · by_cases z : b = a
    · subst z; rw [upd_same] at hb ⊢; exact hb
    · rw [upd_ne z] at hb ⊢; exact m.sub b v hb
  · obtain ⟨f, r⟩ := m.cel n b d h1 h2
    exact ⟨by rw [upd_ne (nf f)]; exact f, r.mono fl (fun _ _ h => h) (by rw [upd_ne (nf f)])⟩
theorem DenK.get : ∀ {vs ds} {i : Nat} {k : Key} {v : V}, DenK K F Ad vs ds → vs[i]? = some (k, v) → ∃ d, ds[i]? = some (k, d) ∧ Den K F Ad v d
  | _, _, _, _, _, .nil, e => by simp at e
  | _, _, 0, k, v, .cons h _, e => by simp at e; obtain ⟨rfl, rfl⟩ := e; exact ⟨_, rfl, h⟩
  | _, _, i + 1, k, v, .cons _ r, e => by
    obtain ⟨d, h1, h2⟩ := DenK.get (i := i) r (by simpa using e)
    exact ⟨d, by simpa using h1, h2⟩
theorem DenT.get : ∀ {vs ds} {i : Nat} {k : List Key} {v : V}, DenT K F Ad vs ds → vs[i]? = some (k, v) → ∃ d, ds[i]? = some (k, d) ∧ Den K F Ad v d
  | _, _, _, _, _, .nil, e => by simp at e
  | _, _, 0, k, v, .cons h _, e => by simp at e; obtain ⟨rfl, rfl⟩ := e; exact ⟨_, rfl, h⟩
  | _, _, i + 1, k, v, .cons _ r, e => by
    obtain ⟨d, h1, h2⟩ := DenT.get (i := i) r (by simpa using e)
    exact ⟨d, by simpa using h1, h2⟩
def keysT (ds : List (List Key × D)) : List D := ds.map fun kv => keyTE kv.1
def keysK (ds : List (Key × D)) : List D := ds.map fun kv => keyE kv.1
def itemsT (ds : List (List Key × D)) : List D := ds.map fun kv => .tup [keyTE kv.1, kv.2]
def itemsK (ds : List (Key × D)) : List D := ds.map fun kv => .tup [keyE kv.1, kv.2]
theorem it_kT {o : Obj} {vs ds} (h : F a = some (.frz o (.dT vs))) (r : DenT K F Ad vs ds) : ItOk K F Ad [] (Itkt a o vs) (keysT ds) where
  go := fun i F' Ad' M' H' hi l p m _ => ⟨m.sub _ _ (l.fz _ _ _ h), by rw [r.length]; simpa [keysT] using hi⟩
  stop := fun F' Ad' M' H' l p m _ => ⟨m.sub _ _ (l.fz _ _ _ h), by rw [r.length]; simp [keysT]⟩
  yld := fun i F' Ad' M' H' x H'' hi l p m _ ⟨e1, k, v, q, e2, e3, e4⟩ => by
    subst e1; subst e3
    obtain ⟨d, h1, h2⟩ := r.get e2
    obtain ⟨F2, g2, m2, e5⟩ := absorb m e4
    exact ⟨_, F2, by rw [keysT, List.getElem?_map, h1]; rfl, g2, m2, .tup e5 (denL_keys k)⟩
theorem it_kK {o : Obj} {vs ds} (h : F a = some (.frz o (.dK vs))) (r : DenK K F Ad vs ds) : ItOk K F Ad [] (Itk a o vs) (keysK ds) where
  go := fun i F' Ad' M' H' hi l p m _ => ⟨m.sub _ _ (l.fz _ _ _ h), by rw [r.length]; simpa [keysK] using hi⟩
  stop := fun F' Ad' M' H' l p m _ => ⟨m.sub _ _ (l.fz _ _ _ h), by rw [r.length]; simp [keysK]⟩
  yld := fun i F' Ad' M' H' x H'' hi l p m _ ⟨e1, k, v, e2, e3⟩ => by
    subst e1; subst e3
    obtain ⟨d, h1, h2⟩ := r.get e2
    exact ⟨_, F', by rw [keysK, List.getElem?_map, h1]; rfl, Gr.refl, m, den_key k⟩
theorem it_iT {o : Obj} {vs ds} (h : F a = some (.frz o (.dT vs))) (r : DenT K F Ad vs ds) : ItOk K F Ad [] (ItiT a o vs) (itemsT ds) where
  go := fun i F' Ad' M' H' hi l p m _ => ⟨m.sub _ _ (l.fz _ _ _ h), by rw [r.length]; simpa [itemsT] using hi⟩
  stop := fun F' Ad' M' H' l p m _ => ⟨m.sub _ _ (l.fz _ _ _ h), by rw [r.length]; simp [itemsT]⟩
  yld := fun i F' Ad' M' H' x H'' hi l p m _ ⟨T, q, k, y, e1, e2, e3, e4, e5⟩ => by
    subst e2; subst e5
    obtain ⟨d, h1, h2⟩ := r.get e1
    obtain ⟨F2, g2, m2, e6⟩ := absorb m e4
    have hq : q ≠ T := fun z => by rw [z, e3] at e4; cases e4
    have fl := fle_new (o := .tup [.ref q, y]) (m2.none e3)
    refine ⟨_, _, by rw [itemsT, List.getElem?_map, h1]; rfl, g2.trans (gr_new (o := .tup [.ref q, y]) m2 e3), mem_new m2 e3, .tup upd_same (.cons (.tup (by rw [upd_ne hq]; exact e6) (denL_keys k)) (.cons ((h2.mono l p).mono (g2.fle.trans fl) fun _ _ h => h) .nil))⟩
theorem it_iK {o : Obj} {vs ds} (h : F a = some (.frz o (.dK vs))) (r : DenK K F Ad vs ds) : ItOk K F Ad [] (Iti a o vs) (itemsK ds) where
  go := fun i F' Ad' M' H' hi l p m _ => ⟨m.sub _ _ (l.fz _ _ _ h), by rw [r.length]; simpa [itemsK] using hi⟩
  stop := fun F' Ad' M' H' l p m _ => ⟨m.sub _ _ (l.fz _ _ _ h), by rw [r.length]; simp [itemsK]⟩
  yld := fun i F' Ad' M' H' x H'' hi l p m _ ⟨T, k, y, e1, e2, e3, e5⟩ => by
    subst e2; subst e5
    obtain ⟨d, h1, h2⟩ := r.get e1
    have fl := fle_new (o := .tup [kV k, y]) (m.none e3)
    exact ⟨_, _, by rw [itemsK, List.getElem?_map, h1]; rfl, gr_new (o := .tup [kV k, y]) m e3, mem_new m e3, .tup upd_same (.cons (den_key k) (.cons ((h2.mono l p).mono fl fun _ _ h => h) .nil))⟩
end
/-- st: the walk needs nothing but what stays -/
def tI (K : PySem.W.Frag) (W : WX) (st : Bool) (f : LF) : TI := fun σ H R => ∃ N0 F Ad M env, MemOk K F Ad M H ∧ EnvOk K N0 F Ad H σ env ∧ (match f env M with
  | .ok ds M1 => ∀ J ks F' Ad' H', Gr F Ad H F' Ad' H' → MemOk K F' Ad' M1 H' → ItOk K F' Ad' ks J ds → KsOk ks H' → (∀ k ∈ ks, F' k.1 = none ∧ k.1 ∉ Ad' ∧ RootO k.2) → (st = true → ks = []) → R J H'
  | .exc x M1 => ∀ cls dx F' Ad' H', Gr F Ad H F' Ad' H' → MemOk K F' Ad' M1 H' → XOk K F' Ad' H' x cls dx → W cls dx σ H'
  | .stuck => False)
abbrev SI (X : Cx) (W : WX) (st : Bool) (tg iter : Expr) (f : LF) : Prop := PI X tg iter (tI X.K W st f)
section
variable {X : Cx} {W : WX} {K : PySem.W.Frag} {N0 : Ent} {F H : Hp} {Ad : List Addr} {M : List D} {env : EnvM} {σ : St} {tg e e' : Expr} {f f' : EF} {l : LF} {pos p : Pos}
theorem PI.imp {t u : TI} (h : PI X tg e t) (i : ∀ σ H R, u σ H R → t σ H R) : PI X tg e u := ⟨fun pins s σ H R I q => h.run pins s σ H R I (i σ H R q)⟩
theorem PI.or {t u : TI} (h : PI X tg e t) (h' : PI X tg e u) : PI X tg e (fun σ H R => t σ H R ∨ u σ H R) := ⟨fun pins s σ H R I q => by
  rcases q with q | q
  · exact h.run pins s σ H R I q
  · exact h'.run pins s σ H R I q⟩
theorem SI.any (h : SI X W true tg e l) : SI X W false tg e l := PI.imp h fun σ H R ⟨N0, F, Ad, M, env, m, en, r⟩ => ⟨N0, F, Ad, M, env, m, en, by
  cases q : l env M with
  | ok ds M1 => rw [q] at r; exact fun J ks F' Ad' H' g m' it k k2 z => r J ks F' Ad' H' g m' it k k2 (fun h => nomatch h)
  | exc x M1 => rw [q] at r; exact r
  | stuck => rw [q] at r; exact r⟩
theorem pre_refl : Pre Ad Ad := fun _ _ h => h
/-- a list, a tuple, the script -/
def iSeq (f : EF) : LF := fun env M => (f env M).bindL fun d M1 => match d with
  | .lst xs => .ok xs M1
  | .tup xs => .ok xs M1
  | .ktp xs => .ok xs M1
  | .scr ns => .ok (ns.map .int) M1
  | .dT kvs => .ok (keysT kvs) M1
  | .dK kvs => .ok (keysK kvs) M1
  | _ => .stuck
theorem nrm_frz {o : Option HO} {u : HO} (hu : isDict u = true) (h : nrm o = some u) : o = some u ∨ ∃ b, o = some (.frz b u) := by
  cases u with
  | dK k => exact nrm_dK h
  | dT k => exact nrm_dT h
  | _ => cases hu
theorem mut_dict {u : HO} (hu : isDict u = true) : Mut (some u) := by cases u <;> first | exact trivial | cases hu
/-- a frozen dict's lock -/
theorem lk_den {u : HO} {Q : VK} (hu : isDict u = true) (m : MemOk K F Ad M H) {a : Addr} (h : nrm (F a) = some u) (q : ∀ od F' H', Gr F Ad H F' Ad H' → MemOk K F' Ad M H' → F' a = some (.frz od u) → Q (.ref a) H') :
    ∃ d u, V.ref a = .ref d ∧ ((∃ od, H d = some (.frz od u) ∧ Q (.ref a) H) ∨ (H d = some u ∧ Mut (some u) ∧ ∀ od, Q (.ref a) (upd H d (.frz od u)))) := by
  rcases nrm_frz hu h with e | ⟨b, e⟩
  · refine ⟨a, u, rfl, .inr ⟨m.sub _ _ e, mut_dict hu, fun od => ?_⟩⟩
    obtain ⟨g2, m2⟩ := lock_den hu m e od
    exact q od _ _ g2 m2 upd_same
  · exact ⟨a, u, rfl, .inl ⟨b, m.sub _ _ e, q b F H Gr.refl m e⟩⟩
theorem si_seq (h : SE X W e f) : SI X W true tg e (iSeq f) := PI.imp (PI.or (PI.or (pi_list h) (pi_tup h)) (pi_keys (pe_lk h))) fun σ H R ⟨N0, F, Ad, M, env, m, en, r⟩ => by
  unfold iSeq at r
  cases q : f env M with
  | ok d M1 =>
    rw [q, MP.R.bindL_ok] at r
    have lift : ∀ P : V → Hp → Prop, (∀ v F1 Ad1 H1, Gr F Ad H F1 Ad1 H1 → MemOk X.K F1 Ad1 M1 H1 → Den X.K F1 Ad1 v d → P v H1) → tG X.K W (DE X.K) f σ H P := fun P hP =>
      ⟨N0, F, Ad, M, env, m, en, by rw [q]; exact hP⟩
    cases d with
    | lst xs =>
      refine .inl (.inl (lift _ fun v F1 Ad1 H1 g1 m1 x1 => ?_))
      cases x1 with
      | lst h r1 => exact ⟨_, rfl, ⟨_, SqL.of (m1.sub _ _ h)⟩, r _ [] F1 Ad1 H1 g1 m1 (it_l (atL_lst h r1)) (fun _ z => nomatch z) (fun _ z => nomatch z) fun _ => rfl⟩
    | scr ns =>
      refine .inl (.inl (lift _ fun v F1 Ad1 H1 g1 m1 x1 => ?_))
      cases x1 with
      | scr h => exact ⟨_, rfl, ⟨_, sqL_sub m1 h⟩, r _ [] F1 Ad1 H1 g1 m1 (it_l (atL_scr h)) (fun _ z => nomatch z) (fun _ z => nomatch z) fun _ => rfl⟩
    | tup xs =>
      refine .inl (.inr (lift _ fun v F1 Ad1 H1 g1 m1 x1 => ?_))
      cases x1 with
      | tup h r1 => exact ⟨_, rfl, ⟨_, SqT.of (m1.sub _ _ h)⟩, r _ [] F1 Ad1 H1 g1 m1 (it_t (atT_tup h r1)) (fun _ z => nomatch z) (fun _ z => nomatch z) fun _ => rfl⟩
    | ktp xs =>
      refine .inl (.inr (lift _ fun v F1 Ad1 H1 g1 m1 x1 => ?_))
      cases x1 with
      | ktp h r1 => exact ⟨_, rfl, ⟨_, sqT_sub m1 h⟩, r _ [] F1 Ad1 H1 g1 m1 (it_t (atT_ktp h r1)) (fun _ z => nomatch z) (fun _ z => nomatch z) fun _ => rfl⟩
    | dT xs =>
      refine .inr (lift _ fun v F1 Ad1 H1 g1 m1 x1 => ?_)
      cases x1 with
      | dT h r1 => exact lk_den (Q := fun x H1 => ∃ d o, x = V.ref d ∧ ((∃ kvs, H1 d = some (.frz o (.dK kvs)) ∧ R (Itk d o kvs) H1) ∨ ∃ kvs, H1 d = some (.frz o (.dT kvs)) ∧ R (Itkt d o kvs) H1)) rfl m1 h fun od F2 H2 g2 m2 h2 => ⟨_, _, rfl, .inr ⟨_, m2.sub _ _ h2, r _ [] F2 Ad1 H2 (g1.trans g2) m2 (it_kT h2 (r1.mono g2.fle fun _ _ h => h)) (fun _ z => nomatch z) (fun _ z => nomatch z) fun _ => rfl⟩⟩
    | dK xs =>
      refine .inr (lift _ fun v F1 Ad1 H1 g1 m1 x1 => ?_)
      cases x1 with
      | dK h r1 => exact lk_den (Q := fun x H1 => ∃ d o, x = V.ref d ∧ ((∃ kvs, H1 d = some (.frz o (.dK kvs)) ∧ R (Itk d o kvs) H1) ∨ ∃ kvs, H1 d = some (.frz o (.dT kvs)) ∧ R (Itkt d o kvs) H1)) rfl m1 h fun od F2 H2 g2 m2 h2 => ⟨_, _, rfl, .inl ⟨_, m2.sub _ _ h2, r _ [] F2 Ad1 H2 (g1.trans g2) m2 (it_kK h2 (r1.mono g2.fle fun _ _ h => h)) (fun _ z => nomatch z) (fun _ z => nomatch z) fun _ => rfl⟩⟩
    | _ => exact r.elim
  | exc x M1 => rw [q] at r; exact .inl (.inl ⟨N0, F, Ad, M, env, m, en, by rw [q]; exact r⟩)
  | stuck => rw [q] at r; exact r.elim
/-- the same over a borrowed own list -/
def iSeqB (f : EF) : LF := fun env M => (f env M).bindL fun d M1 => match d with
  | .lst xs => .ok xs M1
  | .tup xs => .ok xs M1
  | .ktp xs => .ok xs M1
  | .scr ns => .ok (ns.map .int) M1
  | _ => .stuck
theorem si_seqB (h : SB X W e f) : SI X W false tg e (iSeqB f) := PI.imp (PI.or (pi_list h) (pi_tup h)) fun σ H R ⟨N0, F, Ad, M, env, m, en, r⟩ => by
  unfold iSeqB at r
  cases q : f env M with
  | ok d M1 =>
    rw [q, MP.R.bindL_ok] at r
    have lift : ∀ P : V → Hp → Prop, (∀ v F1 Ad1 H1, Gr F Ad H F1 Ad1 H1 → MemOk X.K F1 Ad1 M1 H1 → DB X.K H F1 Ad1 H1 v d → P v H1) → tG X.K W (DB X.K) f σ H P := fun P hP =>
      ⟨N0, F, Ad, M, env, m, en, by rw [q]; exact hP⟩
    cases d with
    | lst xs =>
      refine .inl (lift _ fun v F1 Ad1 H1 g1 m1 x1 => ?_)
      rcases x1 with x1 | ⟨a, rfl, n1, n2, x1⟩
      · cases x1 with
        | lst h r1 => exact ⟨_, rfl, ⟨_, SqL.of (m1.sub _ _ h)⟩, r _ [] F1 Ad1 H1 g1 m1 (it_l (atL_lst h r1)) (fun _ z => nomatch z) (fun _ z => nomatch z) fun _ => rfl⟩
      · cases x1 with
        | lst h r1 => exact ⟨a, rfl, ⟨_, SqL.of h⟩, r _ _ F1 Ad1 H1 g1 m1 (it_l (atL_own h r1)) (fun k hk => by simp at hk; subst hk; exact h) (fun k hk => by simp at hk; subst hk; exact ⟨n1, n2, trivial⟩) (fun z => nomatch z)⟩
    | scr ns =>
      refine .inl (lift _ fun v F1 Ad1 H1 g1 m1 x1 => ?_)
      cases x1.den (fun a h => nomatch h) with
      | scr h => exact ⟨_, rfl, ⟨_, sqL_sub m1 h⟩, r _ [] F1 Ad1 H1 g1 m1 (it_l (atL_scr h)) (fun _ z => nomatch z) (fun _ z => nomatch z) fun _ => rfl⟩
    | tup xs =>
      refine .inr (lift _ fun v F1 Ad1 H1 g1 m1 x1 => ?_)
      cases x1.den (fun a h => nomatch h) with
      | tup h r1 => exact ⟨_, rfl, ⟨_, SqT.of (m1.sub _ _ h)⟩, r _ [] F1 Ad1 H1 g1 m1 (it_t (atT_tup h r1)) (fun _ z => nomatch z) (fun _ z => nomatch z) fun _ => rfl⟩
    | ktp xs =>
      refine .inr (lift _ fun v F1 Ad1 H1 g1 m1 x1 => ?_)
      cases x1.den (fun a h => nomatch h) with
      | ktp h r1 => exact ⟨_, rfl, ⟨_, sqT_sub m1 h⟩, r _ [] F1 Ad1 H1 g1 m1 (it_t (atT_ktp h r1)) (fun _ z => nomatch z) (fun _ z => nomatch z) fun _ => rfl⟩
    | _ => exact r.elim
  | exc x M1 => rw [q] at r; exact .inl ⟨N0, F, Ad, M, env, m, en, by rw [q]; exact r⟩
  | stuck => rw [q] at r; exact r.elim
/-- d.items() -/
def iItm (f : EF) : LF := fun env M => (f env M).bindL fun d M1 => match d with
  | .dT kvs => .ok (itemsT kvs) M1
  | .dK kvs => .ok (itemsK kvs) M1
  | _ => .stuck
theorem si_items {elts : List Expr} {kk : Nat} {tpos apos cpos : Pos} (h : SE X W e f) (hb : attributeBase e "items" X.env (eval e X.env) = eval e X.env := by rfl) (hl : (apos.endLine == cpos.line) = true := by rfl) :
    SI X W true (.Tuple elts kk tpos) (.Call (.Attribute e "items" apos) [] [] cpos) (iItm f) := PI.imp (PI.or (pi_items (pe_lk h) hb hl) (pi_itemsT (pe_lk h) hb hl)) fun σ H R ⟨N0, F, Ad, M, env, m, en, r⟩ => by
  unfold iItm at r
  cases q : f env M with
  | ok d M1 =>
    rw [q, MP.R.bindL_ok] at r
    have lift : ∀ P : V → Hp → Prop, (∀ v F1 Ad1 H1, Gr F Ad H F1 Ad1 H1 → MemOk X.K F1 Ad1 M1 H1 → Den X.K F1 Ad1 v d → P v H1) → tG X.K W (DE X.K) f σ H P := fun P hP =>
      ⟨N0, F, Ad, M, env, m, en, by rw [q]; exact hP⟩
    cases d with
    | dT xs =>
      refine .inr (lift _ fun v F1 Ad1 H1 g1 m1 x1 => ?_)
      cases x1 with
      | dT h r1 => exact lk_den (Q := fun x H1 => ∃ d o kvs, x = .ref d ∧ H1 d = some (.frz o (.dT kvs)) ∧ R (ItiT d o kvs) H1) rfl m1 h fun od F2 H2 g2 m2 h2 => ⟨_, _, _, rfl, m2.sub _ _ h2, r _ [] F2 Ad1 H2 (g1.trans g2) m2 (it_iT h2 (r1.mono g2.fle fun _ _ h => h)) (fun _ z => nomatch z) (fun _ z => nomatch z) fun _ => rfl⟩
    | dK xs =>
      refine .inl (lift _ fun v F1 Ad1 H1 g1 m1 x1 => ?_)
      cases x1 with
      | dK h r1 => exact lk_den (Q := fun x H1 => ∃ d o kvs, x = .ref d ∧ H1 d = some (.frz o (.dK kvs)) ∧ R (Iti d o kvs) H1) rfl m1 h fun od F2 H2 g2 m2 h2 => ⟨_, _, _, rfl, m2.sub _ _ h2, r _ [] F2 Ad1 H2 (g1.trans g2) m2 (it_iK h2 (r1.mono g2.fle fun _ _ h => h)) (fun _ z => nomatch z) (fun _ z => nomatch z) fun _ => rfl⟩
    | _ => exact r.elim
  | exc x M1 => rw [q] at r; exact .inl ⟨N0, F, Ad, M, env, m, en, by rw [q]; exact r⟩
  | stuck => rw [q] at r; exact r.elim
/-- enumerate of such -/
def iEnu (f : EF) : LF := fun env M => (f env M).bindL fun d M1 => match d with
  | .lst xs => .ok (enumD xs) M1
  | .tup xs => .ok (enumD xs) M1
  | .ktp xs => .ok (enumD xs) M1
  | _ => .stuck
theorem sl_one {DR : DRel} {g : EF} (h : PE X e (tG X.K W DR g)) (hs : starEach [e] X.env = [(false, eval e X.env)]) : PA X [e] (fun σ H Q => tG X.K W DR g σ H fun x H1 => Q [x] H1) := pa_cons h pa_nil hs
theorem si_enu {elts : List Expr} {kk : Nat} {tpos : Pos} (h : SE X W e f) (hg : Gl X "enumerate") (hm : X.mg "enumerate" = none) (hs : starEach [e] X.env = [(false, eval e X.env)] := by rfl) :
    SI X W true (.Tuple elts kk tpos) (.Call (.Name "enumerate" p) [e] [] pos) (iEnu f) := PI.imp (PI.or (pi_enum hg hm (sl_one h hs) hs) (pi_enumT hg hm (sl_one h hs) hs)) fun σ H R ⟨N0, F, Ad, M, env, m, en, r⟩ => by
  unfold iEnu at r
  cases q : f env M with
  | ok d M1 =>
    rw [q, MP.R.bindL_ok] at r
    have lift : ∀ P : V → Hp → Prop, (∀ v F1 Ad1 H1, Gr F Ad H F1 Ad1 H1 → MemOk X.K F1 Ad1 M1 H1 → Den X.K F1 Ad1 v d → P v H1) → tG X.K W (DE X.K) f σ H P := fun P hP =>
      ⟨N0, F, Ad, M, env, m, en, by rw [q]; exact hP⟩
    cases d with
    | lst xs =>
      refine .inl (lift _ fun v F1 Ad1 H1 g1 m1 x1 => ?_)
      cases x1 with
      | lst h r1 => exact ⟨_, _, rfl, SqL.of (m1.sub _ _ h), r _ [] F1 Ad1 H1 g1 m1 (it_e (atL_lst h r1)) (fun _ z => nomatch z) (fun _ z => nomatch z) fun _ => rfl⟩
    | tup xs =>
      refine .inr (lift _ fun v F1 Ad1 H1 g1 m1 x1 => ?_)
      cases x1 with
      | tup h r1 => exact ⟨_, _, rfl, SqT.of (m1.sub _ _ h), r _ [] F1 Ad1 H1 g1 m1 (it_et (atT_tup h r1)) (fun _ z => nomatch z) (fun _ z => nomatch z) fun _ => rfl⟩
    | ktp xs =>
      refine .inr (lift _ fun v F1 Ad1 H1 g1 m1 x1 => ?_)
      cases x1 with
      | ktp h r1 => exact ⟨_, _, rfl, sqT_sub m1 h, r _ [] F1 Ad1 H1 g1 m1 (it_et (atT_ktp h r1)) (fun _ z => nomatch z) (fun _ z => nomatch z) fun _ => rfl⟩
    | _ => exact r.elim
  | exc x M1 => rw [q] at r; exact .inl ⟨N0, F, Ad, M, env, m, en, by rw [q]; exact r⟩
  | stuck => rw [q] at r; exact r.elim
/-- range -/
def inR (i : Int) : Prop := i.natAbs / 1152921504606846976 = 0
theorem inR.b {i : Int} (h : inR i) : -(2 ^ 62) ≤ i ∧ i < 2 ^ 62 := by
  have h1 : i.natAbs < 1152921504606846976 := (Nat.div_eq_zero_iff_lt (by decide)).mp h
  have e : (2 : Int) ^ 62 = 4611686018427387904 := by decide
  rw [e]; omega
instance {i : Int} : Decidable (inR i) := by unfold inR; exact inferInstance
def iRng1 (a : EF) : LF := fun env M => (a env M).bindL fun d M1 => match d with
  | .int j => if inR j then .ok (rngD 0 j.toNat) M1 else .stuck
  | _ => .stuck
def iRng2 (a b : EF) : LF := fun env M => (a env M).bindL fun d M1 => (b env M1).bindL fun d2 M2 => match d, d2 with
  | .int i, .int j => if inR i ∧ inR j then .ok (rngD i (j - i).toNat) M2 else .stuck
  | _, _ => .stuck
theorem si_rng1 {a : Expr} (h : SE X W a f) (hg : Gl X "range") (hm : X.mg "range" = none) (hs : starEach [a] X.env = [(false, eval a X.env)] := by rfl) : SI X W true tg (.Call (.Name "range" p) [a] [] pos) (iRng1 f) :=
  PI.imp (pi_range1 hg hm (sl_one h hs) hs) fun σ H Rr ⟨N0, F, Ad, M, env, m, en, r⟩ => by
    unfold iRng1 at r
    refine ⟨N0, F, Ad, M, env, m, en, ?_⟩
    cases q : f env M with
    | ok d M1 =>
      rw [q, MP.R.bindL_ok] at r
      intro v F1 Ad1 H1 g1 m1 x1
      cases d with
      | int j =>
        cases x1
        by_cases hj : inR j
        · dsimp only at r; rw [if_pos hj] at r
          exact ⟨j, rfl, hj.b.1, hj.b.2, r _ [] F1 Ad1 H1 g1 m1 it_r (fun _ z => nomatch z) (fun _ z => nomatch z) fun _ => rfl⟩
        · dsimp only at r; rw [if_neg hj] at r; exact r.elim
      | _ => exact r.elim
    | exc x M1 => rw [q] at r; exact r
    | stuck => rw [q] at r; exact r
theorem si_rng2 {a b : Expr} (h : SE X W a f) (h' : SE X W b f') (hg : Gl X "range") (hm : X.mg "range" = none) (hs : starEach [a, b] X.env = [(false, eval a X.env), (false, eval b X.env)] := by rfl) (hs2 : starEach [b] X.env = [(false, eval b X.env)] := by rfl) :
    SI X W true tg (.Call (.Name "range" p) [a, b] [] pos) (iRng2 f f') :=
  PI.imp (pi_range2 hg hm (pa_cons h (sl_one h' hs2) (by rw [hs, hs2])) hs hs2) fun σ H Rr ⟨N0, F, Ad, M, env, m, en, r⟩ => by
    unfold iRng2 at r
    refine ⟨N0, F, Ad, M, env, m, en, ?_⟩
    cases q : f env M with
    | ok d M1 =>
      rw [q, MP.R.bindL_ok] at r
      intro v F1 Ad1 H1 g1 m1 x1
      refine ⟨N0, F1, Ad1, M1, env, m1, en.gr g1, ?_⟩
      cases q2 : f' env M1 with
      | ok d2 M2 =>
        rw [q2, MP.R.bindL_ok] at r
        intro v2 F2 Ad2 H2 g2 m2 x2
        cases d with
        | int i => cases d2 with
          | int j =>
            cases x1; cases x2
            by_cases hj : inR i ∧ inR j
            · dsimp only at r; rw [if_pos hj] at r
              exact ⟨i, j, rfl, ⟨hj.1.b.1, hj.1.b.2, hj.2.b.1, hj.2.b.2⟩, r _ [] F2 Ad2 H2 (g1.trans g2) m2 it_r (fun _ z => nomatch z) (fun _ z => nomatch z) fun _ => rfl⟩
            · dsimp only at r; rw [if_neg hj] at r; exact r.elim
          | _ => exact r.elim
        | _ => exact r.elim
      | exc x M2 => rw [q2] at r; exact fun cls dx F' Ad' H' g m' z => r cls dx F' Ad' H' (g1.trans g) m' z
      | stuck => rw [q2] at r; exact r
    | exc x M1 => rw [q] at r; exact r
    | stuck => rw [q] at r; exact r

/-! ### targets -/
def gN (j : Nat) (d : D) (env : EnvM) : Option EnvM := match env[j]? with
  | some (.slf _) => none
  | some _ => some (env.set j (.shr d))
  | none => none
def gAll : List Nat → List D → EnvM → Option EnvM
  | [], [], env => some env
  | j :: js, d :: ds, env => (gN j d env).bind (gAll js ds)
  | _, _, _ => none
def gT (js : List Nat) (d : D) (env : EnvM) : Option EnvM := match d with
  | .tup ds => gAll js ds env
  | _ => none
theorem EnvOk.set {j : Nat} {v : V} {d : D} {env' : EnvM} (en : EnvOk K N0 F Ad H σ env) (x : Den K F Ad v d) (h : gN j d env = some env') : EnvOk K N0 F Ad H (σ.set j (some v)) env' := by
  have hlt : j < env.length ∧ env' = env.set j (.shr d) ∧ ∀ e, env[j]? ≠ some (.slf e) := by
    unfold gN at h
    split at h
    · cases h
    · rename_i b hb hn
      cases h
      exact ⟨(List.getElem?_eq_some_iff.mp hn).1, rfl, fun e z => hb e (by rw [hn] at z; exact Option.some.inj z)⟩
    · cases h
  obtain ⟨hl, rfl, hns⟩ := hlt
  refine ⟨by simp [en.len], fun i d' hi => ?_, fun i d' hi => ?_, fun i k d1 d2 a h1 h2 h3 h4 => ?_, fun i d' hi => ?_⟩
  · by_cases e : j = i
    · subst e
      rw [List.getElem?_set_self hl] at hi; cases hi
      exact ⟨v, by rw [List.getElem?_set_self (by rw [← en.len]; exact hl)], x⟩
    · rw [List.getElem?_set_ne e] at hi ⊢; exact en.shr i d' hi
  · by_cases e : j = i
    · subst e; rw [List.getElem?_set_self hl] at hi; cases hi
    · rw [List.getElem?_set_ne e] at hi ⊢; exact en.own i d' hi
  · have e1 : j ≠ i := fun e => by subst e; rw [List.getElem?_set_self hl] at h1; cases h1
    have e2 : j ≠ k := fun e => by subst e; rw [List.getElem?_set_self hl] at h2; cases h2
    rw [List.getElem?_set_ne e1] at h1 h3
    rw [List.getElem?_set_ne e2] at h2 h4
    exact en.dis i k d1 d2 a h1 h2 h3 h4
  · have e : j ≠ i := fun e => by subst e; rw [List.getElem?_set_self hl] at hi; cases hi
    rw [List.getElem?_set_ne e] at hi ⊢
    obtain ⟨h0, h1, h2, h3, h4, h5, h6⟩ := en.slf i d' hi
    refine ⟨h0, h1, h2, h3, h4, h5, fun k d2 hk => ?_⟩
    have e2 : j ≠ k := fun e => by subst e; rw [List.getElem?_set_self hl] at hk; cases hk
    rw [List.getElem?_set_ne e2] at hk ⊢
    exact h6 k d2 hk
theorem wipe_set {σ : St} {j : Nat} {v : Option V} : ∀ {vs : List Nat}, j ∈ vs → wipe (σ.set j v) vs = wipe σ vs
  | k :: vs, h => by
    unfold wipe
    by_cases e : j ∈ vs
    · rw [wipe_set e]
    · have ek : j = k := by simpa [e] using h
      subst ek
      have key : ∀ ws : List Nat, j ∉ ws → wipe (σ.set j v) ws = (wipe σ ws).set j v := by
        intro ws
        induction ws with
        | nil => intro _; rfl
        | cons w ws ih =>
          intro hn
          simp only [List.mem_cons, not_or] at hn
          unfold wipe
          rw [ih hn.2, List.set_comm _ _ hn.1]
      rw [key vs e, List.set_set]
/-- a target: gd over data; js its slots -/
structure TgOk (K : PySem.W.Frag) (js : List Nat) (gd : D → EnvM → Option EnvM) (g : TG) : Prop where
  ok : ∀ (N0 : Ent) (F : Hp) Ad M H σ env v d env' (Q : St → Hp → Prop), MemOk K F Ad M H → EnvOk K N0 F Ad H σ env → Den K F Ad v d → gd d env = some env' → (∀ σ', EnvOk K N0 F Ad H σ' env' → (∀ vs, (∀ j ∈ js, j ∈ vs) → wipe σ' vs = wipe σ vs) → Q σ' H) → g v σ H Q
theorem tg_n {j : Nat} : TgOk K [j] (gN j) (gName j) := ⟨fun N0 F Ad M H σ env v d env' Q m en x h q => q _ (en.set x h) fun vs hv => wipe_set (hv j (by simp))⟩
/-- several names -/
structure TgsOk (K : PySem.W.Frag) (js : List Nat) (g : TGs) : Prop where
  ok : ∀ (N0 : Ent) (F : Hp) Ad M H σ env vs ds env' (Q : St → Hp → Prop), MemOk K F Ad M H → EnvOk K N0 F Ad H σ env → DenL K F Ad vs ds → gAll js ds env = some env' → (∀ σ', EnvOk K N0 F Ad H σ' env' → (∀ us, (∀ j ∈ js, j ∈ us) → wipe σ' us = wipe σ us) → Q σ' H) → g vs σ H Q
theorem tgs_nil : TgsOk K [] gNil := ⟨fun N0 F Ad M H σ env vs ds env' Q m en x h q => by
  cases x with
  | nil => simp [gAll] at h; subst h; exact ⟨rfl, q σ en fun _ _ => rfl⟩
  | cons _ _ => simp [gAll] at h⟩
theorem tgs_cons {j : Nat} {js : List Nat} {g : TGs} (r : TgsOk K js g) : TgsOk K (j :: js) (gCons (gName j) g) := ⟨fun N0 F Ad M H σ env vs ds env' Q m en x h q => by
  cases x with
  | nil => simp [gAll] at h
  | @cons v d vs ds x1 x2 =>
    simp only [gAll, Option.bind_eq_some_iff] at h
    obtain ⟨env1, h1, h2⟩ := h
    refine ⟨v, vs, rfl, ?_⟩
    refine r.ok N0 F Ad M H _ env1 vs ds env' Q m (en.set x1 h1) x2 h2 fun σ' en' hw => q σ' en' fun us hu => ?_
    rw [hw us fun k hk => hu k (List.mem_cons_of_mem _ hk), wipe_set (hu j (by simp))]⟩
theorem tg_t {js : List Nat} {g : TGs} {n : Nat} (r : TgsOk K js g) (hn : js.length = n) : TgOk K js (gT js) (gTup K n g) := ⟨fun N0 F Ad M H σ env v d env' Q m en x h q => by
  unfold gT at h
  split at h
  · rename_i ds
    cases x with
    | tup h1 h2 =>
      refine ⟨_, _, rfl, SqT.of (m.sub _ _ h1), ?_, r.ok N0 F Ad M H σ env _ ds env' Q m en h2 h q⟩
      rw [h2.length, ← hn]
      have key : ∀ (js : List Nat) (ds : List D) (env : EnvM), gAll js ds env = some env' → ds.length = js.length := by
        intro js
        induction js with
        | nil => intro ds env h; cases ds with
          | nil => rfl
          | cons _ _ => simp [gAll] at h
        | cons j js ih => intro ds env h; cases ds with
          | nil => simp [gAll] at h
          | cons d ds =>
            simp only [gAll, Option.bind_eq_some_iff] at h
            obtain ⟨env1, h1, h2⟩ := h
            simp [ih ds env1 h2]
      exact key js ds env h
  · cases h⟩
end
end MP

set_option maxRecDepth 100000
set_option maxHeartbeats 1000000
namespace MP
open PySem PySem.Spec PyProof.Rows L2
/-! ### list comprehensions -/
def wipeE (env : EnvM) : List Nat → EnvM
  | [] => env
  | v :: vs => (wipeE env vs).set v .no
def compL (gd : D → EnvM → Option EnvM) (ft fe : EF) (env0 : EnvM) : List D → List D → List D → R
  | [], acc, M => .ok (.lst acc) M
  | d :: ds, acc, M => match gd d env0 with
    | none => .stuck
    | some env1 => match ft env1 M with
      | .ok (.bl true) M1 => (match fe env1 M1 with
        | .ok y M2 => if acc.length < sizeLine then compL gd ft fe env0 ds (acc ++ [y]) M2 else .stuck
        | _ => .stuck)
      | .ok (.bl false) M1 => compL gd ft fe env0 ds acc M1
      | _ => .stuck
def eComp (l : LF) (gd : D → EnvM → Option EnvM) (ft fe : EF) (vs : List Nat) : EF := fun env M => (l env M).bind fun ds M1 => compL gd ft fe (wipeE env vs) ds [] M1
/-- the tests of a comprehension -/
abbrev STs (X : Cx) (W : WX) (ifs : List Expr) (f : EF) : Prop := PTs X ifs (tT X.K W f)
section
variable {X : Cx} {W : WX} {K : PySem.W.Frag} {N0 : Ent} {F H : Hp} {Ad : List Addr} {M : List D} {env : EnvM} {σ : St} {e : Expr} {f : EF}
theorem PTs.imp {es : List Expr} {t u : TT} (h : PTs X es t) (i : ∀ σ H Q, u σ H Q → t σ H Q) : PTs X es u := ⟨fun pins s σ H Q I q => h.run pins s σ H Q I (i σ H Q q)⟩
theorem sts_nil : STs X W [] (eC (.bl true)) := PTs.imp pts_nil fun σ H Q ⟨N0, F, Ad, M, env, m, en, r⟩ => RPT.here (b := true) r m
theorem sts_one (h : ST X W e f) : STs X W [e] f := pts_one h
theorem EnvOk.wipe1 {j : Nat} (en : EnvOk K N0 F Ad H σ env) : EnvOk K N0 F Ad H (σ.set j none) (env.set j .no) := by
  have hno : ∀ {i : Nat} {b : B}, (env.set j .no)[i]? = some b → b ≠ .no → j ≠ i ∧ env[i]? = some b := fun {i b} h hb => by
    by_cases e : j = i
    · subst e
      by_cases hl : j < env.length
      · rw [List.getElem?_set_self hl] at h; cases h; exact absurd rfl hb
      · rw [List.getElem?_eq_none (by simp; omega)] at h; cases h
    · rw [List.getElem?_set_ne e] at h; exact ⟨e, h⟩
  refine ⟨by simp [en.len], fun i d hi => ?_, fun i d hi => ?_, fun i k d1 d2 a h1 h2 h3 h4 => ?_, fun i d hi => ?_⟩
  · obtain ⟨e, h⟩ := hno hi (fun z => nomatch z)
    rw [List.getElem?_set_ne e]; exact en.shr i d h
  · obtain ⟨e, h⟩ := hno hi (fun z => nomatch z)
    rw [List.getElem?_set_ne e]; exact en.own i d h
  · obtain ⟨e, h⟩ := hno h1 (fun z => nomatch z)
    obtain ⟨e', h'⟩ := hno h2 (fun z => nomatch z)
    rw [List.getElem?_set_ne e] at h3
    rw [List.getElem?_set_ne e'] at h4
    exact en.dis i k d1 d2 a h h' h3 h4
  · obtain ⟨e, h⟩ := hno hi (fun z => nomatch z)
    rw [List.getElem?_set_ne e]
    obtain ⟨h0, h1, h2, h3, h4, h5, h6⟩ := en.slf i d h
    refine ⟨h0, h1, h2, h3, h4, h5, fun k d2 hk => ?_⟩
    obtain ⟨e', h'⟩ := hno hk (fun z => nomatch z)
    rw [List.getElem?_set_ne e']
    exact h6 k d2 h'
theorem EnvOk.wipe (en : EnvOk K N0 F Ad H σ env) : ∀ vs : List Nat, EnvOk K N0 F Ad H (L2.wipe σ vs) (wipeE env vs)
  | [] => en
  | v :: vs => (en.wipe vs).wipe1
theorem Gr.pre' {F' H' : Hp} {Ad' : List Addr} (g : Gr F Ad H F' Ad' H') : Pre Ad Ad' := g.pre
theorem KsOk.gr {F' H' : Hp} {Ad' : List Addr} {ks : List (Addr × HO)} (g : Gr F Ad H F' Ad' H') (k : KsOk ks H) (n : ∀ k ∈ ks, F k.1 = none ∧ k.1 ∉ Ad ∧ RootO k.2) : KsOk ks H' := fun q hq => g.keep q.1 q.2 (k q hq) (n q hq).2.2 (n q hq).1 (n q hq).2.1
/-- the comprehension's reading -/
theorem lc_read {Wb : WX} {gd : D → EnvM → Option EnvM} {g : TG} {l : LF} {ft fe : EF} {js vs : List Nat} (tg : TgOk K js gd g) (hj : ∀ j ∈ js, j ∈ vs) {Q : VK} (h : tG K W (DO K) (eComp l gd ft fe vs) σ H Q) :
    tLc (tI K W false l) g (tT K WN ft) (tG K WN (DE K) fe) vs σ H Q := by
  obtain ⟨N0, F, Ad, M, env, m, en, r⟩ := h
  refine ⟨N0, F, Ad, M, env, m, en, ?_⟩
  unfold eComp at r
  cases ql : l env M with
  | exc x M1 => rw [ql] at r; exact r
  | stuck => rw [ql] at r; exact r
  | ok ds M1 =>
    rw [ql, RL.bind_ok] at r
    intro J ks F1 Ad1 H1 g1 m1 it k1 k2 _ D hD
    have en1 := en.gr g1
    -- the invariant
    let Inv' : Nat → Hp → Prop := fun i H2 => i ≤ ds.length ∧ ∃ F2 Ad2 M2 vacc acc, Gr F1 Ad1 H1 F2 Ad2 H2 ∧ MemOk K F2 Ad2 M2 H2 ∧ F2 D = none ∧ D ∉ Ad2 ∧ H2 D = some (.lst vacc) ∧ DenL K F2 Ad2 vacc acc ∧
      RP K (fun c d H => W c d σ H) (DO K) F Ad H Q (compL gd ft fe (wipeE env vs) (ds.drop i) acc M2)
    refine ⟨fun i mm H2 => mm = ds.length - i ∧ Inv' i H2, ⟨_, rfl, Nat.zero_le _, F1, Ad1, M1, [], [], gr_own hD, mem_own m1 hD, m1.none hD, m1.notin hD, upd_same, .nil, by simpa using r⟩, ?_⟩
    rintro i mm H2 ⟨rfl, hi, F2, Ad2, M2, vacc, acc, g2, m2, nF, nA, hH, da, r2⟩
    have kk := KsOk.gr g2 k1 k2
    by_cases hlt : i < ds.length
    · right
      refine ⟨it.go i F2 Ad2 M2 H2 hlt g2.fle g2.pre m2 kk, fun H' => Inv' (i + 1) H', fun H' h' => ⟨_, by omega, rfl, h'⟩, fun x H3 hy => ?_⟩
      obtain ⟨d, F3, hd, g3, m3, x3⟩ := it.yld i F2 Ad2 M2 H2 x H3 hlt g2.fle g2.pre m2 kk hy
      have hdrop : ds.drop i = d :: ds.drop (i + 1) := by
        rw [List.drop_eq_getElem_cons hlt]
        rw [List.getElem?_eq_getElem hlt] at hd
        cases hd; rfl
      rw [hdrop] at r2
      unfold compL at r2
      cases hg : gd d (wipeE env vs) with
      | none => rw [hg] at r2; exact r2.elim
      | some env1 =>
        rw [hg] at r2
        dsimp only at r2
        have g23 := g2.trans g3
        have enw : EnvOk K N0 F3 Ad2 H3 (L2.wipe σ vs) (wipeE env vs) := (en1.gr g23).wipe vs
        refine tg.ok N0 F3 Ad2 M2 H3 _ _ x d env1 _ m3 enw x3 hg fun σ' en' hw => ⟨?_, ?_⟩
        · have hwv := hw vs hj
          rw [hwv]
          have ww : ∀ ws : List Nat, (∀ w ∈ ws, w ∈ vs) → L2.wipe (L2.wipe σ vs) ws = L2.wipe σ vs := by
            intro ws
            induction ws with
            | nil => intro _; rfl
            | cons w ws ih =>
              intro hws
              show (L2.wipe (L2.wipe σ vs) ws).set w none = _
              rw [ih fun z hz => hws z (List.mem_cons_of_mem _ hz)]
              have hwm := hws w (by simp)
              have wn : ∀ us : List Nat, w ∈ us → (L2.wipe σ us).set w none = L2.wipe σ us := by
                intro us
                induction us with
                | nil => intro h; cases h
                | cons u us ih2 =>
                  intro h
                  show ((L2.wipe σ us).set u none).set w none = (L2.wipe σ us).set u none
                  by_cases e : w = u
                  · subst e; rw [List.set_set]
                  · rw [List.set_comm _ _ (fun z => e z.symm), ih2 (by simpa [e] using h)]
              exact wn vs hwm
          exact ww vs fun _ h => h
        · refine ⟨N0, F3, Ad2, M2, env1, m3, en', ?_⟩
          have hDH : ∀ {F4 Ad4 H4}, Gr F3 Ad2 H3 F4 Ad4 H4 → H4 D = some (.lst vacc) ∧ F4 D = none ∧ D ∉ Ad4 := fun {F4 Ad4 H4} g4 => by
            have e3 : H3 D = some (.lst vacc) := g3.keep D _ hH trivial nF nA
            have n3 : F3 D = none := g3.fnew D _ hH trivial nF nA
            exact ⟨g4.keep D _ e3 trivial n3 nA, g4.fnew D _ e3 trivial n3 nA, g4.notin (by rw [e3]; simp) nA⟩
          cases ht : ft env1 M2 with
          | exc x M3 => rw [ht] at r2; exact r2.elim
          | stuck => rw [ht] at r2; exact r2.elim
          | ok b M3 =>
            rw [ht] at r2
            cases b with
            | bl b =>
              intro F4 Ad4 H4 g4 m4
              have en4 := en'.gr g4
              cases b with
              | true =>
                dsimp only at r2
                rw [if_pos rfl]
                refine ⟨N0, F4, Ad4, M3, env1, m4, en4, ?_⟩
                cases he : fe env1 M3 with
                | exc x M5 => rw [he] at r2; exact r2.elim
                | stuck => rw [he] at r2; exact r2.elim
                | ok y M5 =>
                  rw [he] at r2
                  dsimp only at r2
                  intro v F5 Ad5 H5 g5 m5 x5
                  have g35 := g4.trans g5
                  obtain ⟨hD5, nF5, nA5⟩ := hDH g35
                  split at r2
                  · rename_i hsz
                    have g25 := g23.trans g35
                    have g_acc := g3.trans g35
                    have da5 := da.mono g_acc.fle g_acc.pre
                    have ap := da5.append (.cons x5 .nil)
                    refine ⟨vacc, hD5, by rw [da.length]; exact hsz, by omega, F5, Ad5, M5, _, acc ++ [y], ?_, ?_, nF5, nA5, upd_same, ap, r2⟩
                    · refine ⟨g25.fle, g25.fnew, g25.apre, fun a o ha ro hf hn => ?_, fun a ha => ?_⟩
                      · rw [upd_ne (fun e => by rw [e, hD] at ha; cases ha)]; exact g25.keep a o ha ro hf hn
                      · rw [upd_ne (fun e => ha (by rw [e]; exact hD))]; exact g25.alive a ha
                    · refine ⟨fun a u h => ?_, m5.len, m5.nd, fun n a d' h1 h2 => ?_⟩
                      · rw [upd_ne (fun e => by rw [e, nF5] at h; cases h)]; exact m5.sub a u h
                      · obtain ⟨z1, z2⟩ := m5.cel n a d' h1 h2
                        exact ⟨z1, z2.mono (FLe.refl _) (fun _ _ h => h) (by rw [upd_ne (fun e => nA5 (by rw [← e]; exact List.mem_of_getElem? h1))])⟩
                  · exact r2.elim
              | false =>
                dsimp only at r2
                rw [if_neg (by decide)]
                obtain ⟨hD4, nF4, nA4⟩ := hDH g4
                have g24 := g3.trans g4
                exact ⟨by omega, F4, Ad4, M3, vacc, acc, g2.trans g24, m4, nF4, nA4, hD4, da.mono g24.fle g24.pre, r2⟩
            | _ => exact r2.elim
    · left
      have hi2 : i = ds.length := by omega
      subst hi2
      refine ⟨it.stop F2 Ad2 M2 H2 g2.fle g2.pre m2 kk, ?_⟩
      rw [List.drop_length] at r2
      have hD0 : H D = none := by
        cases qq : H D with
        | none => rfl
        | some o => exact absurd hD (g1.alive D (by rw [qq]; simp))
      exact r2 (.ref D) F2 Ad2 H2 (g1.trans g2) m2 ⟨D, rfl, nF, nA, hD0, .lst hH da⟩
theorem so_lc {elt tg iter : Expr} {ifs : List Expr} {scope : Scope} {own : List (Str × Nat)} {pos : Pos} {gd : D → EnvM → Option EnvM} {g : TG} {l : LF} {ft fe : EF} {js : List Nat} (hc : X.calm = true) (hN : X.N.Nodup) (hi : SI X W false tg iter l) (ok : BlkOk X.N X.env.scope scope own)
    (tgo : TgOk X.K js gd g) (hj : ∀ j ∈ js, j ∈ own.map (·.2))
    (hg : ∀ (s : Shared) (H : Hp) (C : Addr) (cl : List (Str × Addr)) (fp : List Addr), PG (X.blk s H scope (compEnvC scope cl C X.env) fp) tg g) (ht : ∀ (s : Shared) (H : Hp) (C : Addr) (cl : List (Str × Addr)) (fp : List Addr), STs (X.blk s H scope (compEnvC scope cl C X.env) fp) WN ifs ft)
    (he : ∀ (s : Shared) (H : Hp) (C : Addr) (cl : List (Str × Addr)) (fp : List Addr), SE (X.blk s H scope (compEnvC scope cl C X.env) fp) WN elt fe) (hs : ∀ x, foldedSetIterable iter X.env x = pure x := by intro _; rfl) :
    SO X W (.ListComp elt [⟨tg, iter, ifs, 0⟩] scope pos) (eComp l gd ft fe (own.map (·.2))) :=
  PE.imp (pe_lc hc hN hi ok hg ht he hs) fun σ H Q h => lc_read (Wb := WN) tgo hj h
end
end MP

set_option maxRecDepth 100000
set_option maxHeartbeats 1000000
namespace MP
open PySem PySem.Spec PyProof.Rows L2
/-! ### {k: v for ..}, the keys tuples -/
theorem dictSetT {X : Cx} {pins : List (Addr × Obj)} {σ : St} {H : Hp} {s : Shared} {E : Value → Shared → Prop} {a b : Addr} {kvs : List (List Key × V)} {ks : List Key} {y : V} {r : Value} {Q : Unit → Shared → Prop} (hu : X.A.units + 1 < cLine) (I : Inv X pins σ H s)
    (ha : H a = some (.dT kvs)) (hz : kvs.length < sizeLine) (hb : H b = some (.tup (ks.map kV))) (ry : RelV y r) (h : ∀ s', Inv X pins σ (upd H a (.dT (putK kvs ks y))) s' → Q () s') : wpAny (model X.prog X.w) X.A (dictSet a (.ref b) r) Q E s := by
  obtain ⟨z, hd, xs, rel, dd⟩ := dt_of I.hok ha
  have l1 : xs.length ≤ sizeLine := by rw [← Paired.length rel]; exact z
  have l2 := length_putK kvs ks y
  refine wpAny_dictSet_heap (hsz := l1) (show (tupleKind (mixKind X.prog X.w)).room X.A from Nat.lt_of_succ_lt hu) (key_of I.hok hb) dd fun h1 d1 sb => h _ ?_
  obtain ⟨q, es, ep, e1, e2, e3, e4, _, e5⟩ := d1
  exact d_write I (by rw [ha]; exact trivial) sb ⟨q, e1⟩ ⟨by omega, hd, _, (rel.put ks hb ry).keeps fun c ys ec => by rw [upd_ne (ne_of ec ha fun w => nomatch w)]; exact ec, q, es, ep, e1, e2, e3, e4, e5⟩
/-- the reading: D the new dict -/
def tDcT (wi : TI) (g : TG) (tt : TT) (tk tv : TE) (vs : List Nat) : TE := fun σ H Q => wi σ H fun J H1 => ∀ D, H1 D = none → ∃ W : Nat → Nat → Hp → Prop, (∃ m, W 0 m (upd H1 D (.dT []))) ∧ ∀ i m H, W i m H →
  (J.stop i H ∧ Q (.ref D) H) ∨ (J.go i H ∧ ∃ Nx : Hp → Prop, (∀ H', Nx H' → ∃ m', m' < m ∧ W (i + 1) m' H') ∧ ∀ x H', J.yld i H x H' → g x (wipe σ vs) H' fun σ2 H2 => wipe σ2 vs = wipe σ vs ∧ tt σ2 H2 fun b H3 =>
    if b = true then tk σ2 H3 fun y H4 => tv σ2 H4 fun z H5 => ∃ kvs ks c, y = .ref c ∧ H5 c = some (.tup (ks.map kV)) ∧ H5 D = some (.dT kvs) ∧ kvs.length < sizeLine ∧ Nx (upd H5 D (.dT (putK kvs ks z))) else Nx H3)
section
variable {X : Cx} {kx vx tg iter : Expr} {ifs : List Expr} {scope : Scope} {own : List (Str × Nat)} {pos : Pos} {wi : TI} {g : TG} {tt : TT} {tk tv : TE}
theorem pe_dcT (hu : X.A.units + 1 < cLine) (hc : X.calm = true) (hN : X.N.Nodup) (hi : PI X tg iter wi) (ok : BlkOk X.N X.env.scope scope own)
    (hg : ∀ (s : Shared) (H : Hp) (C : Addr) (cl : List (Str × Addr)) (fp : List Addr), PG (X.blk s H scope (compEnvC scope cl C X.env) fp) tg g)
    (ht : ∀ (s : Shared) (H : Hp) (C : Addr) (cl : List (Str × Addr)) (fp : List Addr), PTs (X.blk s H scope (compEnvC scope cl C X.env) fp) ifs tt)
    (hk : ∀ (s : Shared) (H : Hp) (C : Addr) (cl : List (Str × Addr)) (fp : List Addr), PE (X.blk s H scope (compEnvC scope cl C X.env) fp) kx tk)
    (hv : ∀ (s : Shared) (H : Hp) (C : Addr) (cl : List (Str × Addr)) (fp : List Addr), PE (X.blk s H scope (compEnvC scope cl C X.env) fp) vx tv) (hs : ∀ x, foldedSetIterable iter X.env x = pure x := by intro _; rfl) :
    PE X (.DictComp kx vx [⟨tg, iter, ifs, 0⟩] scope pos) (tDcT wi g tt tk tv (own.map (·.2))) := by
  refine ⟨fun pins s σ H Q I h => ?_⟩
  rw [arm_eval_DictComp]
  have hfr : ∀ y ∈ scope.names, y.2 = .free → ∃ c, X.env.cells.lookup y.1 = some c := fun y hy e => (ok.free y hy e).elim (fun k => I.ok.has _ (.inl k)) fun k => I.ok.has _ (.inr k)
  refine wpAny_comprehension_free (use := none) rfl hs (closure_ok hfr) ok.kind (fun y hy e => by rw [ok.uniq y hy, e]) (thn (hi.run pins s σ H _ I h) fun xv t1 hx => thn hx fun itv t2 k2 => ?_)
  obtain ⟨it, fp, tn, J, H2, rfl, I2, T, st2, f2, q⟩ := k2
  refine wpAny_newObj_type (newEnv_comp ?_)
  generalize eD : t2.heap.objs.size = D
  have nD : H2 D = none := I2.hok.fresh (Nat.le_of_eq eD)
  obtain ⟨W, ⟨m0, w0⟩, turn⟩ := q D nD
  generalize es3 : ({ t2 with heap := t2.heap.push { cls := .type "dict", data := .dict #[] } } : Shared) = t3
  have I3 : Inv X pins σ (upd H2 D (.dT [])) t3 := by
    subst es3
    refine I2.laid (t' := t2.toks) (fun b o e => Heap.get?_push_of_some _ e) (Nat.le_of_eq eD) ?_
    subst eD
    exact dt_empty t2.heap I2.big
  have eh3 : t3.heap = t2.heap.push { cls := .type "dict", data := .dict #[] } := by rw [← es3]
  have f3 : ∀ b ∈ fp, FpOk X pins (upd H2 D (.dT [])) b ∧ b < t3.heap.objs.size := fun b hb => by
    obtain ⟨ob, eo, _⟩ := T.obj _ _ st2 b hb
    have lt := Heap.lt_size eo
    exact ⟨⟨by rw [upd_ne (by rw [← eD]; exact Nat.ne_of_lt lt)]; exact (f2 b hb).1, (f2 b hb).2⟩, by rw [eh3, Heap.size_push]; exact Nat.lt_succ_of_lt lt⟩
  have st3 : tn 0 t3.heap := T.keep _ _ _ st2 fun b _ o e => by rw [eh3]; exact Heap.get?_push_of_some _ e
  have I4 := block_start I3 ok hN f3
  have pg := hg t3 (upd H2 D (.dT [])) t3.heap.objs.size (cellsFrom (t3.heap.objs.size + 1) scope.names (cloFrom X.env.cells scope.names [])) fp
  have pt := ht t3 (upd H2 D (.dT [])) t3.heap.objs.size (cellsFrom (t3.heap.objs.size + 1) scope.names (cloFrom X.env.cells scope.names [])) fp
  have pk := hk t3 (upd H2 D (.dT [])) t3.heap.objs.size (cellsFrom (t3.heap.objs.size + 1) scope.names (cloFrom X.env.cells scope.names [])) fp
  have pv := hv t3 (upd H2 D (.dT [])) t3.heap.objs.size (cellsFrom (t3.heap.objs.size + 1) scope.names (cloFrom X.env.cells scope.names [])) fp
  let RR := compPost (model X.prog X.w) X.A X.xe none (EP X pins σ Q) (.ref D) t3.heap.objs.size
  show codeAny _ _ (.compStart (.DictComp kx vx [⟨tg, iter, ifs, 0⟩] scope pos) 0 (.ref it) (.ref D) (compEnvC scope (cellsFrom (t3.heap.objs.size + 1) scope.names (cloFrom X.env.cells scope.names [])) t3.heap.objs.size X.env)) RR { t3 with heap := pushCells (t3.heap.push { cls := .type "dict", data := .dict #[] }) scope.names }
  have nfp : ∀ b ∈ fp, (upd H2 D (.dT [])) b = none := fun b hb => (f3 b hb).1.1
  generalize ece : compEnvC scope (cellsFrom (t3.heap.objs.size + 1) scope.names (cloFrom X.env.cells scope.names [])) t3.heap.objs.size X.env = ce at I4 pg pt pk pv ⊢
  have cL : ce.locals = t3.heap.objs.size := by subst ece; rfl
  generalize eH3 : upd H2 D (.dT []) = H3 at I3 I4 pg pt pk pv w0 nfp f3
  generalize es4 : ({ t3 with heap := pushCells (t3.heap.push { cls := .type "dict", data := .dict #[] }) scope.names } : Shared) = t4 at I4 ⊢
  have st4 : tn 0 t4.heap := T.keep _ _ _ st3 fun b _ o e => by rw [← es4]; exact pushCells_keeps _ _ _ _ (Heap.get?_push_of_some _ e)
  have stat : ∀ {σ' : St} {H' : Hp} {s' : Shared}, Inv (X.blk t3 H3 scope ce fp) [] σ' H' s' → (∀ b ∈ fp, H' b = none) → ∀ b ∈ fp, FpOk (X.blk t3 H3 scope ce fp) [] H' b := fun {σ' H' s'} I' hn b hb =>
    ⟨hn b hb, (I'.ok.exf b hb).1, I'.ok.exfs b hb, .inl hb, fun x c e => (I'.ok.exf b hb).2 x c e, fun p hp => by cases hp⟩
  have loop : codeAny (model X.prog X.w) X.A (.compLoop (.DictComp kx vx [⟨tg, iter, ifs, 0⟩] scope pos) 0 (.ref it) (.ref D) ce) RR t4 := by
    refine compLoop_anyD (fun n s' => ∃ i H', Inv (X.blk t3 H3 scope ce fp) [] (wipe σ (own.map (·.2))) H' s' ∧ tn i s'.heap ∧ (∀ b ∈ fp, H' b = none) ∧ W i n H') ?_ m0 ⟨0, H3, I4, st4, nfp, w0⟩
    rintro n t5 ⟨i, H5, I5, st5, n5, w5⟩
    rcases turn i n H5 w5 with ⟨stop, qq⟩ | ⟨go, Nx, hNx, step⟩
    · refine thnF (T.done (X.blk t3 H3 scope ce fp) rfl rfl rfl hc i [] t5 _ H5 (fun _ _ => False) I5 (stat I5 n5) st5 stop) fun r t6 ⟨er, I6⟩ => ?_
      subst er
      have I7 : Inv X pins σ H5 t6 := I3.call' (ch := fp) I6.os I6.base I6.hok I6.bare fun b hb => let z := (f3 b hb).1; ⟨z.2.2.2.1, z.2.1, z.2.2.2.2.1, z.2.2.2.2.2⟩
      have nC : H5 t3.heap.objs.size = none := cL ▸ (show H5 ce.locals = none from I6.free)
      obtain ⟨m, hn, _⟩ := I6.loc
      obtain ⟨p0, p1, p2, p3, p4, p5⟩ := I3.fpOk (b := t3.heap.objs.size) (Nat.le_refl _) nC
      exact ⟨m, cL ▸ hn, fun h2 sb => ⟨.ref D, H5, I7.turned (t' := t6.toks) (fun b o hb e => (sb.2 b hb).trans e) p0 p1 p3 p4 p5, rfl, qq⟩⟩
    · refine thnF (T.item (X.blk t3 H3 scope ce fp) rfl rfl rfl hc i [] t5 _ H5 (fun _ _ => False) I5 (stat I5 n5) st5 go) fun r t6 ⟨u, er, k6⟩ => ?_
      subst er
      refine thnF k6 fun _ t7 ⟨x, H7, I7, r7, y7, st7, n7⟩ => ?_
      refine thnF (pg.run _ t7 _ H7 x u _ (I7.pinned (stat I7 n7) (T.obj _ _ st7)) r7 (step x H7 y7)) fun _ t8 ⟨σ8, H8, I8, hw8, q8⟩ => ?_
      refine thnF (pt.run _ t8 σ8 H8 _ I8 q8) fun b t9 ⟨H9, I9, q9⟩ => ?_
      have fin : ∀ {s' : Shared} {H' : Hp}, Inv (X.blk t3 H3 scope ce fp) ([] ++ pinsAt fp t7.heap) σ8 H' s' → Nx H' → ∃ m, m < n ∧ ∃ i H', Inv (X.blk t3 H3 scope ce fp) [] (wipe σ (own.map (·.2))) H' s' ∧ tn i s'.heap ∧ (∀ b ∈ fp, H' b = none) ∧ W i m H' := fun {s' H'} I' nx => by
        obtain ⟨m1, lm, w1⟩ := hNx H' nx
        have pin : ∀ b ∈ fp, ∀ o, t7.heap.get? b = some o → s'.heap.get? b = some o ∧ H' b = none := fun b hb o e => by
          have z := I'.pin (b, o) (List.mem_append_right _ (List.mem_append_right _ (mem_pinsAt hb e)))
          exact ⟨z.1, z.2.1⟩
        refine ⟨m1, lm, i + 1, H', (I'.unpinned (pins := [])).weak (by rw [← hw8, wipe_length]) (fun j v e => (wipe_some (hw8 ▸ e)).1), T.keep _ _ _ st7 fun b hb o e => (pin b hb o e).1, fun b hb => ?_, w1⟩
        obtain ⟨o, e, _⟩ := T.obj _ _ st7 b hb
        exact (pin b hb o e).2
      cases b with
      | false => exact fin I9 q9
      | true =>
        refine thnF (pk.run _ t9 σ8 H9 _ I9 q9) fun z t10 ⟨yk, H10, I10, r10, q10⟩ => ?_
        refine thnF (pv.run _ t10 σ8 H10 _ I10 q10) fun z2 t11 ⟨yv, H11, I11, r11, kvs, ks, c, ek, hc11, hD11, hz11, nx⟩ => ?_
        subst ek
        cases r10
        exact dictSetT (X := X.blk t3 H3 scope ce fp) hu I11 hD11 hz11 hc11 r11 fun t12 I12 => fin I12 nx
  exact codeAny_compStart_dict loop (T.self X.A 0 _ _ _ st4 loop)
end

/-! ### over data -/
def dcompT (gd : D → EnvM → Option EnvM) (ft fk fe : EF) (env0 : EnvM) : List D → List (List Key × D) → List D → R
  | [], acc, M => .ok (.dT acc) M
  | d :: ds, acc, M => match gd d env0 with
    | none => .stuck
    | some env1 => match ft env1 M with
      | .ok (.bl true) M1 => (match fk env1 M1 with
        | .ok (.tup kd) M2 => (match keysD kd with
          | some ks => (match fe env1 M2 with
            | .ok y M3 => if acc.length < sizeLine then dcompT gd ft fk fe env0 ds (insK acc ks y) M3 else .stuck
            | _ => .stuck)
          | none => .stuck)
        | _ => .stuck)
      | .ok (.bl false) M1 => dcompT gd ft fk fe env0 ds acc M1
      | _ => .stuck
def eDcT (l : LF) (gd : D → EnvM → Option EnvM) (ft fk fe : EF) (vs : List Nat) : EF := fun env M => (l env M).bind fun ds M1 => dcompT gd ft fk fe (wipeE env vs) ds [] M1
theorem wipe_wipe {σ : St} (vs : List Nat) : L2.wipe (L2.wipe σ vs) vs = L2.wipe σ vs := by
  have wn : ∀ (w : Nat) (us : List Nat), w ∈ us → (L2.wipe σ us).set w none = L2.wipe σ us := by
    intro w us
    induction us with
    | nil => intro h; cases h
    | cons u us ih2 =>
      intro h
      show ((L2.wipe σ us).set u none).set w none = (L2.wipe σ us).set u none
      by_cases e : w = u
      · subst e; rw [List.set_set]
      · rw [List.set_comm _ _ (fun z => e z.symm), ih2 (by simpa [e] using h)]
  have ww : ∀ ws : List Nat, (∀ w ∈ ws, w ∈ vs) → L2.wipe (L2.wipe σ vs) ws = L2.wipe σ vs := by
    intro ws
    induction ws with
    | nil => intro _; rfl
    | cons w ws ih =>
      intro hws
      show (L2.wipe (L2.wipe σ vs) ws).set w none = _
      rw [ih fun z hz => hws z (List.mem_cons_of_mem _ hz)]
      exact wn w vs (hws w (by simp))
  exact ww vs fun _ h => h
section
variable {X : Cx} {W : WX} {K : PySem.W.Frag} {N0 : Ent} {F F1 H H1 : Hp} {Ad Ad1 : List Addr} {M : List D} {env : EnvM} {σ : St} {e : Expr} {f : EF}
/-- a new own object is written -/
theorem wr_fresh {a : Addr} {o : HO} (g : Gr F Ad H F1 Ad1 H1) (m : MemOk K F1 Ad1 M H1) (h0 : H a = none) (nF : F1 a = none) (nA : a ∉ Ad1) : Gr F Ad H F1 Ad1 (upd H1 a o) ∧ MemOk K F1 Ad1 M (upd H1 a o) := by
  refine ⟨⟨g.fle, g.fnew, g.apre, fun b u hb ro hf hn => ?_, fun b hb => ?_⟩, ⟨fun b u h => ?_, m.len, m.nd, fun n b d' h1 h2 => ?_⟩⟩
  · rw [upd_ne (fun e => by rw [e, h0] at hb; cases hb)]; exact g.keep b u hb ro hf hn
  · rw [upd_ne (fun e => hb (by rw [e]; exact h0))]; exact g.alive b hb
  · rw [upd_ne (fun e => by rw [e, nF] at h; cases h)]; exact m.sub b u h
  · obtain ⟨z1, z2⟩ := m.cel n b d' h1 h2
    exact ⟨z1, z2.mono (FLe.refl _) (fun _ _ h => h) (by rw [upd_ne (fun e => nA (by rw [← e]; exact List.mem_of_getElem? h1))])⟩
theorem tup_of {v : V} {kd : List D} {ks : List Key} (m : MemOk K F Ad M H) (x : Den K F Ad v (.tup kd)) (e : keysD kd = some ks) : ∃ c, v = .ref c ∧ H c = some (.tup (ks.map kV)) ∧ F c = some (.tup (ks.map kV)) := by
  cases x with
  | tup h r =>
    have z := keysD_v r e
    subst z
    exact ⟨_, rfl, m.sub _ _ h, h⟩
theorem dc_read {gd : D → EnvM → Option EnvM} {g : TG} {l : LF} {ft fk fe : EF} {js vs : List Nat} (tg : TgOk K js gd g) (hj : ∀ j ∈ js, j ∈ vs) {Q : VK} (h : tG K W (DO K) (eDcT l gd ft fk fe vs) σ H Q) :
    tDcT (tI K W false l) g (tT K WN ft) (tG K WN (DE K) fk) (tG K WN (DE K) fe) vs σ H Q := by
  obtain ⟨N0, F, Ad, M, env, m, en, r⟩ := h
  refine ⟨N0, F, Ad, M, env, m, en, ?_⟩
  unfold eDcT at r
  cases ql : l env M with
  | exc x M1 => rw [ql] at r; exact r
  | stuck => rw [ql] at r; exact r
  | ok ds M1 =>
    rw [ql, RL.bind_ok] at r
    intro J ks F1 Ad1 H1 g1 m1 it k1 k2 _ D hD
    have en1 := en.gr g1
    let Inv' : Nat → Hp → Prop := fun i H2 => i ≤ ds.length ∧ ∃ F2 Ad2 M2 vacc acc, Gr F1 Ad1 H1 F2 Ad2 H2 ∧ MemOk K F2 Ad2 M2 H2 ∧ F2 D = none ∧ D ∉ Ad2 ∧ H2 D = some (.dT vacc) ∧ DenT K F2 Ad2 vacc acc ∧
      RP K (fun c d H => W c d σ H) (DO K) F Ad H Q (dcompT gd ft fk fe (wipeE env vs) (ds.drop i) acc M2)
    refine ⟨fun i mm H2 => mm = ds.length - i ∧ Inv' i H2, ⟨_, rfl, Nat.zero_le _, F1, Ad1, M1, [], [], gr_own hD, mem_own m1 hD, m1.none hD, m1.notin hD, upd_same, .nil, by simpa using r⟩, ?_⟩
    rintro i mm H2 ⟨rfl, hi, F2, Ad2, M2, vacc, acc, g2, m2, nF, nA, hH, da, r2⟩
    have kk := KsOk.gr g2 k1 k2
    by_cases hlt : i < ds.length
    · right
      refine ⟨it.go i F2 Ad2 M2 H2 hlt g2.fle g2.pre m2 kk, fun H' => Inv' (i + 1) H', fun H' h' => ⟨_, by omega, rfl, h'⟩, fun x H3 hy => ?_⟩
      obtain ⟨d, F3, hd, g3, m3, x3⟩ := it.yld i F2 Ad2 M2 H2 x H3 hlt g2.fle g2.pre m2 kk hy
      have hdrop : ds.drop i = d :: ds.drop (i + 1) := by
        rw [List.drop_eq_getElem_cons hlt]
        rw [List.getElem?_eq_getElem hlt] at hd
        cases hd; rfl
      rw [hdrop] at r2
      unfold dcompT at r2
      cases hg : gd d (wipeE env vs) with
      | none => rw [hg] at r2; exact r2.elim
      | some env1 =>
        rw [hg] at r2
        dsimp only at r2
        have g23 := g2.trans g3
        have enw : EnvOk K N0 F3 Ad2 H3 (L2.wipe σ vs) (wipeE env vs) := (en1.gr g23).wipe vs
        refine tg.ok N0 F3 Ad2 M2 H3 _ _ x d env1 _ m3 enw x3 hg fun σ' en' hw => ⟨by rw [hw vs hj]; exact wipe_wipe vs, ?_⟩
        refine ⟨N0, F3, Ad2, M2, env1, m3, en', ?_⟩
        have hDH : ∀ {F4 Ad4 H4}, Gr F3 Ad2 H3 F4 Ad4 H4 → H4 D = some (.dT vacc) ∧ F4 D = none ∧ D ∉ Ad4 := fun {F4 Ad4 H4} g4 => by
          have e3 : H3 D = some (.dT vacc) := g3.keep D _ hH trivial nF nA
          have n3 : F3 D = none := g3.fnew D _ hH trivial nF nA
          exact ⟨g4.keep D _ e3 trivial n3 nA, g4.fnew D _ e3 trivial n3 nA, g4.notin (by rw [e3]; simp) nA⟩
        cases ht : ft env1 M2 with
        | exc x M3 => rw [ht] at r2; exact r2.elim
        | stuck => rw [ht] at r2; exact r2.elim
        | ok b M3 =>
          rw [ht] at r2
          cases b with
          | bl b =>
            intro F4 Ad4 H4 g4 m4
            have en4 := en'.gr g4
            cases b with
            | true =>
              dsimp only at r2
              rw [if_pos rfl]
              refine ⟨N0, F4, Ad4, M3, env1, m4, en4, ?_⟩
              cases hk : fk env1 M3 with
              | exc x M5 => rw [hk] at r2; exact r2.elim
              | stuck => rw [hk] at r2; exact r2.elim
              | ok kd M5 =>
                rw [hk] at r2
                cases kd with
                | tup kd =>
                  dsimp only at r2
                  cases hks : keysD kd with
                  | none => rw [hks] at r2; exact r2.elim
                  | some ks' =>
                    rw [hks] at r2
                    dsimp only at r2
                    intro v F5 Ad5 H5 g5 m5 x5
                    refine ⟨N0, F5, Ad5, M5, env1, m5, en4.gr g5, ?_⟩
                    obtain ⟨c, ev, ec, eF⟩ := tup_of m5 x5 hks
                    cases he : fe env1 M5 with
                    | exc x M6 => rw [he] at r2; exact r2.elim
                    | stuck => rw [he] at r2; exact r2.elim
                    | ok y M6 =>
                      rw [he] at r2
                      dsimp only at r2
                      intro v6 F6 Ad6 H6 g6 m6 x6
                      have g36 := g4.trans (g5.trans g6)
                      obtain ⟨hD6, nF6, nA6⟩ := hDH g36
                      split at r2
                      · rename_i hsz
                        have gacc := g3.trans g36
                        have da6 := da.mono gacc.fle gacc.pre
                        have cH : H6 c = some (.tup (ks'.map kV)) := m6.sub _ _ (nrm_tup (g6.fle c (.tup _) (by rw [eF]; rfl)))
                        obtain ⟨gw, mw⟩ := wr_fresh (o := .dT (putK vacc ks' v6)) (g23.trans g36) m6 hD nF6 nA6
                        exact ⟨vacc, ks', c, ev, cH, hD6, by rw [da.length]; exact hsz, by omega, F6, Ad6, M6, _, _, gw, mw, nF6, nA6, upd_same, da6.put x6, r2⟩
                      · exact r2.elim
                | _ => exact r2.elim
            | false =>
              dsimp only at r2
              rw [if_neg (by decide)]
              obtain ⟨hD4, nF4, nA4⟩ := hDH g4
              have g24 := g3.trans g4
              exact ⟨by omega, F4, Ad4, M3, vacc, acc, g2.trans g24, m4, nF4, nA4, hD4, da.mono g24.fle g24.pre, r2⟩
          | _ => exact r2.elim
    · left
      have hi2 : i = ds.length := by omega
      subst hi2
      refine ⟨it.stop F2 Ad2 M2 H2 g2.fle g2.pre m2 kk, ?_⟩
      rw [List.drop_length] at r2
      have hD0 : H D = none := by
        cases qq : H D with
        | none => rfl
        | some o => exact absurd hD (g1.alive D (by rw [qq]; simp))
      exact r2 (.ref D) F2 Ad2 H2 (g1.trans g2) m2 ⟨D, rfl, nF, nA, hD0, .dT hH da⟩
theorem so_dcT {kx vx tg iter : Expr} {ifs : List Expr} {scope : Scope} {own : List (Str × Nat)} {pos : Pos} {gd : D → EnvM → Option EnvM} {g : TG} {l : LF} {ft fk fe : EF} {js : List Nat} (hu : X.A.units + 1 < cLine) (hc : X.calm = true) (hN : X.N.Nodup) (hi : SI X W false tg iter l) (ok : BlkOk X.N X.env.scope scope own)
    (tgo : TgOk X.K js gd g) (hj : ∀ j ∈ js, j ∈ own.map (·.2))
    (hg : ∀ (s : Shared) (H : Hp) (C : Addr) (cl : List (Str × Addr)) (fp : List Addr), PG (X.blk s H scope (compEnvC scope cl C X.env) fp) tg g) (ht : ∀ (s : Shared) (H : Hp) (C : Addr) (cl : List (Str × Addr)) (fp : List Addr), STs (X.blk s H scope (compEnvC scope cl C X.env) fp) WN ifs ft)
    (hk : ∀ (s : Shared) (H : Hp) (C : Addr) (cl : List (Str × Addr)) (fp : List Addr), SE (X.blk s H scope (compEnvC scope cl C X.env) fp) WN kx fk)
    (he : ∀ (s : Shared) (H : Hp) (C : Addr) (cl : List (Str × Addr)) (fp : List Addr), SE (X.blk s H scope (compEnvC scope cl C X.env) fp) WN vx fe) (hs : ∀ x, foldedSetIterable iter X.env x = pure x := by intro _; rfl) :
    SO X W (.DictComp kx vx [⟨tg, iter, ifs, 0⟩] scope pos) (eDcT l gd ft fk fe (own.map (·.2))) :=
  PE.imp (pe_dcT hu hc hN hi ok hg ht hk he hs) fun σ H Q h => dc_read tgo hj h
end
end MP

set_option maxRecDepth 100000
set_option maxHeartbeats 1000000
namespace MP
open PySem PySem.Spec PyProof.Rows L2
/-! ### statements -/
abbrev GrE (N0 : Ent) (F : Hp) (Ad : List Addr) (H : Hp) : Prop := Gr N0.fz N0.ad N0.hp F Ad H
def RPS (K : PySem.W.Frag) (W : WX) (DR : DRel) (D : Ends) (N0 : Ent) (F : Hp) (Ad : List Addr) : RS → Prop
  | .next env M => ∀ σ F' Ad' H', GrE N0 F' Ad' H' → FLe F F' → Pre Ad Ad' → MemOk K F' Ad' M H' → EnvOk K N0 F' Ad' H' σ env → D.nx σ H'
  | .ret d M => ∀ v F' Ad' H', GrE N0 F' Ad' H' → MemOk K F' Ad' M H' → DR N0.hp F' Ad' H' v d → D.rt v H'
  | .brk env M => ∀ σ F' Ad' H', GrE N0 F' Ad' H' → FLe F F' → Pre Ad Ad' → MemOk K F' Ad' M H' → EnvOk K N0 F' Ad' H' σ env → D.bk σ H'
  | .cont env M => ∀ σ F' Ad' H', GrE N0 F' Ad' H' → FLe F F' → Pre Ad Ad' → MemOk K F' Ad' M H' → EnvOk K N0 F' Ad' H' σ env → D.ct σ H'
  | .exc x env M => ∀ cls dx σ F' Ad' H', GrE N0 F' Ad' H' → FLe F F' → Pre Ad Ad' → MemOk K F' Ad' M H' → EnvOk K N0 F' Ad' H' σ env → XOk K F' Ad' H' x cls dx → W cls dx σ H'
  | .stuck => False
def tS (K : PySem.W.Frag) (W : WX) (DR : DRel) (b : SF) : TS := fun D σ H => ∃ N0 F Ad M env, GrE N0 F Ad H ∧ MemOk K F Ad M H ∧ EnvOk K N0 F Ad H σ env ∧ RPS K W DR D N0 F Ad (b env M)
abbrev SS (X : Cx) (W : WX) (DR : DRel) (st : Stmt) (b : SF) : Prop := PS X st (tS X.K W DR b)
abbrev SSs (X : Cx) (W : WX) (DR : DRel) (st : List Stmt) (b : SF) : Prop := PSs X st (tS X.K W DR b)
def bSeq (a b : SF) : SF := fun env M => match a env M with
  | .next env M => b env M
  | r => r
def bNext : SF := fun env M => .next env M
section
variable {X : Cx} {W : WX} {K : PySem.W.Frag} {DR : DRel} {D : Ends} {N0 : Ent} {F F1 H H1 : Hp} {Ad Ad1 : List Addr} {M : List MP.D} {env : EnvM} {σ : St} {e tg iter : Expr} {f : EF} {st : Stmt} {rest p q : List Stmt} {b b' : SF} {pos : Pos} {l : LF}
theorem Pre.trans {A B C : List Addr} (h : Pre A B) (h' : Pre B C) : Pre A C := fun n a q => h' n a (h n a q)
theorem RPS.gr {r : RS} (h : RPS K W DR D N0 F Ad r) (l : FLe F F1) (p : Pre Ad Ad1) : RPS K W DR D N0 F1 Ad1 r := by
  cases r with
  | next env M => exact fun σ F' Ad' H' g l' p' => h σ F' Ad' H' g (l.trans l') (p.trans p')
  | ret d M => exact h
  | brk env M => exact fun σ F' Ad' H' g l' p' => h σ F' Ad' H' g (l.trans l') (p.trans p')
  | cont env M => exact fun σ F' Ad' H' g l' p' => h σ F' Ad' H' g (l.trans l') (p.trans p')
  | exc x env M => exact fun cls dx σ F' Ad' H' g l' p' => h cls dx σ F' Ad' H' g (l.trans l') (p.trans p')
  | stuck => exact h
theorem ss_nil : SSs X W DR [] bNext := PSs.imp pss_nil fun D σ H ⟨N0, F, Ad, M, env, g, m, en, r⟩ => r σ F Ad H g (FLe.refl F) pre_refl m en
theorem tS_seq {t : SF} (h : tS K W DR (bSeq b t) D σ H) : tS K W DR b { D with nx := tS K W DR t D } σ H := by
  obtain ⟨N0, F, Ad, M, env, g, m, en, r⟩ := h
  refine ⟨N0, F, Ad, M, env, g, m, en, ?_⟩
  unfold bSeq at r
  cases q : b env M with
  | next env1 M1 => rw [q] at r; exact fun σ' F' Ad' H' g' l' p' m' en' => ⟨N0, F', Ad', M1, env1, g', m', en', RPS.gr r l' p'⟩
  | ret d M1 => rw [q] at r; exact r
  | brk env1 M1 => rw [q] at r; exact r
  | cont env1 M1 => rw [q] at r; exact r
  | exc x env1 M1 => rw [q] at r; exact r
  | stuck => rw [q] at r; exact r
theorem ss_cons (h : SS X W DR st b) (h' : SSs X W DR rest b') : SSs X W DR (st :: rest) (bSeq b b') := PSs.imp (pss_cons h h') fun D σ H x => tS_seq x
theorem ss_one (h : SS X W DR st b) : SSs X W DR [st] b := pss_one h
/-- a step of the state alone -/
theorem ss_pre {t : SF} (hp : ∀ D σ H, tS X.K W DR t D σ H → tS X.K W DR b D σ H) (h : SSs X W DR rest b) : SSs X W DR rest t := PSs.imp h hp
/-- an expression's result, then the rest -/
theorem tE_of {DE' : DRel} {k : MP.D → List MP.D → RS} {Q : VK} (g : GrE N0 F Ad H) (m : MemOk K F Ad M H) (en : EnvOk K N0 F Ad H σ env)
    (r : RPS K W DR D N0 F Ad ((f env M).bindS env k)) (hq : ∀ d M1 v F1 Ad1 H1, Gr F Ad H F1 Ad1 H1 → GrE N0 F1 Ad1 H1 → MemOk K F1 Ad1 M1 H1 → EnvOk K N0 F1 Ad1 H1 σ env → DE' H F1 Ad1 H1 v d → RPS K W DR D N0 F1 Ad1 (k d M1) → Q v H1) : tG K W DE' f σ H Q := by
  refine ⟨N0, F, Ad, M, env, m, en, ?_⟩
  unfold MP.R.bindS at r
  cases q : f env M with
  | ok d M1 => rw [q] at r; exact fun v F' Ad' H' g' m' x => hq d M1 v F' Ad' H' g' (g.trans g') m' (en.gr g') x (RPS.gr r g'.fle g'.pre)
  | exc x M1 => rw [q] at r; exact fun cls dx F' Ad' H' g' m' z => r cls dx σ F' Ad' H' (g.trans g') g'.fle g'.pre m' (en.gr g') z
  | stuck => rw [q] at r; exact r
theorem tT_of {k : MP.D → List MP.D → RS} {Q : Bool → Hp → Prop} (g : GrE N0 F Ad H) (m : MemOk K F Ad M H) (en : EnvOk K N0 F Ad H σ env)
    (r : RPS K W DR D N0 F Ad ((f env M).bindS env k)) (hn : ∀ d M1, (∀ c, d ≠ .bl c) → k d M1 = .stuck) (hq : ∀ c M1 F1 Ad1 H1, GrE N0 F1 Ad1 H1 → MemOk K F1 Ad1 M1 H1 → EnvOk K N0 F1 Ad1 H1 σ env → RPS K W DR D N0 F1 Ad1 (k (.bl c) M1) → Q c H1) : tT K W f σ H Q := by
  refine ⟨N0, F, Ad, M, env, m, en, ?_⟩
  unfold MP.R.bindS at r
  cases q : f env M with
  | ok d M1 =>
    rw [q] at r
    cases d with
    | bl c => exact fun F' Ad' H' g' m' => hq c M1 F' Ad' H' (g.trans g') m' (en.gr g') (RPS.gr r g'.fle g'.pre)
    | _ => dsimp only at r; rw [hn _ M1] at r; exact r.elim; intro c z; cases z
  | exc x M1 => rw [q] at r; exact fun cls dx F' Ad' H' g' m' z => r cls dx σ F' Ad' H' (g.trans g') g'.fle g'.pre m' (en.gr g') z
  | stuck => rw [q] at r; exact r
def bPass : SF := fun env M => .next env M
theorem ss_pass : SS X W DR (.Pass pos) bPass := PS.imp ps_pass fun D σ H ⟨N0, F, Ad, M, env, g, m, en, r⟩ => r σ F Ad H g (FLe.refl F) pre_refl m en
def bBrk : SF := fun env M => .brk env M
theorem ss_brk : SS X W DR (.Break pos) bBrk := PS.imp ps_break fun D σ H ⟨N0, F, Ad, M, env, g, m, en, r⟩ => r σ F Ad H g (FLe.refl F) pre_refl m en
def bCont : SF := fun env M => .cont env M
theorem ss_cont : SS X W DR (.Continue pos) bCont := PS.imp ps_continue fun D σ H ⟨N0, F, Ad, M, env, g, m, en, r⟩ => r σ F Ad H g (FLe.refl F) pre_refl m en
def bStuck : SF := fun _ _ => .stuck
theorem ss_never : SS X W DR st bStuck := PS.imp ps_never fun D σ H ⟨N0, F, Ad, M, env, g, m, en, r⟩ => r
theorem sss_never : SSs X W DR rest bStuck := PSs.imp pss_never fun D σ H ⟨N0, F, Ad, M, env, g, m, en, r⟩ => r
def bRet (f : EF) : SF := fun env M => (f env M).bindS env fun d M1 => .ret d M1
theorem ss_ret (dr : DRok DR) (h : PE X e (tG X.K W DR f)) : SS X W DR (.Return (some e) pos) (bRet f) := PS.imp (ps_ret h) fun D σ H ⟨N0, F, Ad, M, env, g, m, en, r⟩ =>
  tE_of g m en r fun d M1 v F1 Ad1 H1 g1 ge m1 en1 x1 r1 => r1 v F1 Ad1 H1 ge m1 (dr _ _ _ _ _ _ _ _ _ _ _ g x1)
def bRetN : SF := fun _ M => .ret .non M
theorem ss_retN : SS X W (DE X.K) (.Return none pos) bRetN := PS.imp ps_retN fun D σ H ⟨N0, F, Ad, M, env, g, m, en, r⟩ => r .non F Ad H g m .non
def bExpr (f : EF) : SF := fun env M => (f env M).bindS env fun _ M1 => .next env M1
theorem ss_expr {DR' : DRel} (h : PE X e (tG X.K W DR' f)) (hs : swapsWith e none pos.line X.env = pure false := by rfl) : SS X W DR (.Expr e pos) (bExpr f) := PS.imp (ps_expr h hs) fun D σ H ⟨N0, F, Ad, M, env, g, m, en, r⟩ =>
  tE_of g m en r fun d M1 v F1 Ad1 H1 g1 ge m1 en1 x1 r1 => r1 σ F1 Ad1 H1 ge (FLe.refl _) pre_refl m1 en1
def bIf (f : EF) (a b : SF) : SF := fun env M => (f env M).bindS env fun d M1 => match d with
  | .bl true => a env M1
  | .bl false => b env M1
  | _ => .stuck
theorem ss_if {c : Expr} (hc : ST X W c f) (ha : SSs X W DR p b) (hb : SSs X W DR q b') : SS X W DR (.If c p q pos) (bIf f b b') := PS.imp (ps_if hc ha hb) fun D σ H ⟨N0, F, Ad, M, env, g, m, en, r⟩ =>
  tT_of g m en r (fun d M1 hd => by cases d <;> first | rfl | exact absurd rfl (hd _)) fun c M1 F1 Ad1 H1 ge m1 en1 r1 => by
    cases c with
    | true => exact ⟨N0, F1, Ad1, M1, env, ge, m1, en1, r1⟩
    | false => exact ⟨N0, F1, Ad1, M1, env, ge, m1, en1, r1⟩
/-- x = e -/
def bSet (j : Nat) (f : EF) : SF := fun env M => (f env M).bindS env fun d M1 => match gN j d env with
  | some env1 => .next env1 M1
  | none => .stuck
theorem ss_asg {gd : MP.D → EnvM → Option EnvM} {g : TG} {js : List Nat} (tgo : TgOk X.K js gd g) {t : TS} (h : PS X st t) (ht : ∀ D σ H, tAsg (tG X.K W (DE X.K) f) g D σ H → t D σ H) : SS X W DR st (fun env M => (f env M).bindS env fun d M1 => match gd d env with
  | some env1 => .next env1 M1
  | none => .stuck) := PS.imp h fun D σ H ⟨N0, F, Ad, M, env, ge0, m, en, r⟩ => ht D σ H (tE_of ge0 m en r fun d M1 v F1 Ad1 H1 g1 ge m1 en1 x1 r1 => by
    cases hd : gd d env with
    | none => rw [hd] at r1; exact r1.elim
    | some env1 =>
      rw [hd] at r1
      exact tgo.ok N0 F1 Ad1 M1 H1 σ env v d env1 _ m1 en1 x1 hd fun σ' en' _ => r1 σ' F1 Ad1 H1 ge (FLe.refl _) pre_refl m1 en')
theorem ss_set {i : Nat} {x : Str} {pos' : Pos} (hN : X.N.Nodup) (hi : X.N[i]? = some x) (hx : Loc X.env.scope x) (he : SE X W e f) (hs : swapsWith e (some (.Name x pos')) pos.line X.env = pure false := by rfl) (hf : X.fn x = true ∨ X.env.scope.names.lookup x = some .local := by first | exact .inl rfl | exact .inr rfl | assumption) :
    SS X W DR (.Assign [.Name x pos'] e pos) (bSet i f) := ss_asg tg_n (ps_set hN hi hx he hs hf) fun D σ H h => h
/-- a target of several names -/
def bSetT (js : List Nat) (f : EF) : SF := fun env M => (f env M).bindS env fun d M1 => match gT js d env with
  | some env1 => .next env1 M1
  | none => .stuck
theorem ss_setT {js : List Nat} {n : Nat} {g : TGs} (tgo : TgsOk X.K js g) (hn : js.length = n) (hg : PG X tg (gTup X.K n g)) (he : SE X W e f) (hs : swapsWithSole [tg] e pos.line X.env = pure false := by rfl) (hw : swappedStores [tg] e X.env = pure none := by rfl)
    (h1 : (assignEach [tg] X.env).map (·.2) = [assign tg X.env] := by rfl) : SS X W DR (.Assign [tg] e pos) (bSetT js f) := ss_asg (tg_t tgo hn) (ps_asg he hg hs hw h1) fun D σ H h => h
/-- x = e, the value x's own -/
def oN (j : Nat) (d : MP.D) (env : EnvM) : Option EnvM := match env[j]? with
  | some (.slf _) => none
  | some _ => some (env.set j (.own d))
  | none => none
def bOwn (j : Nat) (f : EF) : SF := fun env M => (f env M).bindS env fun d M1 => match oN j d env with
  | some env1 => .next env1 M1
  | none => .stuck
theorem EnvOk.setOwn {j : Nat} {v : V} {d : MP.D} {env' : EnvM} (en0 : EnvOk K N0 F Ad H σ env) (g0 : GrE N0 F Ad H) (g1 : Gr F Ad H F1 Ad1 H1) (x : DO K H F1 Ad1 H1 v d) (h : oN j d env = some env') : EnvOk K N0 F1 Ad1 H1 (σ.set j (some v)) env' := by
  have hlt : j < env.length ∧ env' = env.set j (.own d) ∧ ∀ e, env[j]? ≠ some (.slf e) := by
    unfold oN at h
    split at h
    · cases h
    · rename_i b hb hn
      cases h
      exact ⟨(List.getElem?_eq_some_iff.mp hn).1, rfl, fun e z => hb e (by rw [hn] at z; exact Option.some.inj z)⟩
    · cases h
  obtain ⟨hl, rfl, hns⟩ := hlt
  obtain ⟨a, rfl, h1, h2, h3, h4⟩ := x
  have en := en0.gr g1
  have n0 : N0.hp a = none := by
    cases qq : N0.hp a with
    | none => rfl
    | some o => exact absurd h3 (g0.alive a (by rw [qq]; simp))
  have ha0 : ∀ (i : Nat) (d2 : MP.D), env[i]? = some (B.own d2) → σ[i]? ≠ some (some (V.ref a)) := fun i d2 hi z => by
    obtain ⟨c, c1, c2, c3, c4, c5⟩ := en0.own i d2 hi
    rw [z] at c1
    have : c = a := by
      have q := Option.some.inj (Option.some.inj c1)
      cases q; rfl
    obtain ⟨o, ho, _⟩ := c5.obj
    rw [this, h3] at ho; cases ho
  refine ⟨by simp [en.len], fun i d' hi => ?_, fun i d' hi => ?_, fun i k d1 d2 c q1 q2 q3 q4 => ?_, fun i d' hi => ?_⟩
  · by_cases e : j = i
    · subst e; rw [List.getElem?_set_self hl] at hi; cases hi
    · rw [List.getElem?_set_ne e] at hi ⊢; exact en.shr i d' hi
  · by_cases e : j = i
    · subst e
      rw [List.getElem?_set_self hl] at hi; cases hi
      exact ⟨a, by rw [List.getElem?_set_self (by rw [← en.len]; exact hl)], h1, h2, n0, h4⟩
    · rw [List.getElem?_set_ne e] at hi ⊢; exact en.own i d' hi
  · by_cases e1 : j = i
    · subst e1
      rw [List.getElem?_set_self (by rw [← en.len]; exact hl)] at q3
      cases q3
      by_cases e2 : j = k
      · exact e2
      · rw [List.getElem?_set_ne e2] at q2 q4
        exact absurd q4 (ha0 k d2 q2)
    · rw [List.getElem?_set_ne e1] at q1 q3
      by_cases e2 : j = k
      · subst e2
        rw [List.getElem?_set_self (by rw [← en.len]; exact hl)] at q4
        cases q4
        exact absurd q3 (ha0 i d1 q1)
      · rw [List.getElem?_set_ne e2] at q2 q4
        exact en.dis i k d1 d2 c q1 q2 q3 q4
  · have e : j ≠ i := fun e => by subst e; rw [List.getElem?_set_self hl] at hi; cases hi
    rw [List.getElem?_set_ne e] at hi ⊢
    obtain ⟨z0, z1, z2, z3, z4, z5, z6⟩ := en.slf i d' hi
    refine ⟨z0, z1, z2, z3, z4, z5, fun k d2 hk z => ?_⟩
    by_cases e2 : j = k
    · subst e2
      rw [List.getElem?_set_self (by rw [← en.len]; exact hl)] at z
      have : a = N0.me := by
        have q := Option.some.inj (Option.some.inj z)
        cases q; rfl
      obtain ⟨_, _, _, _, _, c5, _⟩ := en0.slf i d' hi
      obtain ⟨o, ho, _⟩ := c5.obj
      rw [← this, h3] at ho; cases ho
    · rw [List.getElem?_set_ne e2] at hk z
      exact z6 k d2 hk z
theorem ss_asgO {i : Nat} {t : TS} (h : PS X st t) (ht : ∀ D σ H, tAsg (tG X.K W (DO X.K) f) (gName i) D σ H → t D σ H) : SS X W DR st (bOwn i f) := PS.imp h fun D σ H ⟨N0, F, Ad, M, env, ge0, m, en, r⟩ => ht D σ H (tE_of ge0 m en r fun d M1 v F1 Ad1 H1 g1 ge m1 en1 x1 r1 => by
    cases hd : oN i d env with
    | none => rw [hd] at r1; exact r1.elim
    | some env1 =>
      rw [hd] at r1
      exact r1 _ F1 Ad1 H1 ge (FLe.refl _) pre_refl m1 (en.setOwn ge0 g1 x1 hd))
theorem ss_own {i : Nat} {x : Str} {pos' : Pos} (hN : X.N.Nodup) (hi : X.N[i]? = some x) (hx : Loc X.env.scope x) (he : SO X W e f) (hs : swapsWith e (some (.Name x pos')) pos.line X.env = pure false := by rfl) (hf : X.fn x = true ∨ X.env.scope.names.lookup x = some .local := by first | exact .inl rfl | exact .inr rfl | assumption) :
    SS X W DR (.Assign [.Name x pos'] e pos) (bOwn i f) := ss_asgO (ps_set hN hi hx he hs hf) fun D σ H h => h
/-- x = [.. for ..] -/
theorem ss_lc {i : Nat} {y : Str} {py : Pos} {elt : Expr} {ifs : List Expr} {scope : Scope} {own : List (Str × Nat)} {spos : Pos} {gd : MP.D → EnvM → Option EnvM} {g : TG} {ft fe : EF} {js : List Nat} (hc : X.calm = true) (hN : X.N.Nodup) (hy : X.N[i]? = some y) (hyl : X.env.scope.names.lookup y = some .local)
    (hsw : swapsWith (.ListComp elt [⟨tg, iter, ifs, 0⟩] scope pos) (some (.Name y py)) spos.line X.env = pure true) (hi : SI X W false tg iter l) (ok : BlkOk X.N X.env.scope scope own)
    (tgo : TgOk X.K js gd g) (hj : ∀ j ∈ js, j ∈ own.map (·.2))
    (hg : ∀ (s : Shared) (H : Hp) (C : Addr) (cl : List (Str × Addr)) (fp : List Addr), PG (X.blk s H scope (compEnvC scope cl C X.env) fp) tg g) (ht : ∀ (s : Shared) (H : Hp) (C : Addr) (cl : List (Str × Addr)) (fp : List Addr), STs (X.blk s H scope (compEnvC scope cl C X.env) fp) WN ifs ft)
    (he : ∀ (s : Shared) (H : Hp) (C : Addr) (cl : List (Str × Addr)) (fp : List Addr), SE (X.blk s H scope (compEnvC scope cl C X.env) fp) WN elt fe) (hs : ∀ x, foldedSetIterable iter X.env x = pure x := by intro _; rfl) :
    SS X W DR (.Assign [.Name y py] (.ListComp elt [⟨tg, iter, ifs, 0⟩] scope pos) spos) (bOwn i (eComp l gd ft fe (own.map (·.2)))) :=
  ss_asgO (ps_setLc hc hN hy hyl hsw hi ok hg ht he hs) fun D σ H h => lc_read (Wb := WN) tgo hj h
/-! #### an own object is written -/
theorem wr_own {a : Addr} {o' : HO} {d d' : MP.D} {i : Nat} (g : GrE N0 F Ad H) (m : MemOk K F Ad M H) (en : EnvOk K N0 F Ad H σ env) (hi : env[i]? = some (.own d)) (ha : σ[i]? = some (some (.ref a))) (r : Root K F Ad (upd H a o') a d') :
    GrE N0 F Ad (upd H a o') ∧ MemOk K F Ad M (upd H a o') ∧ EnvOk K N0 F Ad (upd H a o') σ (env.set i (.own d')) := by
  obtain ⟨c, c1, c2, c3, c4, c5⟩ := en.own i d hi
  rw [ha] at c1
  cases c1
  have hl : i < env.length := (List.getElem?_eq_some_iff.mp hi).1
  refine ⟨⟨g.fle, g.fnew, g.apre, fun b o hb ro hf hn => ?_, fun b hb => ?_⟩, ⟨fun b u hb => ?_, m.len, m.nd, fun n b e h1 h2 => ?_⟩, ⟨by simp [en.len], fun j e hj => ?_, fun j e hj => ?_, fun j k e1 e2 b h1 h2 h3 h4 => ?_, fun j e hj => ?_⟩⟩
  · rw [upd_ne (fun e => by rw [e, c4] at hb; cases hb)]; exact g.keep b o hb ro hf hn
  · by_cases e : b = a
    · subst e; rw [upd_same]; simp
    · rw [upd_ne e]; exact g.alive b hb
  · rw [upd_ne (fun e => by rw [e, c2] at hb; cases hb)]; exact m.sub b u hb
  · obtain ⟨z1, z2⟩ := m.cel n b e h1 h2
    exact ⟨z1, z2.mono (FLe.refl _) (fun _ _ h => h) (by rw [upd_ne (fun e => c3 (by rw [← e]; exact List.mem_of_getElem? h1))])⟩
  · have e1 : i ≠ j := fun e1 => by subst e1; rw [List.getElem?_set_self hl] at hj; cases hj
    rw [List.getElem?_set_ne e1] at hj; exact en.shr j e hj
  · by_cases e1 : i = j
    · subst e1
      rw [List.getElem?_set_self hl] at hj; cases hj
      exact ⟨a, ha, c2, c3, c4, r⟩
    · rw [List.getElem?_set_ne e1] at hj
      obtain ⟨b, b1, b2, b3, b4, b5⟩ := en.own j e hj
      have ne : b ≠ a := fun z => by subst z; exact e1 (en.dis i j d e b hi hj ha b1)
      exact ⟨b, b1, b2, b3, b4, b5.mono (FLe.refl _) (fun _ _ h => h) (by rw [upd_ne ne])⟩
  · have q1 : ∃ e1', env[j]? = some (.own e1') := by
      by_cases e : i = j
      · subst e; exact ⟨_, hi⟩
      · rw [List.getElem?_set_ne e] at h1; exact ⟨_, h1⟩
    have q2 : ∃ e2', env[k]? = some (.own e2') := by
      by_cases e : i = k
      · subst e; exact ⟨_, hi⟩
      · rw [List.getElem?_set_ne e] at h2; exact ⟨_, h2⟩
    obtain ⟨_, q1⟩ := q1
    obtain ⟨_, q2⟩ := q2
    exact en.dis j k _ _ b q1 q2 h3 h4
  · have e1 : i ≠ j := fun e1 => by subst e1; rw [List.getElem?_set_self hl] at hj; cases hj
    rw [List.getElem?_set_ne e1] at hj
    obtain ⟨z0, z1, z2, z3, z4, z5, z6⟩ := en.slf j e hj
    have ne : N0.me ≠ a := fun z => z6 i d hi (by rw [ha, z])
    refine ⟨z0, z1, z2, z3, z4, z5.mono (FLe.refl _) (fun _ _ h => h) (by rw [upd_ne ne]), fun k d2 hk => ?_⟩
    by_cases e2 : i = k
    · subst e2; exact z6 i d hi
    · rw [List.getElem?_set_ne e2] at hk; exact z6 k d2 hk
/-- self is written -/
theorem wr_slf {o' : HO} {d d' : MP.D} {i : Nat} (g : GrE N0 F Ad H) (m : MemOk K F Ad M H) (en : EnvOk K N0 F Ad H σ env) (hi : env[i]? = some (.slf d)) (r : Root K F Ad (upd H N0.me o') N0.me d') :
    GrE N0 F Ad (upd H N0.me o') ∧ MemOk K F Ad M (upd H N0.me o') ∧ EnvOk K N0 F Ad (upd H N0.me o') σ (env.set i (.slf d')) := by
  obtain ⟨c0, c1, c2, c3, c4, c5, c6⟩ := en.slf i d hi
  have hl : i < env.length := (List.getElem?_eq_some_iff.mp hi).1
  refine ⟨⟨g.fle, g.fnew, g.apre, fun b o hb ro hf hn => ?_, fun b hb => ?_⟩, ⟨fun b u hb => ?_, m.len, m.nd, fun n b e h1 h2 => ?_⟩, ⟨by simp [en.len], fun j e hj => ?_, fun j e hj => ?_, fun j k e1 e2 b h1 h2 h3 h4 => ?_, fun j e hj => ?_⟩⟩
  · rw [upd_ne (fun e => by rw [e, c4] at hb; cases hb)]; exact g.keep b o hb ro hf hn
  · by_cases e : b = N0.me
    · subst e; rw [upd_same]; simp
    · rw [upd_ne e]; exact g.alive b hb
  · rw [upd_ne (fun e => by rw [e, c2] at hb; cases hb)]; exact m.sub b u hb
  · obtain ⟨z1, z2⟩ := m.cel n b e h1 h2
    exact ⟨z1, z2.mono (FLe.refl _) (fun _ _ h => h) (by rw [upd_ne (fun e => c3 (by rw [← e]; exact List.mem_of_getElem? h1))])⟩
  · have e1 : i ≠ j := fun e1 => by subst e1; rw [List.getElem?_set_self hl] at hj; cases hj
    rw [List.getElem?_set_ne e1] at hj; exact en.shr j e hj
  · have e1 : i ≠ j := fun e1 => by subst e1; rw [List.getElem?_set_self hl] at hj; cases hj
    rw [List.getElem?_set_ne e1] at hj
    obtain ⟨b, b1, b2, b3, b4, b5⟩ := en.own j e hj
    have ne : b ≠ N0.me := fun z => c6 j e hj (by rw [b1, z])
    exact ⟨b, b1, b2, b3, b4, b5.mono (FLe.refl _) (fun _ _ h => h) (by rw [upd_ne ne])⟩
  · have e1' : i ≠ j := fun e1 => by subst e1; rw [List.getElem?_set_self hl] at h1; cases h1
    have e2' : i ≠ k := fun e1 => by subst e1; rw [List.getElem?_set_self hl] at h2; cases h2
    rw [List.getElem?_set_ne e1'] at h1
    rw [List.getElem?_set_ne e2'] at h2
    exact en.dis j k _ _ b h1 h2 h3 h4
  · by_cases e1 : i = j
    · subst e1
      rw [List.getElem?_set_self hl] at hj; cases hj
      refine ⟨c0, c1, c2, c3, c4, r, fun k d2 hk => ?_⟩
      by_cases e2 : i = k
      · subst e2; rw [List.getElem?_set_self hl] at hk; cases hk
      · rw [List.getElem?_set_ne e2] at hk; exact c6 k d2 hk
    · rw [List.getElem?_set_ne e1] at hj
      obtain ⟨z0, _⟩ := en.slf j e hj
      exact absurd (c0.trans z0.symm) e1
/-- a shared object is written -/
theorem wr_cel {a : Addr} {n : Nat} {o' : HO} {d' : MP.D} (g : GrE N0 F Ad H) (m : MemOk K F Ad M H) (en : EnvOk K N0 F Ad H σ env) (hn : Ad[n]? = some a) (r : Root K F Ad (upd H a o') a d') (hg : ∀ b o, N0.hp b = some o → b ∉ N0.ad → b ≠ a) :
    GrE N0 F Ad (upd H a o') ∧ MemOk K F Ad (M.set n d') (upd H a o') ∧ EnvOk K N0 F Ad (upd H a o') σ env := by
  have hF : F a = none := by
    have hlt : n < M.length := by rw [← m.len]; exact (List.getElem?_eq_some_iff.mp hn).1
    exact (m.cel n a _ hn (List.getElem?_eq_getElem hlt)).1
  refine ⟨⟨g.fle, g.fnew, g.apre, fun b o hb ro hf hna => ?_, fun b hb => ?_⟩, ⟨fun b u hb => ?_, by rw [m.len]; simp, m.nd, fun k b e h1 h2 => ?_⟩, ⟨en.len, fun j e hj => en.shr j e hj, fun j e hj => ?_, en.dis, fun j e hj => ?_⟩⟩
  · rw [upd_ne (hg b o hb hna)]; exact g.keep b o hb ro hf hna
  · by_cases e : b = a
    · subst e; rw [upd_same]; simp
    · rw [upd_ne e]; exact g.alive b hb
  · rw [upd_ne (fun e => by rw [e, hF] at hb; cases hb)]; exact m.sub b u hb
  · by_cases e1 : n = k
    · subst e1
      rw [hn] at h1; cases h1
      rw [List.getElem?_set_self (by rw [← m.len]; exact (List.getElem?_eq_some_iff.mp hn).1)] at h2
      cases h2
      exact ⟨hF, r⟩
    · rw [List.getElem?_set_ne e1] at h2
      obtain ⟨z1, z2⟩ := m.cel k b e h1 h2
      have ne : b ≠ a := fun z => by
        subst z
        exact e1 ((List.getElem?_inj (List.getElem?_eq_some_iff.mp hn).1 m.nd).mp (hn.trans h1.symm))
      exact ⟨z1, z2.mono (FLe.refl _) (fun _ _ h => h) (by rw [upd_ne ne])⟩
  · obtain ⟨b, b1, b2, b3, b4, b5⟩ := en.own j e hj
    have ne : b ≠ a := fun z => b3 (by rw [z]; exact List.mem_of_getElem? hn)
    exact ⟨b, b1, b2, b3, b4, b5.mono (FLe.refl _) (fun _ _ h => h) (by rw [upd_ne ne])⟩
  · obtain ⟨z0, z1, z2, z3, z4, z5, z6⟩ := en.slf j e hj
    have ne : N0.me ≠ a := fun z => z3 (by rw [z]; exact List.mem_of_getElem? hn)
    exact ⟨z0, z1, z2, z3, z4, z5.mono (FLe.refl _) (fun _ _ h => h) (by rw [upd_ne ne]), z6⟩
/-- the heap at the entry keeps off the shared ones that came later -/
theorem cel_off {a : Addr} (g : GrE N0 F Ad H) (hn : a ∈ Ad) : ∀ b o, N0.hp b = some o → b ∉ N0.ad → b ≠ a := fun b o hb hna e => by
  subst e
  obtain ⟨more, e1, e2⟩ := g.apre
  rw [e1] at hn
  rcases List.mem_append.mp hn with z | z
  · exact hna z
  · rw [e2 b z] at hb; cases hb
end
end MP

set_option maxRecDepth 100000
set_option maxHeartbeats 1000000
namespace MP
open PySem PySem.Spec PyProof.Rows L2
/-! ### stores -/
def cont (i : Nat) (env : EnvM) (M : List D) : Option D := match env[i]? with
  | some (.own d) => some d
  | some (.slf d) => some d
  | some (.shr (.cel n)) => M[n]?
  | _ => none
def store (i : Nat) (u : D → Option D) : SF := fun env M => match env[i]? with
  | some (.own d) => (match u d with | some d' => .next (env.set i (.own d')) M | none => .stuck)
  | some (.slf d) => (match u d with | some d' => .next (env.set i (.slf d')) M | none => .stuck)
  | some (.shr (.cel n)) => (match M[n]? with
    | some d => (match u d with | some d' => .next env (M.set n d') | none => .stuck)
    | none => .stuck)
  | _ => .stuck
def putFD (f : Str) (v : D) : List (Str × D) → List (Str × D)
  | [] => [(f, v)]
  | (g, x) :: r => if g = f then (g, v) :: r else (g, x) :: putFD f v r
def stSub (k v d : D) : Option D := match d with
  | .lst xs => (match k with
    | .int i => (match ixN xs.length i with | some j => some (.lst (xs.set j v)) | none => none)
    | _ => none)
  | .dK kvs => (match keyD k with
    | some q => if kvs.length < sizeLine then some (.dK (insK kvs q v)) else none
    | none => none)
  | .dT kvs => (match k with
    | .tup ks => (match keysD ks with
      | some q => if kvs.length < sizeLine then some (.dT (insK kvs q v)) else none
      | none => none)
    | _ => none)
  | _ => none
def stApp (v d : D) : Option D := match d with
  | .lst xs => if xs.length < sizeLine then some (.lst (xs ++ [v])) else none
  | _ => none
def stFld (c f : Str) (v d : D) : Option D := match d with
  | .ins c' fs => if c' = c ∧ fs.length < 1000 then some (.ins c (putFD f v fs)) else none
  | _ => none
section
variable {X : Cx} {W : WX} {K : PySem.W.Frag} {DR : DRel} {E : Ends} {N0 : Ent} {F F1 H H1 : Hp} {Ad Ad1 : List Addr} {M : List D} {env : EnvM} {σ : St} {e tg iter : Expr} {f fk fv : EF} {st : Stmt} {rest p q body : List Stmt} {b b' : SF} {pos : Pos} {l : LF} {i : Nat} {u : D → Option D}
theorem DenF.put {g : Str} {v d} : ∀ {vs ds}, DenF K F Ad vs ds → Den K F Ad v d → DenF K F Ad (putF g v vs) (putFD g d ds)
  | _, _, .nil, h => .cons h .nil
  | _, _, .cons (k := k) q r, h => by
    unfold putF putFD
    by_cases e : k = g
    · rw [if_pos e, if_pos e]; exact .cons h r
    · rw [if_neg e, if_neg e]; exact .cons q (r.put h)
theorem store_ok (g : GrE N0 F Ad H) (m : MemOk K F Ad M H) (en : EnvOk K N0 F Ad H σ env) (r : RPS K W DR E N0 F Ad (store i u env M)) :
    ∃ a d d', σ[i]? = some (some (.ref a)) ∧ cont i env M = some d ∧ u d = some d' ∧ Root K F Ad H a d ∧ ∀ o', Root K F Ad (upd H a o') a d' → E.nx σ (upd H a o') := by
  unfold store at r
  split at r
  · rename_i d hd
    split at r
    · rename_i d' hu
      obtain ⟨a, c1, c2, c3, c4, c5⟩ := en.own i d hd
      refine ⟨a, d, d', c1, by unfold cont; rw [hd], hu, c5, fun o' ro => ?_⟩
      obtain ⟨g', m', en'⟩ := wr_own g m en hd c1 ro
      exact r σ F Ad _ g' (FLe.refl _) pre_refl m' en'
    · exact r.elim
  · rename_i d hd
    split at r
    · rename_i d' hu
      obtain ⟨c0, c1, c2, c3, c4, c5, c6⟩ := en.slf i d hd
      refine ⟨_, d, d', c1, by unfold cont; rw [hd], hu, c5, fun o' ro => ?_⟩
      obtain ⟨g', m', en'⟩ := wr_slf g m en hd ro
      exact r σ F Ad _ g' (FLe.refl _) pre_refl m' en'
    · exact r.elim
  · rename_i n hn
    split at r
    · rename_i d hd
      split at r
      · rename_i d' hu
        obtain ⟨v, c1, c2⟩ := en.shr i _ hn
        cases c2 with
        | @cel a _ ha =>
          refine ⟨a, d, d', c1, by unfold cont; rw [hn]; exact hd, hu, (m.cel n a d ha hd).2, fun o' ro => ?_⟩
          obtain ⟨g', m', en'⟩ := wr_cel g m en ha ro (cel_off g (List.mem_of_getElem? ha))
          exact r σ F Ad _ g' (FLe.refl _) pre_refl m' en'
      · exact r.elim
    · exact r.elim
  · exact r.elim
/-- o[k] = v for lists and dicts -/
def rSetAll : TSet := fun o i v H Q => rSetL o i v H Q ∨ ∃ a H4, o = .ref a ∧ DPut H a i v H4 ∧ Q H4
theorem set_all (hu : X.A.units + 1 < cLine) : PSet X rSetAll := by
  intro pins s σ H o i v ov iv u Q I ro ri rv h
  rcases h with h | ⟨a, H4, rfl, hp, hq⟩
  · exact set_list pins s σ H o i v ov iv u Q I ro ri rv h
  · obtain rfl : ov = Value.ref a := ro
    exact d_setItem hu I hp ri rv fun s' I' => ⟨H4, I', hq⟩
theorem set_of {v k : V} {dv dk d d' : D} {a : Addr} {Q : Hp → Prop} (m : MemOk K F Ad M H) (xv : Den K F Ad v dv) (xk : Den K F Ad k dk) (r : Root K F Ad H a d) (hu : stSub dk dv d = some d') (hq : ∀ o', Root K F Ad (upd H a o') a d' → Q (upd H a o')) : rSetAll (.ref a) k v H Q := by
  unfold stSub at hu
  cases r with
  | lst h r =>
    dsimp only at hu
    split at hu
    · rename_i i
      split at hu
      · rename_i oo j hj
        cases hu
        cases xk
        exact .inl ⟨a, _, i, j, rfl, rfl, h, by rw [r.length]; exact hj, hq _ (.lst upd_same (r.set j xv))⟩
      · cases hu
    · cases hu
  | dK h r =>
    dsimp only at hu
    split at hu
    · rename_i oo kk hk
      split at hu
      · rename_i hl
        cases hu
        exact .inr ⟨a, _, rfl, .inl ⟨_, kk, h, keyD_v xk hk, by rw [r.length]; exact hl, rfl⟩, hq _ (.dK upd_same (r.put xv))⟩
      · cases hu
    · cases hu
  | dT h r =>
    dsimp only at hu
    split at hu
    · rename_i ks
      split at hu
      · rename_i oo kk hk
        split at hu
        · rename_i hl
          cases hu
          cases xk with
          | tup h2 r2 =>
            rw [keysD_v r2 hk] at h2
            exact .inr ⟨a, _, rfl, .inr ⟨_, kk, _, h, rfl, m.sub _ _ h2, by rw [r.length]; exact hl, rfl⟩, hq _ (.dT upd_same (r.put xv))⟩
        · cases hu
      · cases hu
    · cases hu
  | ins h r => exact nomatch hu
def has (i : Nat) (env : EnvM) : Bool := match env[i]? with
  | some (.shr _) => true
  | some (.own _) => true
  | some (.slf _) => true
  | _ => false
theorem EnvOk.has (en : EnvOk K N0 F Ad H σ env) (h : has i env = true) : ∃ v, σ[i]? = some (some v) := by
  unfold MP.has at h
  split at h
  · rename_i d hd; obtain ⟨v, h1, _⟩ := en.shr i d hd; exact ⟨v, h1⟩
  · rename_i d hd; obtain ⟨v, h1, _⟩ := en.own i d hd; exact ⟨_, h1⟩
  · rename_i d hd; obtain ⟨_, h1, _⟩ := en.slf i d hd; exact ⟨_, h1⟩
  · cases h
def bSub (i : Nat) (fk fv : EF) : SF := fun env M => (fv env M).bindS env fun dv M1 => if has i env = true then (fk env M1).bindS env fun dk M2 => store i (stSub dk dv) env M2 else .stuck
theorem ss_sub {x : Str} {k value : Expr} {pos' pos2 : Pos} (hu : X.A.units + 1 < cLine) (hN : X.N[i]? = some x) (hv : Vis X.env.scope x) (hk : SE X W k fk) (he : SE X W value fv)
    (ha : ∀ v, assign (.Subscript (.Name x pos2) k pos') X.env v = (do
      let ov ← holding [v] (eval (.Name x pos2) X.env)
      let iv ← holding [v, ov] (eval k X.env)
      standAt pos'
      holding [v, ov, iv] (setItem ov iv v)
      release [v, ov, iv] []) := by intro _; rfl)
    (hs : swapsWithSole [.Subscript (.Name x pos2) k pos'] value pos.line X.env = pure false := by rfl) (hw : swappedStores [.Subscript (.Name x pos2) k pos'] value X.env = pure none := by rfl)
    (h1 : (assignEach [.Subscript (.Name x pos2) k pos'] X.env).map (·.2) = [assign (.Subscript (.Name x pos2) k pos') X.env] := by rfl)
    (hd : (x == ("__debug__" : Str)) = false := by decide) (hcd : (x == ("__classdict__" : Str)) = false := by decide) :
    SS X W DR (.Assign [.Subscript (.Name x pos2) k pos'] value pos) (bSub i fk fv) :=
  PS.imp (ps_asg he (pg_sub (pe_var hN hv hd hcd) hk (set_all hu) ha) hs hw h1) fun D σ H ⟨N0, F, Ad, M, env, ge0, m, en, r⟩ =>
    tE_of ge0 m en r fun dv M1 v F1 Ad1 H1 g1 ge m1 en1 x1 r1 => by
      split at r1
      · rename_i hh
        obtain ⟨v0, hv0⟩ := en1.has hh
        refine ⟨v0, hv0, tE_of ge m1 en1 r1 fun dk M2 vk F2 Ad2 H2 g2 ge2 m2 en2 x2 r2 => ?_⟩
        obtain ⟨a, d, d', c1, c2, c3, c4, c5⟩ := store_ok ge2 m2 en2 r2
        rw [hv0] at c1; cases c1
        exact set_of m2 (x1.mono g2.fle g2.pre) x2 c4 c3 c5
      · exact r1.elim
/-- x.append(v) -/
def isLst : Option D → Bool
  | some (.lst _) => true
  | _ => false
def bApp (i : Nat) (fv : EF) : SF := fun env M => if isLst (cont i env M) = true then (fv env M).bindS env fun dv M1 => store i (stApp dv) env M1 else .stuck
theorem cont_ok (m : MemOk K F Ad M H) (en : EnvOk K N0 F Ad H σ env) {d : D} (h : cont i env M = some d) : ∃ a, σ[i]? = some (some (.ref a)) ∧ Root K F Ad H a d := by
  unfold cont at h
  split at h
  · rename_i d' hd; cases h; obtain ⟨a, h1, _, _, _, h2⟩ := en.own i _ hd; exact ⟨a, h1, h2⟩
  · rename_i d' hd; cases h; obtain ⟨_, h1, _, _, _, h2, _⟩ := en.slf i _ hd; exact ⟨_, h1, h2⟩
  · rename_i n hd
    obtain ⟨v, h1, h2⟩ := en.shr i _ hd
    cases h2 with
    | @cel a _ ha => exact ⟨a, h1, (m.cel n a d ha h).2⟩
  · cases h
theorem ss_app {x : Str} {value : Expr} {apos pos2 cpos : Pos} (hN : X.N[i]? = some x) (hv : Vis X.env.scope x) (he : SE X W value fv)
    (hs0 : starEach [value] X.env = [(false, eval value X.env)] := by rfl) (hbase : attributeBase (.Name x pos2) "append" X.env (eval (.Name x pos2) X.env) = eval (.Name x pos2) X.env := by rfl)
    (hfew : ((backTo cpos (starEach [value] X.env)).all (fun x => !x.1) && (backToKw cpos (keywordEach [] X.env)).all (fun x => x.1.isSome)
      && decide (([value] : List Expr).length + ([] : List Keyword).length + (if ([] : List Keyword).isEmpty then 0 else 1) < 30)) = true := by rfl)
    (hline : (apos.endLine == cpos.line) = true := by rfl)
    (hd : (x == ("__debug__" : Str)) = false := by decide) (hcd : (x == ("__classdict__" : Str)) = false := by decide) (hsw : swapsWith (.Call (.Attribute (.Name x pos2) "append" apos) [value] [] cpos) none pos.line X.env = pure false := by rfl) :
    SS X W DR (.Expr (.Call (.Attribute (.Name x pos2) "append" apos) [value] [] cpos) pos) (bApp i fv) :=
  PS.imp (ps_expr (pe_bm (name := "append") PySem.F.plainAttrs_list PySem.F.slot_list_append PySem.F.type_list_append mt_append (pe_var hN hv hd hcd) (sl_one he hs0) hbase hfew hline hs0 (by rfl)) hsw) fun D σ H ⟨N0, F, Ad, M, env, ge0, m, en, r⟩ => by
    unfold bApp at r
    split at r
    · rename_i hl
      unfold isLst at hl
      split at hl
      · rename_i xs hx
        obtain ⟨a, ha, ra⟩ := cont_ok m en hx
        refine ⟨.ref a, ha, ?_, ?_⟩
        · cases ra with
          | lst h _ => exact .inl ⟨rfl, _, SqL.of h⟩
        · refine tE_of ge0 m en r fun dv M1 v F1 Ad1 H1 g1 ge m1 en1 x1 r1 => ?_
          obtain ⟨a', d, d', c1, c2, c3, c4, c5⟩ := store_ok ge m1 en1 r1
          rw [ha] at c1; cases c1
          unfold stApp at c3
          split at c3
          · split at c3
            · rename_i hz
              cases c3
              cases c4 with
              | lst h r => exact ⟨a, _, v, rfl, rfl, h, by rw [r.length]; exact hz, c5 _ (.lst upd_same (r.append (.cons x1 .nil)))⟩
            · cases c3
          · cases c3
      · cases hl
    · exact r.elim
/-- x.f = v -/
def bFld (i : Nat) (c f : Str) (fv : EF) : SF := fun env M => (fv env M).bindS env fun dv M1 => store i (stFld c f dv) env M1
theorem ss_fld {x c g : Str} {value : Expr} {pos' pos2 : Pos} (hN : X.N[i]? = some x) (hv : Vis X.env.scope x) (he : SE X W value fv) (hc : Cls X.K (He.ga X.K c)) (hn : NoAttr X.K (He.ga X.K c) g)
    (hs : swapsWith value (some (.Attribute (.Name x pos2) g pos')) pos.line X.env = pure false := by rfl) (hd : (x == ("__debug__" : Str)) = false := by decide) (hcd : (x == ("__classdict__" : Str)) = false := by decide) :
    SS X W DR (.Assign [.Attribute (.Name x pos2) g pos'] value pos) (bFld i c g fv) :=
  PS.imp (ps_fld (pe_var hN hv hd hcd) he hs) fun D σ H ⟨N0, F, Ad, M, env, ge0, m, en, r⟩ =>
    tE_of ge0 m en r fun dv M1 v F1 Ad1 H1 g1 ge m1 en1 x1 r1 => by
      obtain ⟨a, d, d', c1, c2, c3, c4, c5⟩ := store_ok ge m1 en1 r1
      refine ⟨.ref a, c1, ?_⟩
      unfold stFld at c3
      split at c3
      · split at c3
        · rename_i hz
          cases c3
          cases c4 with
          | ins h rr =>
            obtain ⟨rfl, hl⟩ := hz
            exact ⟨a, _, _, _, rfl, h, hc, hn, by rw [rr.length]; exact hl, c5 _ (.ins upd_same (rr.put x1))⟩
        · cases c3
      · cases c3
/-! ### for -/
def forL (gd : D → EnvM → Option EnvM) (b : SF) : List D → SF
  | [], env, M => .next env M
  | d :: ds, env, M => match gd d env with
    | none => .stuck
    | some env1 => match b env1 M with
      | .next env2 M2 => forL gd b ds env2 M2
      | .cont env2 M2 => forL gd b ds env2 M2
      | .brk env2 M2 => .next env2 M2
      | r => r
def bFor (l : LF) (gd : D → EnvM → Option EnvM) (b : SF) : SF := fun env M => match l env M with
  | .ok ds M1 => forL gd b ds env M1
  | .exc x M1 => .exc x env M1
  | .stuck => .stuck
theorem ss_for {gd : D → EnvM → Option EnvM} {g : TG} {js : List Nat} (hp : PassesOwn (model X.prog X.w) X.A X.env X.xe) (hc : X.calm = true) (hi : SI X W true tg iter l) (tgo : TgOk X.K js gd g) (hg : PG X tg g) (hb : SSs X W DR body b) (hs : ∀ x, foldedSetIterable iter X.env x = pure x := by intro _; rfl) :
    SS X W DR (.For tg iter body [] pos) (bFor l gd b) := PS.imp (ps_for hp hc hi hg hb hs) fun E σ H ⟨N0, F, Ad, M, env, ge0, m, en, r⟩ => by
  refine ⟨N0, F, Ad, M, env, m, en, ?_⟩
  unfold bFor at r
  cases ql : l env M with
  | exc x M1 => rw [ql] at r; exact fun cls dx F' Ad' H' g' m' z => r cls dx σ F' Ad' H' (ge0.trans g') g'.fle g'.pre m' (en.gr g') z
  | stuck => rw [ql] at r; exact r
  | ok ds M1 =>
    rw [ql] at r
    intro J ks F1 Ad1 H1 g1 m1 it k1 k2 kz
    have kz := kz rfl
    subst kz
    refine ⟨fun i mm σ2 H2 => mm = ds.length - i ∧ i ≤ ds.length ∧ ∃ F2 Ad2 M2 env2, GrE N0 F2 Ad2 H2 ∧ FLe F1 F2 ∧ Pre Ad1 Ad2 ∧ MemOk X.K F2 Ad2 M2 H2 ∧ EnvOk X.K N0 F2 Ad2 H2 σ2 env2 ∧ RPS X.K W DR E N0 F2 Ad2 (forL gd b (ds.drop i) env2 M2),
      ⟨_, rfl, Nat.zero_le _, F1, Ad1, M1, env, ge0.trans g1, FLe.refl _, pre_refl, m1, en.gr g1, by simpa using RPS.gr r g1.fle g1.pre⟩, ?_⟩
    rintro i mm σ2 H2 ⟨rfl, hi, F2, Ad2, M2, env2, ge2, l2, p2, m2, en2, r2⟩
    by_cases hlt : i < ds.length
    · right
      refine ⟨it.go i F2 Ad2 M2 H2 hlt l2 p2 m2 (fun _ z => nomatch z), fun σ' H' => i + 1 ≤ ds.length ∧ ∃ F3 Ad3 M3 env3, GrE N0 F3 Ad3 H' ∧ FLe F1 F3 ∧ Pre Ad1 Ad3 ∧ MemOk X.K F3 Ad3 M3 H' ∧ EnvOk X.K N0 F3 Ad3 H' σ' env3 ∧ RPS X.K W DR E N0 F3 Ad3 (forL gd b (ds.drop (i + 1)) env3 M3),
        fun σ' H' ⟨h1, h2⟩ => ⟨ds.length - (i + 1), by omega, rfl, h1, h2⟩, fun x H3 hy => ?_⟩
      obtain ⟨d, F3, hd, g3, m3, x3⟩ := it.yld i F2 Ad2 M2 H2 x H3 hlt l2 p2 m2 (fun _ z => nomatch z) hy
      have hdrop : ds.drop i = d :: ds.drop (i + 1) := by
        rw [List.drop_eq_getElem_cons hlt]
        rw [List.getElem?_eq_getElem hlt] at hd
        cases hd; rfl
      rw [hdrop] at r2
      unfold forL at r2
      cases hgd : gd d env2 with
      | none => rw [hgd] at r2; exact r2.elim
      | some env3 =>
        rw [hgd] at r2
        dsimp only at r2
        refine tgo.ok N0 F3 Ad2 M2 H3 σ2 env2 x d env3 _ m3 (en2.gr g3) x3 hgd fun σ' en' _ => ?_
        refine ⟨N0, F3, Ad2, M2, env3, ge2.trans g3, m3, en', ?_⟩
        have r3 := RPS.gr r2 g3.fle (pre_refl (Ad := Ad2))
        have stp : ∀ env4 M4, RPS X.K W DR E N0 F3 Ad2 (forL gd b (ds.drop (i + 1)) env4 M4) → ∀ σ F' Ad' H', GrE N0 F' Ad' H' → FLe F3 F' → Pre Ad2 Ad' → MemOk X.K F' Ad' M4 H' → EnvOk X.K N0 F' Ad' H' σ env4 →
            (i + 1 ≤ ds.length ∧ ∃ F3 Ad3 M3 env3, GrE N0 F3 Ad3 H' ∧ FLe F1 F3 ∧ Pre Ad1 Ad3 ∧ MemOk X.K F3 Ad3 M3 H' ∧ EnvOk X.K N0 F3 Ad3 H' σ env3 ∧ RPS X.K W DR E N0 F3 Ad3 (forL gd b (ds.drop (i + 1)) env3 M3)) :=
          fun env4 M4 r4 σ F' Ad' H' g' l' p' m' en' => ⟨hlt, F', Ad', M4, env4, g', (l2.trans g3.fle).trans l', p2.trans p', m', en', RPS.gr r4 l' p'⟩
        cases hb : b env3 M2 with
        | next env4 M4 => rw [hb] at r3; exact stp env4 M4 r3
        | cont env4 M4 => rw [hb] at r3; exact stp env4 M4 r3
        | brk env4 M4 => rw [hb] at r3; exact r3
        | ret d M4 => rw [hb] at r3; exact r3
        | exc z env4 M4 => rw [hb] at r3; exact r3
        | stuck => rw [hb] at r3; exact r3
    · left
      have hi2 : i = ds.length := by omega
      subst hi2
      refine ⟨it.stop F2 Ad2 M2 H2 l2 p2 m2 (fun _ z => nomatch z), ?_⟩
      rw [List.drop_length] at r2
      exact r2 σ2 F2 Ad2 H2 ge2 (FLe.refl _) pre_refl m2 en2
/-! ### an own object becomes a value -/
def bShare (i : Nat) : SF := fun env M => match env[i]? with
  | some (.own d) => .next (env.set i (.shr d)) M
  | _ => .stuck
theorem ss_share {K : PySem.W.Frag} (D : Ends) (σ : St) (H : Hp) (h : tS K W DR (bSeq (bShare i) b) D σ H) : tS K W DR b D σ H := by
  obtain ⟨N0, F, Ad, M, env, g, m, en, r⟩ := h
  unfold bSeq bShare at r
  cases hd : env[i]? with
  | none => rw [hd] at r; exact r.elim
  | some bb =>
    cases bb with
    | own d =>
      rw [hd] at r
      dsimp only at r
      obtain ⟨a, c1, c2, c3, c4, c5⟩ := en.own i d hd
      have hl : i < env.length := (List.getElem?_eq_some_iff.mp hd).1
      obtain ⟨F', g', m', dn, l', off⟩ := freeze g m (v := .ref a) ⟨a, rfl, c2, c3, c4, c5⟩
      refine ⟨N0, F', Ad, M, _, g', m', ⟨by simp [en.len], fun j e hj => ?_, fun j e hj => ?_, fun j k e1 e2 b h1 h2 h3 h4 => ?_, fun j e hj => ?_⟩, RPS.gr r l' pre_refl⟩
      · by_cases e1 : i = j
        · subst e1; rw [List.getElem?_set_self hl] at hj; cases hj; exact ⟨_, c1, dn⟩
        · rw [List.getElem?_set_ne e1] at hj
          obtain ⟨v, z1, z2⟩ := en.shr j e hj
          exact ⟨v, z1, z2.mono l' pre_refl⟩
      · have e1 : i ≠ j := fun e1 => by subst e1; rw [List.getElem?_set_self hl] at hj; cases hj
        rw [List.getElem?_set_ne e1] at hj
        obtain ⟨b, b1, b2, b3, b4, b5⟩ := en.own j e hj
        have ne : b ≠ a := fun z => by subst z; exact e1 (en.dis i j d e b hd hj c1 b1)
        exact ⟨b, b1, off b b2 (fun z => ne (by cases z; rfl)), b3, b4, b5.mono l' pre_refl rfl⟩
      · have e1' : i ≠ j := fun e1 => by subst e1; rw [List.getElem?_set_self hl] at h1; cases h1
        have e2' : i ≠ k := fun e1 => by subst e1; rw [List.getElem?_set_self hl] at h2; cases h2
        rw [List.getElem?_set_ne e1'] at h1
        rw [List.getElem?_set_ne e2'] at h2
        exact en.dis j k _ _ b h1 h2 h3 h4
      · have e1 : i ≠ j := fun e1 => by subst e1; rw [List.getElem?_set_self hl] at hj; cases hj
        rw [List.getElem?_set_ne e1] at hj
        obtain ⟨z0, z1, z2, z3, z4, z5, z6⟩ := en.slf j e hj
        have ne : N0.me ≠ a := fun z => z6 i d hd (by rw [c1, z])
        refine ⟨z0, z1, off _ z2 (fun z => ne (by cases z; rfl)), z3, z4, z5.mono l' pre_refl rfl, fun k d2 hk => ?_⟩
        by_cases e2 : i = k
        · subst e2; rw [List.getElem?_set_self hl] at hk; cases hk
        · rw [List.getElem?_set_ne e2] at hk; exact z6 k d2 hk
    | _ => rw [hd] at r; exact r.elim
theorem sss_share (h : SSs X W DR rest b) : SSs X W DR rest (bSeq (bShare i) b) := PSs.imp h fun D σ H x => ss_share D σ H x
end
end MP

set_option maxRecDepth 100000
set_option maxHeartbeats 1000000
namespace MP
open PySem PySem.Spec PyProof.Rows L2
/-! ### isinstance -/
def D.tyN : D → Option String
  | .non => some "NoneType"
  | .bl _ => some "bool"
  | .int _ => some "int"
  | .str _ => some "str"
  | .tup _ => some "tuple"
  | .ktp _ => some "tuple"
  | .lst _ => some "list"
  | .scr _ => some "list"
  | .dK _ => some "dict"
  | .dT _ => some "dict"
  | _ => none
def tyNs : List String := ["NoneType", "bool", "int", "str", "tuple", "list", "dict"]
def subN (n T : String) : Bool := n == T || (n == "bool" && T == "int")
/-- what isinstance asks of T -/
abbrev TyT (T : String) : Prop := ∀ n ∈ tyNs, kitB n T = some (subN n T)
theorem tyT_int : TyT "int" := by decide +kernel
theorem tyT_bool : TyT "bool" := by decide +kernel
theorem tyT_tuple : TyT "tuple" := by decide +kernel
theorem tyT_list : TyT "list" := by decide +kernel
theorem tyT_str : TyT "str" := by decide +kernel
theorem tyT_dict : TyT "dict" := by decide +kernel
theorem D.tyN_mem {d : D} {n : String} (h : d.tyN = some n) : n ∈ tyNs := by
  cases d <;> simp [D.tyN] at h <;> subst h <;> decide
section
variable {X : Cx} {W : WX} {K : PySem.W.Frag} {E : XK} {DR : DRel} {N0 : Ent} {F H : Hp} {Ad : List Addr} {M : List D} {env : EnvM} {σ : St} {Q : VK} {x : V} {e c : Expr} {f : EF} {pos p pc : Pos}
theorem sqT_ty {a : Addr} {xs : List V} (h : SqT K H a xs) : TyX K H (.ref a) (.type "tuple") := by
  rcases h with (h | ⟨o, h⟩) | ⟨o, its, n, hk, hc, _⟩
  · exact .base (.tup h)
  · exact .fTuple h
  · exact .kTuple hk hc
theorem sqL_ty {a : Addr} {xs : List V} (h : SqL K H a xs) : TyX K H (.ref a) (.type "list") := by
  rcases h with (h | ⟨o, h⟩) | ⟨o, its, n, hk, hc, _⟩
  · exact .base (.lst h)
  · exact .base (.frz h)
  · exact .kList hk hc
theorem DV.ty (m : MemOk K F Ad M H) {d : D} {n : String} (h : DV K F Ad H x d) (e : d.tyN = some n) (hd : ∀ k, d ≠ .dT k) : TyX K H x (.type n) := by
  cases d with
  | non => cases e; rw [h.non]; exact .base .non
  | bl b => cases e; rw [h.bl]; exact .base (.bl _)
  | int b => cases e; rw [h.int]; exact .base (.int _)
  | str b => cases e; rw [h.str]; exact .base (.str _)
  | tup b => cases e; obtain ⟨a, vs, rfl, h1, _⟩ := h.tup m; exact .base (.tup h1)
  | ktp b => cases e; obtain ⟨a, vs, rfl, h1, _⟩ := h.ktp m; exact sqT_ty h1
  | lst b => cases e; obtain ⟨a, vs, rfl, h1, _⟩ := h.lst m; exact .base (.lst h1)
  | scr b => cases e; obtain ⟨a, rfl, h1⟩ := h.scr m; exact sqL_ty h1
  | dK b =>
    cases e
    obtain ⟨a, vs, rfl, h1, _⟩ := h.dK m
    rcases h1 with h1 | ⟨o, h1⟩
    · exact .base (.dK h1)
    · exact .fDict h1
  | dT b => exact absurd rfl (hd b)
  | ins c fs => cases e
  | cel n => cases e
/-- a class's instances for isinstance -/
structure ClsT (K : PySem.W.Frag) (c : Str) : Prop where
  cl : Cls K (He.ga K c)
  ha : PySem.W.findIn K (.ref (He.ga K c)) "__class__" = some (some (.builtin "object.__class__"))
  hn : PySem.W.specialIn K (.builtin "object.__class__") "__get__" = some (some (.builtin "getset_descriptor.__get__"))
  htk : PySem.W.takesIn K (.builtin "object.__class__") = some true
  hm : PySem.W.mroIn K (He.ga K c) (.type "object") = some true
/-- k tells isinstance(.., u) -/
def IsK (K : PySem.W.Frag) (u : Value) (k : D → Option Bool) : Prop := ∀ (F : Hp) (Ad : List Addr) (M : List D) (H : Hp) (x : V) (d : D) (b : Bool), MemOk K F Ad M H → DV K F Ad H x d → k d = some b → ∃ t, TyX K H x t ∧ PySem.W.kitOne K t u = some b
/-- of a built-in type T; cs are own classes that are none -/
def isT (T : String) (cs : List Str) (d : D) : Option Bool := match d with
  | .dT _ => none
  | .ins c _ => if cs.contains c = true then some false else none
  | d => d.tyN.map fun n => subN n T
theorem isK_T {T : String} {cs : List Str} (hT : TyT T) (hc : ∀ c ∈ cs, ClsT K c ∧ PySem.W.kitOne K (.ref (He.ga K c)) (.type T) = some false) : IsK K (.type T) (isT T cs) := by
  intro F Ad M H x d b m h e
  have gen : ∀ d' : D, (∀ k, d' ≠ .dT k) → d'.tyN.map (fun n => subN n T) = some b → DV K F Ad H x d' → ∃ t, TyX K H x t ∧ PySem.W.kitOne K t (.type T) = some b := fun d' hn e' h' => by
    rw [Option.map_eq_some_iff] at e'
    obtain ⟨n, e1, e2⟩ := e'
    exact ⟨_, h'.ty m e1 hn, by rw [← e2]; exact kit_ty (hT n (D.tyN_mem e1))⟩
  cases d with
  | dT k => cases e
  | ins c fs =>
    dsimp only [isT] at e
    split at e
    · rename_i hcs
      cases e
      obtain ⟨a, dx, vs, rfl, h1, _⟩ := h.ins m
      obtain ⟨z, hk⟩ := hc c (by simpa using hcs)
      exact ⟨_, .base (.ins h1 z.cl z.ha z.hn z.htk z.hm), hk⟩
    · cases e
  | non => exact gen (.non) (fun _ z => nomatch z) e h
  | bl y => exact gen (.bl y) (fun _ z => nomatch z) e h
  | int y => exact gen (.int y) (fun _ z => nomatch z) e h
  | str y => exact gen (.str y) (fun _ z => nomatch z) e h
  | tup y => exact gen (.tup y) (fun _ z => nomatch z) e h
  | ktp y => exact gen (.ktp y) (fun _ z => nomatch z) e h
  | lst y => exact gen (.lst y) (fun _ z => nomatch z) e h
  | scr y => exact gen (.scr y) (fun _ z => nomatch z) e h
  | dK y => exact gen (.dK y) (fun _ z => nomatch z) e h
  | cel _ => cases e
def oIsi (k : D → Option Bool) (d : D) (M : List D) : R := match k (view M d) with
  | some b => .ok (.bl b) M
  | none => .stuck
theorem se_isi {k : D → Option Bool} {cv : V} {u : Value} (hk : IsK X.K u k) (he : SB X W e f) (hc : PE X c (fun _ H Q => Q cv H)) (hcv : ClsV cv u) (hg : Gl X "isinstance") (hm : X.mg "isinstance" = none)
    (hs1 : starEach [e, c] X.env = (false, eval e X.env) :: starEach [c] X.env := by rfl) (hs2 : starEach [c] X.env = [(false, eval c X.env)] := by rfl) (hpl : (backTo pos (starEach [c] X.env)).any (·.1) = false := by rfl) :
    SE X W (.Call (.Name "isinstance" p) [e, c] [] pos) (e1 (oIsi k) f) := by
  refine ⟨fun pins s σ H Q I ⟨N0, F, Ad, M, env, m, en, r⟩ => ?_⟩
  have ha : PA X [e, c] (fun σ H Q => tG X.K W (DB X.K) f σ H fun x H1 => Q [x, cv] H1) := pa_cons he (pa_cons hc pa_nil hs2) hs1
  refine wpAny_Call_Name_kw (ld_blt I hg hm (show bootBuiltins "isinstance" = some (.builtin "isinstance") by decide +kernel) ?_ (by decide) (by decide))
  refine PyProof.Rows.callWith_builtin1 (thn (ha.run pos pins s σ H (fun vs H1 => ∃ F1 Ad1 M1 d v, vs = [v, cv] ∧ MemOk X.K F1 Ad1 M1 H1 ∧ DB X.K H1 F1 Ad1 H1 v d ∧ RP X.K (fun c d H => W c d σ H) (DE X.K) F1 Ad1 H1 Q (oIsi k d M1)) I
    (tG_seq DE.ok m en r fun d M1 v F1 Ad1 H1 g1 m1 en1 x1 r1 => ⟨F1, Ad1, M1, d, v, rfl, m1, x1, r1⟩)) fun us s1 ⟨vs, H1, I1, rv, F1, Ad1, M1, d, v, ev, m1, x1, r1⟩ => ?_) hs1 hpl
  unfold oIsi at r1
  split at r1
  · rename_i b hb
    obtain ⟨t, ht, hkit⟩ := hk F1 Ad1 M1 H1 v _ b m1 (DB.view m1 x1) hb
    exact call_isi pins s1 σ H1 vs us Q I1 rv ⟨v, cv, t, u, b, ev, hcv, ht, hkit, RP.here r1 m1 .bl⟩
  · exact r1.elim
theorem pe_tyN {n : String} {y : Str} (hg : Gl X y) (hm : X.mg y = none) (hv : bootBuiltins y = some (.type n)) (hn : y ≠ "__name__" := by decide) (hd : (y == ("__debug__" : Str)) = false := by decide) : PE X (.Name y pos) (fun _ H Q => Q (.ty n) H) :=
  pe_bltn (v := .ty n) hg hm hv (show RelV (.ty n) (.type n) from rfl) hn hd

/-! ### dict(pairs) -/
def pairsD : List D → Option (List (Key × D))
  | [] => some []
  | .tup [k, v] :: r => match keyD k, pairsD r with
    | some q, some l => some ((q, v) :: l)
    | _, _ => none
  | _ :: _ => none
def mrgD (kvs more : List (Key × D)) : List (Key × D) := more.foldl (fun acc kv => insK acc kv.1 kv.2) kvs
theorem mrg_ok : ∀ {more : List (Key × V)} {md : List (Key × D)} {kvs : List (Key × V)} {kd : List (Key × D)}, DenK K F Ad more md → DenK K F Ad kvs kd → DenK K F Ad (mergeK kvs more) (mrgD kd md)
  | _, _, _, _, .nil, h => h
  | _, _, _, _, .cons (k := k) q r, h => by
    have z := mrg_ok r (h.put (k := k) q)
    exact z
theorem pairs_ok (m : MemOk K F Ad M H) : ∀ {vs ds l}, DenL K F Ad vs ds → pairsD ds = some l → ∃ (ps : List Addr) (kvs : List (Key × V)), vs = ps.map V.ref ∧ Paired (fun p kv => SqT K H p [kV kv.1, kv.2]) ps kvs ∧ DenK K F Ad kvs l
  | _, _, l, .nil, e => by simp [pairsD] at e; subst e; exact ⟨[], [], rfl, .nil, .nil⟩
  | _, _, l, .cons (d := d) h r, e => by
    unfold pairsD at e
    split at e
    · rename_i hh; cases hh
    · rename_i k v r' hh
      cases hh
      split at e
      · rename_i q l' e1 e2
        cases e
        obtain ⟨ps, kvs, rfl, h2, h3⟩ := pairs_ok m r e2
        cases h with
        | tup h4 h5 =>
          cases h5 with
          | cons a1 a2 => cases a2 with
            | cons a3 a4 => cases a4; exact ⟨_ :: ps, (q, _) :: kvs, rfl, .cons (by rw [← keyD_v a1 e1]; exact SqT.of (m.sub _ _ h4)) h2, .cons a3 h3⟩
      · cases e
    · cases e
def bDict (ds : List D) (M : List D) : R := match ds with
  | [d] => (match view M d with
    | .lst xs => (match pairsD xs with
      | some l => .ok (.dK (mrgD [] l)) M
      | none => .stuck)
    | _ => .stuck)
  | _ => .stuck
theorem call_dictS (hc : X.calm = true) : CallS X (DO X.K) (.type "dict") bDict := by
  intro pins s σ H F Ad M E xs us ds Q I m rv x r
  unfold bDict at r
  split at r
  · rename_i d
    obtain ⟨v, rfl, hx⟩ := x.one
    have ax := DB.view m hx
    split at r
    · rename_i ys e; rw [e] at ax; obtain ⟨a, vs, rfl, h1, h2⟩ := ax.lst m
      split at r
      · rename_i l hl
        obtain ⟨ps, kvs, rfl, h3, h4⟩ := pairs_ok m h2 hl
        exact call_dictP hc pins s σ H _ us Q I rv ⟨a, ps, kvs, rfl, SqL.of h1, h3, fun p hp => RP.ownDK r m (mrg_ok h4 .nil) hp⟩
      · exact r.elim
    · exact r.elim
  · exact r.elim
end
/-! ### a def's promise out of its body -/
def env0 (n : Nat) (ds : List D) : EnvM := ds.map B.shr ++ List.replicate (n - ds.length) B.no
def endE (r : RS) : R := match r with
  | .ret d M => .ok d M
  | .next _ M => .ok .non M
  | .exc x _ M => .exc x M
  | _ => .stuck
def endO (r : RS) : R := match r with
  | .ret d M => .ok d M
  | .exc x _ M => .exc x M
  | _ => .stuck
def endI (r : RS) : R := match r with
  | .next env M => (match (env[0]? : Option B) with | some (B.slf d) => .ok d M | _ => .stuck)
  | .exc x _ M => .exc x M
  | _ => .stuck
section
variable {P : Program} {w : World} {K : PySem.W.Frag} {mg : Str → Option Value} {base : Heap} {x qual : Str} {params : Arguments} {body : List Stmt} {scope : Scope} {dvs : List V} {kws : List (Str × V)} {f : Addr} {fd : FuncData} {N ps : List Str} {k : Nat} {F H : Hp} {Ad : List Addr} {M : List D}
abbrev wxE (E : XK) : WX := fun c d _ H => E c d H
theorem env0_ok {vs : List V} {ds : List D} (x : DenL K F Ad vs ds) (me : Addr) : EnvOk K ⟨H, F, Ad, me⟩ F Ad H (L2.start N vs) (env0 N.length ds) := by
  have hl := x.length
  have hs : ∀ {i : Nat} {b : B}, (env0 N.length ds)[i]? = some b → b ≠ .no → ∃ d, ds[i]? = some d ∧ b = .shr d := fun {i b} h hb => by
    unfold env0 at h
    by_cases hi : i < ds.length
    · rw [List.getElem?_append_left (by simpa using hi), List.getElem?_map, List.getElem?_eq_getElem hi] at h
      exact ⟨_, List.getElem?_eq_getElem hi, by simpa using h.symm⟩
    · rw [List.getElem?_append_right (by simpa using hi), List.getElem?_replicate] at h
      split at h
      · cases h; exact absurd rfl hb
      · cases h
  refine ⟨by unfold env0 L2.start; simp [hl], fun i d h => ?_, fun i d h => ?_, fun i j d e a h _ _ _ => ?_, fun i d h => ?_⟩
  · obtain ⟨d', h1, h2⟩ := hs h (fun z => nomatch z)
    cases h2
    obtain ⟨v, h3, h4⟩ := x.get h1
    refine ⟨v, ?_, h4⟩
    unfold L2.start
    rw [List.getElem?_append_left (by simpa using (List.getElem?_eq_some_iff.mp h3).1), List.getElem?_map, h3]; rfl
  · obtain ⟨d', h1, h2⟩ := hs h (fun z => nomatch z); cases h2
  · obtain ⟨d', h1, h2⟩ := hs h (fun z => nomatch z); cases h2
  · obtain ⟨d', h1, h2⟩ := hs h (fun z => nomatch z); cases h2
theorem fnok_of {DR : DRel} {fin : RS → R} {n : Nat} {b : SF} (Fd : FunD K x qual params body scope dvs kws f fd) (S : FnScope N ps scope) (hn : ps.length = n)
    (hfin : ∀ (E : XK) (Q : VK) (F H : Hp) (Ad : List Addr) (r : RS), RP K E DR F Ad H Q (fin r) → RPS K (wxE E) DR { nx := fun _ H' => Q .non H', rt := Q } ⟨H, F, Ad, 0⟩ F Ad r)
    (hbody : ∀ (cdv : Value) (A : Around) (outer : List Env) (s : Shared) (H : Hp) (E : XK), Room k (A.deeper (envOfC qual scope s.heap.objs.size f cdv)) → SSs (cxOf (L2.CX P w) P w K mg base N qual scope f cdv A outer s H E) (wxE E) DR body b) :
    FnOk P w K mg base (L2.CX P w) (k + 1) f fd ps (spD K DR n (fun ds M => fin (b (env0 N.length ds) M))) := by
  refine MP.fn_of Fd S (fun vs H Q E h => h.1.trans hn.symm) fun cdv A outer s H vs Q E hr hsp => ⟨_, hbody cdv A outer s H E hr, ?_⟩
  obtain ⟨_, F, Ad, M, ds, m, dx, r⟩ := hsp
  exact ⟨⟨H, F, Ad, 0⟩, F, Ad, M, _, Gr.refl, m, env0_ok dx 0, hfin E Q F H Ad _ r⟩
theorem fnk_of {DR : DRel} {fin : RS → R} {n : Nat} {dd : List D} {us : List Value} {b : SF} (Fd : FunD K x qual params body scope dvs kws f fd) (S : FnScope N ps scope) (hn : ps.length = n) (hb : Binds K fd ps us) (hv : Vals dvs us) (hdd : ∀ F Ad, DenL K F Ad dvs dd)
    (hfin : ∀ (E : XK) (Q : VK) (F H : Hp) (Ad : List Addr) (r : RS), RP K E DR F Ad H Q (fin r) → RPS K (wxE E) DR { nx := fun _ H' => Q .non H', rt := Q } ⟨H, F, Ad, 0⟩ F Ad r)
    (hbody : ∀ (cdv : Value) (A : Around) (outer : List Env) (s : Shared) (H : Hp) (E : XK), Room k (A.deeper (envOfC qual scope s.heap.objs.size f cdv)) → SSs (cxOf (L2.CX P w) P w K mg base N qual scope f cdv A outer s H E) (wxE E) DR body b) :
    FnK P w K mg base DR (k + 1) n f dd (fun ds M => fin (b (env0 N.length ds) M)) := ⟨fd, ps, dvs, us, fnok_of Fd S hn hfin hbody, hb, hv, hdd, Fd.kp⟩
theorem finE (E : XK) (Q : VK) (F H : Hp) (Ad : List Addr) (r : RS) (h : RP K E (DE K) F Ad H Q (endE r)) : RPS K (wxE E) (DE K) { nx := fun _ H' => Q .non H', rt := Q } ⟨H, F, Ad, 0⟩ F Ad r := by
  cases r with
  | next env M => exact fun σ F' Ad' H' g l p m en => h .non F' Ad' H' g m .non
  | ret d M => exact fun v F' Ad' H' g m x => h v F' Ad' H' g m x
  | brk env M => exact h.elim
  | cont env M => exact h.elim
  | exc x env M => exact fun cls dx σ F' Ad' H' g l p m en z => h cls dx F' Ad' H' g m z
  | stuck => exact h
theorem finO (E : XK) (Q : VK) (F H : Hp) (Ad : List Addr) (r : RS) (h : RP K E (DO K) F Ad H Q (endO r)) : RPS K (wxE E) (DO K) { nx := fun _ H' => Q .non H', rt := Q } ⟨H, F, Ad, 0⟩ F Ad r := by
  cases r with
  | next env M => exact h.elim
  | ret d M => exact fun v F' Ad' H' g m x => h v F' Ad' H' g m x
  | brk env M => exact h.elim
  | cont env M => exact h.elim
  | exc x env M => exact fun cls dx σ F' Ad' H' g l p m en z => h cls dx F' Ad' H' g m z
  | stuck => exact h
/-- __init__ -/
def env0I (n : Nat) (cn : Str) (ds : List D) : EnvM := B.slf (.ins cn []) :: (ds.map B.shr ++ List.replicate (n - (ds.length + 1)) B.no)
theorem fnoki_of {n : Nat} {cn : Str} {b : SF} (Fd : FunD K x qual params body scope dvs kws f fd) (S : FnScope N ps scope) (hn : ps.length = n + 1)
    (hbody : ∀ (cdv : Value) (A : Around) (outer : List Env) (s : Shared) (H : Hp) (E : XK), Room k (A.deeper (envOfC qual scope s.heap.objs.size f cdv)) → SSs (cxOf (L2.CX P w) P w K mg base N qual scope f cdv A outer s H E) (wxE E) (DE K) body b) :
    MP.FnOk P w K mg base (L2.CX P w) (k + 1) f fd ps (spI K cn n (fun ds M => endI (b (env0I N.length cn ds) M))) := by
  refine MP.fn_of Fd S (fun vs H Q E h => h.1.trans hn.symm) fun cdv A outer s H vs Q E hr hsp => ⟨_, hbody cdv A outer s H E hr, ?_⟩
  obtain ⟨hlen, xx, dx, rest, HH, F, Ad, M, ds, rfl, rfl, n1, n2, ne, m, dl, r⟩ := hsp
  have hl := dl.length
  have g1 : Gr F Ad HH F Ad (upd HH dx (.own xx)) := gr_own n2
  have n1' : upd HH dx (.own xx) xx = none := by rw [upd_ne (Ne.symm ne)]; exact n1
  have g2 := g1.trans (gr_own (o := .ins (He.ga K cn) dx []) n1')
  have m2 := mem_own (o := .ins (He.ga K cn) dx []) (mem_own (o := .own xx) m n2) n1'
  have hs : ∀ {i : Nat} {bb : B}, (env0I N.length cn ds)[i]? = some bb → bb ≠ .no → (i = 0 ∧ bb = .slf (.ins cn [])) ∨ ∃ j d, i = j + 1 ∧ ds[j]? = some d ∧ bb = .shr d := fun {i bb} h hb => by
    unfold env0I at h
    cases i with
    | zero => simp at h; exact .inl ⟨rfl, h.symm⟩
    | succ i =>
      right
      simp only [List.getElem?_cons_succ] at h
      by_cases hi : i < ds.length
      · rw [List.getElem?_append_left (by simpa using hi), List.getElem?_map, List.getElem?_eq_getElem hi] at h
        exact ⟨i, _, rfl, List.getElem?_eq_getElem hi, by simpa using h.symm⟩
      · rw [List.getElem?_append_right (by simpa using hi), List.getElem?_replicate] at h
        split at h
        · cases h; exact absurd rfl hb
        · cases h
  refine ⟨⟨HH, F, Ad, xx⟩, F, Ad, M, env0I N.length cn ds, g2, m2, ⟨?_, fun i d h => ?_, fun i d h => ?_, fun i j d e a h _ _ _ => ?_, fun i d h => ?_⟩, ?_⟩
  · unfold env0I L2.start; simp [hl]
  · rcases hs h (fun z => nomatch z) with ⟨_, z⟩ | ⟨j, d', rfl, h1, h2⟩
    · cases z
    · cases h2
      obtain ⟨v, h3, h4⟩ := dl.get h1
      refine ⟨v, ?_, h4⟩
      unfold L2.start
      simp only [List.map_cons, List.cons_append, List.getElem?_cons_succ]
      rw [List.getElem?_append_left (by simpa using (List.getElem?_eq_some_iff.mp h3).1), List.getElem?_map, h3]; rfl
  · rcases hs h (fun z => nomatch z) with ⟨_, z⟩ | ⟨j, d', rfl, h1, h2⟩
    · cases z
    · cases h2
  · rcases hs h (fun z => nomatch z) with ⟨_, z⟩ | ⟨j, d', rfl, h1, h2⟩
    · cases z
    · cases h2
  · rcases hs h (fun z => nomatch z) with ⟨rfl, z⟩ | ⟨j, d', rfl, h1, h2⟩
    · cases z
      refine ⟨rfl, rfl, m.none n1, m.notin n1, n1, .ins upd_same .nil, fun j e hj => ?_⟩
      rcases hs hj (fun z => nomatch z) with ⟨_, z⟩ | ⟨j', d', rfl, h1, h2⟩
      · cases z
      · cases h2
    · cases h2
  · show RPS K (wxE E) (DE K) _ _ F Ad (b (env0I N.length cn ds) M)
    cases hq : b (env0I N.length cn ds) M with
    | next env M' =>
      simp only [hq, endI] at r
      intro σ F' Ad' H' g l p m' en
      split at r
      · rename_i d hd
        obtain ⟨_, c1, c2, c3, c4, c5, _⟩ := en.slf 0 d hd
        exact r (.ref xx) F' Ad' H' g m' ⟨xx, rfl, c2, c3, c4, c5⟩ rfl
      · exact r.elim
    | ret d M' => simp only [hq, endI] at r; exact r.elim
    | brk env M' => simp only [hq, endI] at r; exact r.elim
    | cont env M' => simp only [hq, endI] at r; exact r.elim
    | exc z env M' => simp only [hq, endI] at r; exact fun cls dx2 σ F' Ad' H' g l p m' en zz => r cls dx2 F' Ad' H' g m' zz
    | stuck => simp only [hq, endI] at r; exact r.elim
theorem ink_of {n : Nat} {cn : Str} {dd : List D} {us : List Value} {b : SF} (Mm : Mk K (He.ga K cn) f) (Fd : FunD K x qual params body scope dvs kws f fd) (S : FnScope N ps scope) (hn : ps.length = n + 1) (hb : Binds K fd ps us) (hv : Vals dvs us) (hdd : ∀ F Ad, DenL K F Ad dvs dd)
    (hbody : ∀ (cdv : Value) (A : Around) (outer : List Env) (s : Shared) (H : Hp) (E : XK), Room k (A.deeper (envOfC qual scope s.heap.objs.size f cdv)) → SSs (cxOf (L2.CX P w) P w K mg base N qual scope f cdv A outer s H E) (wxE E) (DE K) body b) :
    InK P w K mg base (k + 1) n cn f dd (fun ds M => endI (b (env0I N.length cn ds) M)) := 
  ⟨Mm, fd, ps, dvs, us, fnoki_of Fd S hn hbody, hb, hv, hdd⟩
end
end MP

set_option maxRecDepth 100000
set_option maxHeartbeats 1000000
namespace MP
open PySem PySem.Spec PyProof.Rows L2
/-! ### what the head tells -/
/-- a property's getter -/
def prA (K : PySem.W.Frag) (C f : Str) : Addr := match PySem.W.recIn K (He.ma K (He.ga K C) f) "property" with
  | some (.ref g :: _) => g
  | _ => 0
/-- where a def stands: a global's, a method, a property's getter -/
inductive Loc3 where
  | g (x : Str) | m (C f : Str) | p (C f : Str)
def Loc3.at_ (K : PySem.W.Frag) : Loc3 → Addr
  | .g x => He.ga K x
  | .m C f => He.ma K (He.ga K C) f
  | .p C f => prA K C f
structure DefM where
  loc : Loc3
  name : Str
  qual : Str
  params : Arguments
  body : List Stmt
  scope : Scope
  dfl : List He.Dv := []
  kwd : List (Str × He.Dv) := []
def DefM.val (d : DefM) : He.FnW := some (d.name, d.qual, d.params, .stmts d.body, d.scope, mainGlobals, [], builtinsNs)
def DefM.dvs (K : PySem.W.Frag) (d : DefM) : List V := d.dfl.map (He.Dv.v K)
def DefM.kws (K : PySem.W.Frag) (d : DefM) : List (Str × V) := d.kwd.map fun p => (p.1, p.2.v K)
def fnA (K : PySem.W.Frag) (a : Addr) : He.FnW := match K.lookup a with
  | some ⟨_, _, .func fd, _⟩ => some (fd.name, fd.qualname, fd.params, fd.body, fd.scope, fd.globals, fd.closure, fd.builtins)
  | _ => none
def DefM.ok (K : PySem.W.Frag) (d : DefM) : Bool := PySem.W.keepIn K (.ref (d.loc.at_ K)) && (match K.lookup (d.loc.at_ K) with
  | some ⟨_, _, .func fd, _⟩ => PySem.W.codeIn K fd.code d.qual && (He.dflB K fd.defaults (d.dvs K) && He.kwdB K fd.kwdefaults (d.kws K))
  | _ => false)
theorem DefM.funD {K : PySem.W.Frag} {d : DefM} (e : fnA K (d.loc.at_ K) = d.val) (c : d.ok K = true) : ∃ fd, FunD K d.name d.qual d.params d.body d.scope (d.dvs K) (d.kws K) (d.loc.at_ K) fd := by
  obtain ⟨kp, c2⟩ := He.ba c
  unfold fnA at e
  cases q : K.lookup (d.loc.at_ K) with
  | none => rw [q] at c2; cases c2
  | some o =>
    rw [q] at c2 e
    obtain ⟨oc, od, dt, osl⟩ := o
    cases dt with
    | func fd =>
      obtain ⟨n1, n2, n3, n4, n5, n6, n7, n8, n9, n10, n11, n12, n13, n14, n15⟩ := fd
      have e2 : (some (n1, n2, n3, n4, n5, n6, n7, n15) : He.FnW) = d.val := e
      unfold DefM.val at e2
      simp only [Option.some.injEq, Prod.mk.injEq] at e2
      obtain ⟨h1, h2, h3, h4, h5, h6, h7, h8⟩ := e2
      subst h1 h2 h3 h4 h5 h6 h7 h8
      obtain ⟨k1, k2⟩ := He.ba c2
      obtain ⟨k3, k4⟩ := He.ba k2
      exact ⟨_, ⟨oc, od, n8, n9, n10, n11, n12, n13, n14, osl, rfl, q, k1, He.dflB_ok k3, He.kwdB_ok k4⟩, kp⟩
    | _ => cases c2
/-- more facts -/
inductive Fm where
  | prop (C f : Str)
  | clsT (c : Str)
  | kit (c : Str) (T : String) (b : Bool)
  | kitT (T : String) (c : Str) (b : Bool)
  | kitC (c d : Str) (b : Bool)
  | kitA (c : Str)
  /-- a module's tuple of texts -/
  | strs (x : Str) (ws : List Str)
def clsTB (K : PySem.W.Frag) (c : Str) : Bool := (He.Fa.cls c).ok K && (He.eqO (PySem.W.findIn K (.ref (He.ga K c)) "__class__") (some (some (.builtin "object.__class__"))) && (He.eqO (PySem.W.specialIn K (.builtin "object.__class__") "__get__") (some (some (.builtin "getset_descriptor.__get__"))) &&
  (decide (PySem.W.takesIn K (.builtin "object.__class__") = some true) && decide (PySem.W.mroIn K (He.ga K c) (.type "object") = some true))))
theorem clsTB_ok {K : PySem.W.Frag} {c : Str} (h : clsTB K c = true) : ClsT K c := by
  obtain ⟨h1, h⟩ := He.ba h
  obtain ⟨h2, h⟩ := He.ba h
  obtain ⟨h3, h⟩ := He.ba h
  obtain ⟨h4, h5⟩ := He.ba h
  exact ⟨He.cls_ok h1, He.eqO_ok h2, He.eqO_ok h3, of_decide_eq_true h4, of_decide_eq_true h5⟩
def propB (K : PySem.W.Frag) (C f : Str) : Bool := He.eqO (PySem.W.findIn K (.ref (He.ga K C)) f) (some (some (.ref (He.ma K (He.ga K C) f)))) && (He.eqO (PySem.W.specialIn K (.ref (He.ma K (He.ga K C) f)) "__get__") (some (some (.builtin "property.__get__"))) &&
  (decide (PySem.W.takesIn K (.ref (He.ma K (He.ga K C) f)) = some true) && (match PySem.W.recIn K (He.ma K (He.ga K C) f) "property" with
    | some (.ref _ :: _) => true
    | _ => false)))
theorem propB_ok {K : PySem.W.Frag} {C f : Str} (h : propB K C f = true) : PropOf K (He.ga K C) f (He.ma K (He.ga K C) f) (prA K C f) := by
  obtain ⟨h1, h⟩ := He.ba h
  obtain ⟨h2, h⟩ := He.ba h
  obtain ⟨h3, h⟩ := He.ba h
  refine ⟨He.eqO_ok h1, He.eqO_ok h2, of_decide_eq_true h3, ?_⟩
  unfold prA
  split at h
  · rename_i g rest e
    rw [e]
    exact ⟨rest, rfl⟩
  · cases h
def isTupC : Value → Bool
  | .type n => decide (n = "tuple")
  | _ => false
theorem isTupC_ok {c : Value} (h : isTupC c = true) : c = .type "tuple" := by
  cases c with
  | type n => exact congrArg _ (of_decide_eq_true h)
  | _ => cases h
def strsB (K : PySem.W.Frag) (x : Str) (ws : List Str) : Bool := match K.lookup (He.ga K x) with
  | some ⟨cls, _, .seq its _, _⟩ => isTupC cls && (decide (its.size ≤ sizeLine) && He.relAll (ws.map V.str) its.toList)
  | _ => false
theorem strsB_ok {K : PySem.W.Frag} {x : Str} {ws : List Str} {H : Hp} (h : strsB K x ws = true) : SqT K H (He.ga K x) (ws.map V.str) := by
  unfold strsB at h
  split at h
  · rename_i cls dd its n sl e
    obtain ⟨h1, h⟩ := He.ba h
    obtain ⟨h2, h3⟩ := He.ba h
    exact .inr ⟨_, its, n, e, isTupC_ok h1, rfl, of_decide_eq_true h2, He.relAll_ok h3⟩
  · cases h
def Fm.ok (K : PySem.W.Frag) : Fm → Bool
  | .prop C f => propB K C f
  | .clsT c => clsTB K c
  | .kit c T b => decide (PySem.W.kitOne K (.ref (He.ga K c)) (.type T) = some b)
  | .kitT T c b => decide (PySem.W.kitOne K (.type T) (.ref (He.ga K c)) = some b)
  | .kitC c d b => decide (PySem.W.kitOne K (.ref (He.ga K c)) (.ref (He.ga K d)) = some b)
  | .kitA c => tyNs.all fun n => decide (PySem.W.kitOne K (.type n) (.ref (He.ga K c)) = some false)
  | .strs x ws => strsB K x ws
theorem kitA_ok {K : PySem.W.Frag} {c : Str} (h : (Fm.kitA c).ok K = true) : ∀ n ∈ tyNs, PySem.W.kitOne K (.type n) (.ref (He.ga K c)) = some false := fun n hn => of_decide_eq_true (List.all_eq_true.mp h n hn)
abbrev AlM : Type := Bool × List He.FnW
def obsM (fa : List He.Fa) (fm : List Fm) (fn : List DefM) (K : PySem.W.Frag) : AlM := ((fa.all fun f => f.ok K) && ((fm.all fun f => f.ok K) && fn.all fun d => d.ok K), fn.map fun d => fnA K (d.loc.at_ K))
def valM (fn : List DefM) : AlM := (true, fn.map DefM.val)
def SaysM (fa : List He.Fa) (fm : List Fm) (fn : List DefM) (K : PySem.W.Frag) : Prop := obsM fa fm fn K = valM fn
def hookM (n : Nat) (fa : List He.Fa) (fm : List Fm) (fn : List DefM) : PySem.W.Hook where
  α := AlM
  obs := fun s => obsM fa fm fn (He.frG s.heap.get? (He.asD s.heap.get? n))
  val := fun _ => valM fn
  says := fun _ h => ∃ K : PySem.W.Frag, K.In h ∧ SaysM fa fm fn K
  of := fun _ _ e => ⟨_, He.frG_in, e⟩
  keeps := fun _ _ _ ⟨K, hK, c⟩ k => ⟨K, PySem.W.Frag.In.keeps hK k, c⟩
def obG (n : Nat) (fa : List He.Fa) (fm : List Fm) (fn : List DefM) (g : Addr → Option Obj) : AlM := obsM fa fm fn (He.frG g (He.asD g n))
theorem obG_eq {n : Nat} {fa : List He.Fa} {fm : List Fm} {fn : List DefM} {g : Addr → Option Obj} {s : Shared} (h : ∀ a, g a = s.heap.get? a) : obG n fa fm fn g = (hookM n fa fm fn).obs s := by
  have e : g = s.heap.get? := funext h
  subst e
  rfl
section
variable {fa : List He.Fa} {fm : List Fm} {fn : List DefM} {K : PySem.W.Frag}
theorem SaysM.all (c : SaysM fa fm fn K) : (fa.all fun f => f.ok K) = true ∧ (fm.all fun f => f.ok K) = true ∧ (fn.all fun d => d.ok K) = true := by
  have e : ((fa.all fun f => f.ok K) && ((fm.all fun f => f.ok K) && fn.all fun d => d.ok K)) = true := congrArg (fun z : AlM => z.1) c
  obtain ⟨h1, h⟩ := He.ba e
  obtain ⟨h2, h3⟩ := He.ba h
  exact ⟨h1, h2, h3⟩
theorem SaysM.a (c : SaysM fa fm fn K) (i : Nat) {f : He.Fa} (h : fa[i]? = some f) : f.ok K = true := List.all_eq_true.mp c.all.1 f (List.mem_of_getElem? h)
theorem SaysM.b (c : SaysM fa fm fn K) (i : Nat) {f : Fm} (h : fm[i]? = some f) : f.ok K = true := List.all_eq_true.mp c.all.2.1 f (List.mem_of_getElem? h)
theorem SaysM.d (c : SaysM fa fm fn K) (i : Nat) {d : DefM} (h : fn[i]? = some d) : ∃ fd, FunD K d.name d.qual d.params d.body d.scope (d.dvs K) (d.kws K) (d.loc.at_ K) fd := by
  refine DefM.funD ?_ (List.all_eq_true.mp c.all.2.2 d (List.mem_of_getElem? h))
  have e : (fn.map fun d => fnA K (d.loc.at_ K)) = fn.map DefM.val := congrArg (fun z : AlM => z.2) c
  have e2 := congrArg (fun l : List He.FnW => l[i]?) e
  simp only [List.getElem?_map, h, Option.map_some, Option.some.injEq] at e2
  exact e2
end
/-- the frame of a row's body -/
theorem takesX {P : Program} {w : World} {K : PySem.W.Frag} {mg : Str → Option Value} {base : Heap} {N : List Str} {qual : Str} {scope : Scope} {f : Addr} {cd : Value} {A : Around} {outer : List Env} {s : Shared} {H : Hp} {E : XK} :
    Takes (cxOf (L2.CX P w) P w K mg base N qual scope f cd A outer s H E) (wxE E) := takes_of (X := cxOf (L2.CX P w) P w K mg base N qual scope f cd A outer s H E) (E := E) rfl rfl rfl rfl
theorem pasX {P : Program} {w : World} {K : PySem.W.Frag} {mg : Str → Option Value} {base : Heap} {N : List Str} {qual : Str} {scope : Scope} {f : Addr} {cd : Value} {A : Around} {outer : List Env} {s : Shared} {H : Hp} {E : XK} :
    Pas (cxOf (L2.CX P w) P w K mg base N qual scope f cd A outer s H E) (wxE E) := fun σ => passAt takesX σ
theorem ownX {P : Program} {w : World} {K : PySem.W.Frag} {mg : Str → Option Value} {base : Heap} {N : List Str} {qual : Str} {scope : Scope} {f : Addr} {cd : Value} {A : Around} {outer : List Env} {s : Shared} {H : Hp} {E : XK} :
    PassesOwn (model (cxOf (L2.CX P w) P w K mg base N qual scope f cd A outer s H E).prog w) (cxOf (L2.CX P w) P w K mg base N qual scope f cd A outer s H E).A (cxOf (L2.CX P w) P w K mg base N qual scope f cd A outer s H E).env (cxOf (L2.CX P w) P w K mg base N qual scope f cd A outer s H E).xe := passes_of (X := cxOf (L2.CX P w) P w K mg base N qual scope f cd A outer s H E) rfl
/-- some world's -/
def CXa (P : Program) : CXT := fun outer H s E u s' => ∃ w, L2.CX P w outer H s E u s'
theorem fn_any {P : Program} {w : World} {K : PySem.W.Frag} {mg : Str → Option Value} {base : Heap} {k : Nat} {f : Addr} {fd : FuncData} {ps : List Str} {sp : Sp} (F : FnOk P w K mg base (L2.CX P w) k f fd ps sp) : FnOk P w K mg base (CXa P) k f fd ps sp := by
  refine ⟨F.len, fun A outer s H args us vs Q E hr he hb hv hs => codeAny_mono (F.run A outer s H args us vs Q E hr he hb hv hs) fun r s' q => ?_⟩
  cases r with
  | error e => exact ⟨w, q⟩
  | ok fl => cases fl <;> exact q
theorem cxa_end {P : Program} (H : Hp) (s : Shared) (e : Value) (s' : Shared) (c : CXa P [] H s (fun _ _ _ => False) e s') : False := by
  obtain ⟨_, _, _, _, _, _, _, _, _, _, _, _, _, z⟩ := c
  exact z
theorem cx_end {P : Program} {w : World} (H : Hp) (s : Shared) (e : Value) (s' : Shared) (c : L2.CX P w [] H s (fun _ _ _ => False) e s') : False := by
  obtain ⟨_, _, _, _, _, _, _, _, _, _, _, _, z⟩ := c
  exact z
/-- the law's promise, from its data -/
theorem law_sp {K : PySem.W.Frag} {c : List D → List D → R} {H : Hp} {a : Addr} {ns : List Int} (hS : SqL K H a (ns.map V.int)) (h : ∃ M, c [.scr ns] [] = .ok (.bl true) M) : spD K (DE K) 1 c [.ref a] H (fun v _ => v = .bl true) fun _ _ _ => False := by
  refine ⟨rfl, H, [], [], [.scr ns], ⟨fun _ _ h => h, rfl, List.nodup_nil, fun n a d h => by simp at h⟩, .cons (.scr hS) .nil, ?_⟩
  obtain ⟨M, h⟩ := h
  rw [h]
  intro v F' Ad' H' _ _ x
  cases x; rfl
end MP

set_option maxRecDepth 100000
set_option maxHeartbeats 2000000
namespace MP
open PySem PySem.Spec PyProof.Rows L2
/-- the law's own call, over this layer's promise -/
theorem law_callG {P : Program} {w : World} {K : PySem.W.Frag} {mg mb : Str → Option Value} {CX : CXT} {k : Nat} {fa a : Addr} {fd : FuncData} {x : Str} {sp : Sp} {s₁ : Shared} {vs : List Value} {ns : List Int}
    (KX : K.In s₁.heap) (hns : s₁.heap.Ns mainGlobals mg) (hb : s₁.heap.Ns builtinsNs mb) (hbb : ∀ x : Str, x ≠ "__name__" → mb x = bootBuiltins x) (hlim : s₁.heap.NoLimit) (hg : s₁.gens = #[])
    (ha : s₁.heap.get? a = some { cls := .type "list", data := .seq vs.toArray }) (hi : IntsAre vs ns) (hl : ns.length ≤ sizeLine) (hr : MP.Room k callerA)
    (F : ∀ base : Heap, K.In base → base.Ns mainGlobals mg → MP.FnOk P w K mg base CX k fa fd [x] sp) (hbind : ∀ (s : Shared) (u : Value), BindsTo s fd ⟨[u], []⟩ [(x, u)])
    (hsp : ∀ H : Hp, Only H → SqL K H a (ns.map V.int) → sp [.ref a] H (fun v _ => v = .bl true) fun _ _ _ => False)
    (hCX : ∀ H e s', CX [] H s₁ (fun _ _ _ => False) e s' → False) :
    codeAny (model P w) callerA (.call (.ref fa) ⟨[.ref a], []⟩) (fun r s' => r = .ok (.ret (.bool true)) ∧ OldK s₁.heap s'.heap ∧ s'.os = s₁.os ∧ AllBare s'.gens) s₁ := by
  have core : ∀ H : Hp, Only H → SqL K H a (ns.map V.int) → HOk P w H s₁.heap → (∀ b, H b ≠ none → b = a) → (H a ≠ none → K.lookup a = none) →
      codeAny (model P w) callerA (.call (.ref fa) ⟨[.ref a], []⟩) (fun r s' => r = .ok (.ret (.bool true)) ∧ OldK s₁.heap s'.heap ∧ s'.os = s₁.os ∧ AllBare s'.gens) s₁ := by
    intro H hO hS hok hA hK
    -- what is not the script lies in the base
    have out : ∀ {b : Addr} {o : Obj}, s₁.heap.get? b = some o → b ≠ a → (hidT s₁.heap H).get? b = some o := fun {b o} e ne => hidT_get e (by
      cases q : H b with
      | none => rfl
      | some u => exact absurd (hA b (by simp [q])) ne)
    have nsK : ∀ {b : Addr} {m : Str → Option Value}, s₁.heap.Ns b m → (hidT s₁.heap H).Ns b m := fun {b m} ⟨o, es, ep, e, d, r⟩ => ⟨o, es, ep, out e (by
      rintro rfl
      rw [ha] at e; cases e
      exact Data.noConfusion d), d, r⟩
    have hKb : K.In (hidT s₁.heap H) := fun b o e => by
      by_cases z : b = a
      · subst z
        refine hidT_get (KX b o e) ?_
        cases q : H b with
        | none => rfl
        | some u => rw [hK (by simp [q])] at e; cases e
      · exact out (KX b o e) z
    obtain ⟨mc, l1, l2⟩ := hlim
    have hM : Mod K mg (hidT s₁.heap H) := ⟨hKb, nsK hns, ⟨mb, nsK hb, hbb⟩, ⟨mc, nsK l1, l2⟩⟩
    have e0 : Env0 P w K mg (hidT s₁.heap H) callerA [] s₁ H := ⟨rfl, hM, fun b o e => of_hidT e, Nat.le_of_eq (hidT_size _ _), trivial, fun b hb => absurd (show b ∈ ([] : List Addr) from hb) (by simp), hok, .of_eq hg⟩
    refine codeAny_mono ((F _ hKb (nsK hns)).run callerA [] s₁ H ⟨[.ref a], []⟩ [.ref a] [.ref a] _ _ hr e0 (hbind s₁ (.ref a)) (.cons rfl .nil) (hsp H hO hS)) fun r s' h => ?_
    cases r with
    | error e => exact (hCX H e s' h).elim
    | ok fl => cases fl with
      | ret u =>
        obtain ⟨v, H', os, bare, un, hok', r', q⟩ := h
        cases (show v = .bl true from q)
        cases (show u = Value.bool true from r')
        refine ⟨rfl, OldK.of_keep fun b o e => ?_, os, bare⟩
        cases q : H b with
        | none => exact un.keep b o e q (by intro z; exact absurd (show b ∈ ([] : List Addr) from z) (by simp)) (by simp)
        | some u =>
          rcases hO b with z | ⟨ob, xs, z⟩
          · rw [q] at z; cases z
          · have e1 := (hok b _ z).1
            have e2 := (hok' b _ (un.frzs b ob _ z)).1
            rw [e] at e1; cases e1
            exact e2
      | _ => exact (show False from h).elim
  cases hk : K.lookup a with
  | some o =>
    have e := KX a o hk
    rw [ha] at e; cases e
    exact core (fun _ => none) (fun _ => .inl rfl) (.inr ⟨_, vs.toArray, _, hk, rfl, rfl, rfl, by rw [List.size_toArray, hi.length]; exact hl, by simpa using vals_ints hi⟩) (fun b u z => nomatch z) (fun b z => absurd rfl z) fun z => absurd rfl z
  | none =>
    have at_ : ∀ {b : Addr} {u : HO}, (if b = a then some (HO.frz { cls := .type "list", data := .seq vs.toArray } (.lst (ns.map V.int))) else none) = some u → b = a ∧ u = .frz { cls := .type "list", data := .seq vs.toArray } (.lst (ns.map V.int)) := fun {b u} z => by
      split at z
      · exact ⟨‹_›, by cases z; rfl⟩
      · cases z
    refine core (fun b => if b = a then some (.frz { cls := .type "list", data := .seq vs.toArray } (.lst (ns.map V.int))) else none) (fun b => ?_) (.inl (.inr ⟨{ cls := .type "list", data := .seq vs.toArray }, if_pos rfl⟩)) (fun b u z => ?_) (fun b z => ?_) fun _ => hk
    · by_cases hb : b = a
      · exact .inr ⟨_, _, if_pos hb⟩
      · exact .inl (if_neg hb)
    · obtain ⟨rfl, rfl⟩ := at_ z
      exact ⟨ha, by rw [List.length_map]; exact hl, vs, _, vals_ints hi, ha⟩
    · by_cases hb : b = a
      · exact hb
      · exact absurd (if_neg hb) z
theorem walk_ofG {l : PySem.W.OpenLaw} {n k : Nat} {q : Program} {loose : List Str} {XP : (Str → Option Value) → Heap → Prop} {YP : World → Heap → Prop} {d : DefRec} {CX : CXT} {x : Str}
    (hn : l.most = some n) (hn2 : n ≤ sizeLine) (hdf : d.params.defaults = []) (hr : L2.Room k callerA)
    (F : ∀ (w : World) (mg : Str → Option Value) (fa : Addr) (h : Heap), YP w h → h.Ns mainGlobals mg → mg d.name = some (.ref fa) →
      ∃ (K : PySem.W.Frag) (fd : FuncData) (sp : Sp), K.In h ∧ (∀ (s : Shared) (u : Value), BindsTo s fd ⟨[u], []⟩ [(x, u)]) ∧
        (∀ (H : Hp) (a : Addr) (ns : List Int), ns.length ≤ n → Only H → SqL K H a (ns.map V.int) → sp [.ref a] H (fun v _ => v = .bl true) fun _ _ _ => False) ∧
        ∀ base : Heap, K.In base → base.Ns mainGlobals mg → MP.FnOk l.prog w K mg base CX k fa fd [x] sp)
    (hCX : ∀ (H : Hp) (s : Shared) (e : Value) (s' : Shared), CX [] H s (fun _ _ _ => False) e s' → False) :
    PySem.W.WalkO q loose XP YP l.row.toRowW d [] (fun f vs => PySem.call f vs) :=
  Att.attach_call hn hdf fun w s₀ s₁ mg mb fa o pm cd doc a vs ns G Y ho hd hcd hmg hobj hints hlen hg => by
    obtain ⟨K, fd, sp, KX, hb, hsp, hF⟩ := F w mg fa _ Y G.T.g hmg
    exact law_callG KX G.T.g G.T.b G.T.builtins G.T.nolimit hg hobj hints (Nat.le_trans hlen hn2) ⟨hr, rfl⟩ hF hb (fun H hO hS => hsp H a ns hlen hO hS) fun H e s' => hCX H s₁ e s'
end MP

set_option maxRecDepth 100000
set_option maxHeartbeats 1000000
namespace MP
open PySem PySem.Spec PyProof.Rows L2
section
variable {X : Cx} {W : WX} {K : PySem.W.Frag} {DR : DRel} {N0 : Ent} {F H : Hp} {Ad : List Addr} {M : List D} {env : EnvM} {σ : St} {Q : VK} {a b c : Expr} {fa fb fc : EF} {pos : Pos}
theorem chain_read {op op' : CmpOp} {g g' : D → D → List D → R} (h : tG X.K W (DE X.K) (eChain g g' fa fb fc) σ H Q) :
    tChain (rOp X (fun c d H => W c d σ H) (DE X.K) g) (rOp X (fun c d H => W c d σ H) (DE X.K) g') (tG X.K W (DB X.K) fa) (tG X.K W (DB X.K) fb) (tG X.K W (DB X.K) fc) σ H Q := by
  obtain ⟨N0, F, Ad, M, env, m, en, r⟩ := h
  refine tG_seq DE.ok m en r fun d M1 v F1 Ad1 H1 g1 m1 en1 x1 r1 => ?_
  refine tG_seq DE.ok m1 en1 r1 fun d2 M2 v2 F2 Ad2 H2 g2 m2 en2 x2 r2 => ?_
  refine ⟨F2, Ad2, M2, d, d2, m2, DB.gr g2 x1, x2, ?_⟩
  cases q : g d d2 M2 with
  | ok d3 M3 =>
    rw [q] at r2
    intro v3 F3 Ad3 H3 g3 m3 x3
    have r3 := RP.gr DE.ok r2 g3
    have en3 := en2.gr g3
    cases d3 with
    | bl k =>
      cases x3
      refine ⟨k, rfl, ?_⟩
      cases k with
      | true =>
        refine tG_seq DE.ok m3 en3 r3 fun d4 M4 v4 F4 Ad4 H4 g4 m4 en4 x4 r4 => ?_
        exact ⟨F4, Ad4, M4, d2, d4, m4, DB.gr g4 (DB.gr g3 x2 (H0' := H3)), x4, r4⟩
      | false => exact RP.here r3 m3 .bl
    | _ => exact r3.elim
  | exc x M3 => rw [q] at r2; exact r2
  | stuck => rw [q] at r2; exact r2
theorem se_ch {op op' : CmpOp} {g g' : D → D → List D → R} (ho : Op2 X (DE X.K) (compareOp op) g) (ho' : Op2 X (DE X.K) (compareOp op') g') (ha : SB X W a fa) (hb : SB X W b fb) (hc : SB X W c fc) (hm : lastMarks [op, op'] [b, c] = false := by rfl) :
    SE X W (.Compare a [op, op'] [b, c] pos) (eChain g g' fa fb fc) :=
  ⟨fun pins s σ H Q I h => (pe_chain (ho.opR (E := fun c d H => W c d σ H)) (ho'.opR (E := fun c d H => W c d σ H)) ha hb hc hm).run pins s σ H Q I (chain_read (op := op) (op' := op') h)⟩
theorem st_ch {op op' : CmpOp} {g g' : D → D → List D → R} (ho : Op2 X (DE X.K) (compareOp op) g) (ho' : Op2 X (DE X.K) (compareOp op') g') (ha : SB X W a fa) (hb : SB X W b fb) (hc : SB X W c fc) (hm : lastMarks [op, op'] [b, c] = false := by rfl) :
    ST X W (.Compare a [op, op'] [b, c] pos) (eChain g g' fa fb fc) :=
  ⟨fun pins s σ H Q I ⟨N0, F, Ad, M, env, m, en, r⟩ => (pt_chain (ho.opR (E := fun c d H => W c d σ H)) (ho'.opR (E := fun c d H => W c d σ H)) ha hb hc hm).run pins s σ H Q I (chain_read (op := op) (op' := op') ⟨N0, F, Ad, M, env, m, en, by
    cases q : eChain g g' fa fb fc env M with
    | ok d M1 =>
      rw [q] at r
      intro v F' Ad' H' g m' x
      cases d with
      | bl b => cases x; exact ⟨b, rfl, r F' Ad' H' g m'⟩
      | _ => exact r.elim
    | exc x M1 => rw [q] at r; exact r
    | stuck => rw [q] at r; exact r⟩)⟩
/-- a, b = x, y -/
def bPar (i j : Nat) (fa fb : EF) : SF := fun env M => (fa env M).bindS env fun d M1 => (fb env M1).bindS env fun d2 M2 => match gAll [i, j] [d, d2] env with
  | some env1 => .next env1 M2
  | none => .stuck
theorem ss_par {i j : Nat} {x y : Str} {px py pt : Pos} {kt k2 pt2} (hc : X.calm = true) (hN : X.N.Nodup) (hi : X.N[i]? = some x) (hj : X.N[j]? = some y) (hij : i ≠ j)
    (hx : X.env.scope.names.lookup x = some .local) (hy : X.env.scope.names.lookup y = some .local) (ha : SE X W a fa) (hb : SE X W b fb)
    (hw : swappedStores [.Tuple [.Name x px, .Name y py] kt pt] (.Tuple [a, b] k2 pt2) X.env = pure (some [x, y]) := by rfl)
    (hs : swapsWithSole [.Tuple [.Name x px, .Name y py] kt pt] (.Tuple [a, b] k2 pt2) pos.line X.env = pure false := by rfl)
    (s1 : starEach [a, b] X.env = (false, eval a X.env) :: starEach [b] X.env := by rfl) (s2 : starEach [b] X.env = (false, eval b X.env) :: starEach [] X.env := by rfl) :
    SS X W DR (.Assign [.Tuple [.Name x px, .Name y py] kt pt] (.Tuple [a, b] k2 pt2) pos) (bPar i j fa fb) :=
  PS.imp (ps_par hc hN hi hj hij hx hy (pa_cons ha (pa_cons hb pa_nil s2) s1) hw hs) fun E σ H ⟨N0, F, Ad, M, env, ge0, m, en, r⟩ =>
    tE_of ge0 m en r fun d M1 v F1 Ad1 H1 g1 ge m1 en1 x1 r1 => tE_of ge m1 en1 r1 fun d2 M2 v2 F2 Ad2 H2 g2 ge2 m2 en2 x2 r2 => by
      refine ⟨v, v2, rfl, ?_⟩
      cases h : gAll [i, j] [d, d2] env with
      | none => rw [h] at r2; exact r2.elim
      | some env1 =>
        rw [h] at r2
        simp only [gAll, Option.bind_eq_some_iff] at h
        obtain ⟨e1, h1, e2, h2, h3⟩ := h
        cases h3
        exact r2 _ F2 Ad2 H2 ge2 (FLe.refl _) pre_refl m2 ((en2.set (x1.mono g2.fle g2.pre) h1).set x2 h2)
end
end MP

set_option maxRecDepth 100000
set_option maxHeartbeats 1000000
namespace MP
open PySem PySem.Spec PyProof.Rows L2
section
variable {X : Cx} {W : WX} {x : Str} {pos : Pos}
theorem vE (i : Nat) (hN : X.N[i]? = some x := by rfl) (hv : Vis X.env.scope x := by first | exact Or.inl rfl | exact Or.inr (Or.inl rfl) | exact Or.inr (Or.inr rfl)) (hd : (x == ("__debug__" : Str)) = false := by decide) (hcd : (x == ("__classdict__" : Str)) = false := by decide) : SE X W (.Name x pos) (eV i) := se_var hN hv hd hcd
theorem vB (i : Nat) (hN : X.N[i]? = some x := by rfl) (hv : Vis X.env.scope x := by first | exact Or.inl rfl | exact Or.inr (Or.inl rfl) | exact Or.inr (Or.inr rfl)) (hd : (x == ("__debug__" : Str)) = false := by decide) (hcd : (x == ("__classdict__" : Str)) = false := by decide) : SB X W (.Name x pos) (eVB i) := sb_var hN hv hd hcd
theorem pgN (i : Nat) (hN : X.N.Nodup) (hi : X.N[i]? = some x := by rfl) (hx : Loc X.env.scope x := by first | exact Or.inl rfl | exact Or.inr rfl) (hf : X.fn x = true ∨ X.env.scope.names.lookup x = some .local := by first | exact .inl rfl | exact .inr rfl) : PG X (.Name x pos) (gName i) := pg_name hN hi hx hf
end
theorem u1 {k : Nat} {A : Around} (r : Room k A) : A.units + 1 < cLine := by have := r.units; omega
def clsB : Stmt → List Stmt
  | .ClassDef (body := b) .. => b
  | _ => []
end MP

set_option maxRecDepth 100000
set_option maxHeartbeats 1000000
namespace MP
open PySem L2
/-! ### to compute with the data -/
theorem R.bind_congr {r r' : R} {k : D → List D → R} (h : r = r') : r.bind k = r'.bind k := by rw [h]
theorem R.bindL_congr {r r' : R} {k : D → List D → RL} (h : r = r') : r.bindL k = r'.bindL k := by rw [h]
theorem RL.bind_congr {r r' : RL} {k : List D → List D → R} (h : r = r') : r.bind k = r'.bind k := by rw [h]
theorem RL.bindL_congr {r r' : RL} {k : List D → List D → RL} (h : r = r') : r.bindL k = r'.bindL k := by rw [h]
theorem R.bindS_congr {r r' : R} {env : EnvM} {k : D → List D → RS} (h : r = r') : r.bindS env k = r'.bindS env k := by rw [h]
@[simp] theorem R.bind_stuck {k} : R.stuck.bind k = .stuck := rfl
def RS.seq (r : RS) (k : SF) : RS := match r with
  | .next env M => k env M
  | r => r
theorem RS.seq_congr {r r' : RS} {k : SF} (h : r = r') : r.seq k = r'.seq k := by rw [h]
@[simp] theorem RS.seq_next {env M k} : (RS.next env M).seq k = k env M := rfl
@[simp] theorem RS.seq_ret {d M k} : (RS.ret d M).seq k = .ret d M := rfl
@[simp] theorem RS.seq_cont {d M k} : (RS.cont d M).seq k = .cont d M := rfl
@[simp] theorem RS.seq_brk {d M k} : (RS.brk d M).seq k = .brk d M := rfl
@[simp] theorem RS.seq_stuck {k} : RS.stuck.seq k = .stuck := rfl
section
variable {f g fa fb fc fk fv a b c : EF} {l : LF} {env : EnvM} {M : List D} {p q : SF} {i j n : Nat} {d x y : D} {G : D → D → List D → R}
@[simp] theorem bSeq_eq : bSeq p q env M = (p env M).seq q := rfl
@[simp] theorem bNext_eq : bNext env M = .next env M := rfl
@[simp] theorem bPass_eq : bPass env M = .next env M := rfl
@[simp] theorem bBrk_eq : bBrk env M = .brk env M := rfl
@[simp] theorem bCont_eq : bCont env M = .cont env M := rfl
@[simp] theorem bRetN_eq : bRetN env M = .ret .non M := rfl
@[simp] theorem bRet_eq : bRet f env M = (f env M).bindS env fun d M1 => .ret d M1 := rfl
@[simp] theorem bExpr_eq : bExpr f env M = (f env M).bindS env fun _ M1 => .next env M1 := rfl
def setR (o : Option EnvM) (M : List D) : RS := match o with
  | some env1 => .next env1 M
  | none => .stuck
@[simp] theorem setR_some : setR (some env) M = .next env M := rfl
@[simp] theorem bSet_eq : bSet i f env M = (f env M).bindS env fun d M1 => setR (gN i d env) M1 := rfl
@[simp] theorem bSetT_eq {js} : bSetT js f env M = (f env M).bindS env fun d M1 => setR (gT js d env) M1 := rfl
@[simp] theorem bOwn_eq : bOwn i f env M = (f env M).bindS env fun d M1 => setR (oN i d env) M1 := rfl
@[simp] theorem bPar_eq : bPar i j fa fb env M = (fa env M).bindS env fun d M1 => (fb env M1).bindS env fun d2 M2 => setR (gAll [i, j] [d, d2] env) M2 := rfl
def gNb (o : Option B) (env : EnvM) (i : Nat) (b : B) : Option EnvM := match o with
  | some (.slf _) => none
  | some _ => some (env.set i b)
  | none => none
@[simp] theorem gNb_no {b} : gNb (some .no) env i b = some (env.set i b) := rfl
@[simp] theorem gNb_shr {b} : gNb (some (.shr d)) env i b = some (env.set i b) := rfl
@[simp] theorem gNb_own {b} : gNb (some (.own d)) env i b = some (env.set i b) := rfl
def B.free (b : B) : Prop := match b with | .slf _ => False | _ => True
@[simp] theorem gNb_free {b c : B} (h : c.free) : gNb (some c) env i b = some (env.set i b) := by
  cases c <;> first | rfl | exact h.elim
@[simp] theorem free_no : B.free .no := trivial
@[simp] theorem free_shr : B.free (.shr d) := trivial
@[simp] theorem free_own : B.free (.own d) := trivial
@[simp] theorem gN_eq : gN i d env = gNb env[i]? env i (.shr d) := by unfold gN gNb; split <;> simp_all
@[simp] theorem oN_eq : oN i d env = gNb env[i]? env i (.own d) := by unfold oN gNb; split <;> simp_all
@[simp] theorem gAll_nil : gAll [] [] env = some env := rfl
@[simp] theorem gAll_cons {js ds} : gAll (j :: js) (d :: ds) env = (gN j d env).bind (gAll js ds) := rfl
@[simp] theorem gT_tup {js ds} : gT js (.tup ds) env = gAll js ds env := rfl
def iteS (d : D) (r s : RS) : RS := match d with
  | .bl true => r
  | .bl false => s
  | _ => .stuck
theorem iteS_congr {d d' : D} {r s : RS} (h : d = d') : iteS d r s = iteS d' r s := by rw [h]
@[simp] theorem iteS_bl {b : Bool} {r s} : iteS (.bl b) r s = if b = true then r else s := by cases b <;> rfl
theorem bindS_fun {k k' : D → List D → RS} (h : ∀ d M, k d M = k' d M) {r : R} : r.bindS env k = r.bindS env k' := by
  have : k = k' := by funext d M; exact h d M
  rw [this]
@[simp] theorem bIf_eq : bIf f p q env M = (f env M).bindS env fun d M1 => iteS d (p env M1) (q env M1) := by
  unfold bIf
  exact bindS_fun fun d M1 => by cases d <;> first | rfl | (rename_i b; cases b <;> rfl)
def iteR (d : D) (r s : R) : R := match d with
  | .bl true => r
  | .bl false => s
  | _ => .stuck
theorem iteR_congr {d d' : D} {r s : R} (h : d = d') : iteR d r s = iteR d' r s := by rw [h]
@[simp] theorem iteR_bl {b : Bool} {r s} : iteR (.bl b) r s = if b = true then r else s := by cases b <;> rfl
theorem iteR_fun {k k' : D → List D → R} (h : ∀ d M, k d M = k' d M) {r : R} : r.bind k = r.bind k' := by
  have : k = k' := by funext d M; exact h d M
  rw [this]
@[simp] theorem eIf_eq : eIf c a b env M = (c env M).bind fun x M1 => iteR x (a env M1) (b env M1) := by
  unfold eIf
  exact iteR_fun fun d M1 => by cases d <;> first | rfl | (rename_i b; cases b <;> rfl)
@[simp] theorem eAnd_eq : eAnd a b env M = (a env M).bind fun x M1 => iteR x (b env M1) (.ok (.bl false) M1) := by
  unfold eAnd
  exact iteR_fun fun d M1 => by cases d <;> first | rfl | (rename_i b; cases b <;> rfl)
@[simp] theorem eOr_eq : eOr a b env M = (a env M).bind fun x M1 => iteR x (.ok (.bl true) M1) (b env M1) := by
  unfold eOr
  exact iteR_fun fun d M1 => by cases d <;> first | rfl | (rename_i b; cases b <;> rfl)
def notR (d : D) (M : List D) : R := match d with | .bl c => .ok (.bl !c) M | _ => .stuck
@[simp] theorem notR_bl {b : Bool} : notR (.bl b) M = .ok (.bl !b) M := rfl
@[simp] theorem eNot_eq : eNot a env M = (a env M).bind notR := by
  unfold eNot
  exact iteR_fun fun d M1 => by cases d <;> rfl
@[simp] theorem eChain_eq {G G'} : eChain G G' a b c env M = (a env M).bind fun x M1 => (b env M1).bind fun y M2 => (G x y M2).bind fun r M3 => iteR r ((c env M3).bind fun z M4 => G' y z M4) (.ok (.bl false) M3) := by
  unfold eChain
  refine iteR_fun fun x M1 => iteR_fun fun y M2 => iteR_fun fun r M3 => ?_
  cases r <;> first | rfl | (rename_i b; cases b <;> rfl)
@[simp] theorem eC_eq : eC d env M = .ok d M := rfl
@[simp] theorem eNew_eq : eNew d env M = .ok d M := rfl
@[simp] theorem e2_eq : e2 G a b env M = (a env M).bind fun x M1 => (b env M1).bind fun y M2 => G x y M2 := rfl
@[simp] theorem e1_eq {g : D → List D → R} : e1 g a env M = (a env M).bind g := rfl
def getE (o : Option B) (M : List D) : R := match o with | some (.shr d) => .ok d M | _ => .stuck
def getB (o : Option B) (M : List D) : R := match o with | some (.shr d) => .ok d M | some (.own d) => .ok d M | some (.slf d) => .ok d M | _ => .stuck
@[simp] theorem getE_shr : getE (some (.shr d)) M = .ok d M := rfl
@[simp] theorem getB_shr : getB (some (.shr d)) M = .ok d M := rfl
@[simp] theorem getB_own : getB (some (.own d)) M = .ok d M := rfl
@[simp] theorem getB_slf : getB (some (.slf d)) M = .ok d M := rfl
@[simp] theorem eV_eq : eV i env M = getE env[i]? M := by unfold eV getE; split <;> simp_all
@[simp] theorem eVB_eq : eVB i env M = getB env[i]? M := by unfold eVB getB; split <;> simp_all
@[simp] theorem lNil_eq : lNil env M = .ok [] M := rfl
@[simp] theorem lCons_eq : lCons a l env M = (a env M).bindL fun x M1 => (l env M1).bindL fun xs M2 => .ok (x :: xs) M2 := rfl
@[simp] theorem eCall_eq {g} : eCall g l env M = (l env M).bind g := rfl
def lenR (f : List D → D) (xs : List D) (M : List D) : R := if xs.length ≤ sizeLine then .ok (f xs) M else .stuck
@[simp] theorem lenR_le {f xs} (h : xs.length ≤ sizeLine) : lenR f xs M = .ok (f xs) M := by unfold lenR; rw [if_pos h]
@[simp] theorem lenR0 {f} : lenR f [] M = .ok (f []) M := lenR_le (Nat.zero_le _)
@[simp] theorem lenR1 {f a1} : lenR f [a1] M = .ok (f [a1]) M := lenR_le (show 1 ≤ sizeLine by decide)
@[simp] theorem lenR2 {f a1 a2} : lenR f [a1, a2] M = .ok (f [a1, a2]) M := lenR_le (show 2 ≤ sizeLine by decide)
@[simp] theorem lenR3 {f a1 a2 a3} : lenR f [a1, a2, a3] M = .ok (f [a1, a2, a3]) M := lenR_le (show 3 ≤ sizeLine by decide)
@[simp] theorem lenR4 {f a1 a2 a3 a4} : lenR f [a1, a2, a3, a4] M = .ok (f [a1, a2, a3, a4]) M := lenR_le (show 4 ≤ sizeLine by decide)
@[simp] theorem eTup_eq : eTup l env M = (l env M).bind (lenR .tup) := rfl
@[simp] theorem eLst_eq : eLst l env M = (l env M).bind (lenR .lst) := rfl
@[simp] theorem eCell_eq : eCell f env M = (f env M).bind fun d M1 => .ok (.cel M1.length) (M1 ++ [d]) := rfl
@[simp] theorem apC_eq {c n dd xs} : apC c n dd xs M = if (xs ++ dd).length = n then c (xs ++ dd) M else .stuck := rfl
/-! operations -/
@[simp] theorem oAdd_int {i j : Int} : oAdd (.int i) (.int j) M = .ok (.int (i + j)) M := rfl
@[simp] theorem oSub_int {i j : Int} : oSub (.int i) (.int j) M = .ok (.int (i - j)) M := rfl
@[simp] theorem oMul_int {i j : Int} : oMul (.int i) (.int j) M = if CMulB i j then .ok (.int (i * j)) M else .stuck := rfl
@[simp] theorem oDiv_int {i j : Int} : oDiv (.int i) (.int j) M = if CDivW i j then .ok (.int (i / j)) M else .stuck := rfl
@[simp] theorem oMod_int {i j : Int} : oMod (.int i) (.int j) M = if 0 < j then .ok (.int (i % j)) M else .stuck := rfl
@[simp] theorem oPow_int {i j : Int} : oPow (.int i) (.int j) M = if CPow i j then .ok (.int (i ^ j.toNat)) M else .stuck := rfl
@[simp] theorem oNeg_int {i : Int} : oNeg (.int i) M = .ok (.int (-i)) M := rfl
@[simp] theorem oLt_int {i j : Int} : oLt (.int i) (.int j) M = .ok (.bl (decide (i < j))) M := rfl
@[simp] theorem oLe_int {i j : Int} : oLe (.int i) (.int j) M = .ok (.bl (decide (i ≤ j))) M := rfl
@[simp] theorem oGt_int {i j : Int} : oGt (.int i) (.int j) M = .ok (.bl (decide (j < i))) M := rfl
@[simp] theorem oGe_int {i j : Int} : oGe (.int i) (.int j) M = .ok (.bl (decide (j ≤ i))) M := rfl
@[simp] theorem oEq_int {i j : Int} : oEq (.int i) (.int j) M = .ok (.bl (i == j)) M := rfl
@[simp] theorem oNe_int {i j : Int} : oNe (.int i) (.int j) M = .ok (.bl (!(i == j))) M := rfl
@[simp] theorem oIs_non : oIs x .non M = .ok (.bl x.isN) M := rfl
@[simp] theorem oIsnt_non : oIsnt x .non M = .ok (.bl !x.isN) M := rfl
@[simp] theorem isN_int {i : Int} : (D.int i).isN = false := rfl
@[simp] theorem isN_non : D.non.isN = true := rfl
@[simp] theorem isN_tup {xs} : (D.tup xs).isN = false := rfl
def ixR (o : Option D) (M : List D) : R := match o with | some d => .ok d M | none => .stuck
@[simp] theorem ixR_some : ixR (some d) M = .ok d M := rfl
@[simp] theorem oIx_lst {xs} {i : Int} : oIx (.lst xs) (.int i) M = ixR (atI xs i) M := by
  unfold oIx view ixR; rfl
@[simp] theorem oIx_tup {xs} {i : Int} : oIx (.tup xs) (.int i) M = ixR (atI xs i) M := by
  unfold oIx view ixR; rfl
@[simp] theorem oIx_ktp {xs} {i : Int} : oIx (.ktp xs) (.int i) M = ixR (atI xs i) M := by
  unfold oIx view ixR; rfl
@[simp] theorem oIx_dKi {kvs} {i : Int} : oIx (.dK kvs) (.int i) M = ixR (valK kvs (.inl i)) M := by
  unfold oIx view ixR keyD; rfl
@[simp] theorem oIx_dKs {kvs} {z : Str} : oIx (.dK kvs) (.str z) M = ixR (valK kvs (.inr z)) M := by
  unfold oIx view ixR keyD; rfl
theorem oIx_scr {ns : List Int} {i v : Int} (h : atI ns i = some v) : oIx (.scr ns) (.int i) M = .ok (.int v) M := by
  show (match atI ns i with | some d => R.ok (D.int d) M | none => R.stuck) = _
  rw [h]
theorem oIx_celL {xs} {i : Int} (h : M[n]? = some (.lst xs)) : oIx (.cel n) (.int i) M = ixR (atI xs i) M := by
  have e : view M (.cel n) = .lst xs := by show (M[n]?).getD (.cel n) = _; rw [h]; rfl
  unfold oIx; rw [e]; rfl
@[simp] theorem bInt_int {i : Int} : bInt [.int i] M = .ok (.int i) M := rfl
@[simp] theorem bAbs_int {i : Int} : bAbs [.int i] M = .ok (.int (if i < 0 then -i else i)) M := rfl
@[simp] theorem bMax_int {i j : Int} : bMax [.int i, .int j] M = .ok (.int (mx2 i j)) M := rfl
@[simp] theorem bMin_int {i j : Int} : bMin [.int i, .int j] M = .ok (.int (mn2 i j)) M := rfl
@[simp] theorem bLen_lst {xs} : bLen [.lst xs] M = .ok (.int xs.length) M := rfl
@[simp] theorem bLen_tup {xs} : bLen [.tup xs] M = .ok (.int xs.length) M := rfl
@[simp] theorem bLen_ktp {xs} : bLen [.ktp xs] M = .ok (.int xs.length) M := rfl
@[simp] theorem bLen_scr {xs : List Int} : bLen [.scr xs] M = .ok (.int xs.length) M := rfl
@[simp] theorem bTup_lst {xs} : bTup [.lst xs] M = .ok (.tup xs) M := rfl
@[simp] theorem bTup_tup {xs} : bTup [.tup xs] M = .ok (.tup xs) M := rfl
/-! stores -/
@[simp] theorem store_own {u d d'} (h : env[i]? = some (.own d)) (hu : u d = some d') : store i u env M = .next (env.set i (.own d')) M := by
  unfold store; rw [h]; dsimp only; rw [hu]
theorem store_cel {u d d'} (h : env[i]? = some (.shr (.cel n))) (hm : M[n]? = some d) (hu : u d = some d') : store i u env M = .next env (M.set n d') := by
  unfold store; rw [h]; dsimp only; rw [hm]; dsimp only; rw [hu]
theorem store_slf {u d d'} (h : env[i]? = some (.slf d)) (hu : u d = some d') : store i u env M = .next (env.set i (.slf d')) M := by
  unfold store; rw [h]; dsimp only; rw [hu]
def guS (b : Bool) (r : RS) : RS := if b = true then r else .stuck
theorem guS_congr {b b' : Bool} {r : RS} (h : b = b') : guS b r = guS b' r := by rw [h]
@[simp] theorem guS_true {r} : guS true r = r := rfl
@[simp] theorem bSub_eq : bSub i fk fv env M = (fv env M).bindS env fun dv M1 => guS (has i env) ((fk env M1).bindS env fun dk M2 => store i (stSub dk dv) env M2) := rfl
@[simp] theorem bApp_eq : bApp i fv env M = guS (isLst (cont i env M)) ((fv env M).bindS env fun dv M1 => store i (stApp dv) env M1) := rfl
@[simp] theorem bFld_eq {c g} : bFld i c g fv env M = (fv env M).bindS env fun dv M1 => store i (stFld c g dv) env M1 := rfl
theorem stApp_ok {xs : List D} (h : xs.length < 1000000) : stApp d (.lst xs) = some (.lst (xs ++ [d])) := by
  show (if xs.length < sizeLine then some (D.lst (xs ++ [d])) else none) = _
  rw [if_pos (Nat.lt_trans h (by decide))]
theorem has_shr (h : env[i]? = some (.shr d)) : has i env = true := by unfold has; rw [h]
theorem has_own (h : env[i]? = some (.own d)) : has i env = true := by unfold has; rw [h]
theorem isLst_own {xs} (h : env[i]? = some (.own (.lst xs))) : isLst (cont i env M) = true := by unfold cont; rw [h]; rfl
theorem bShare_own (h : env[i]? = some (.own d)) : bShare i env M = .next (env.set i (.shr d)) M := by unfold bShare; rw [h]
/-! loops -/
def forR (gd : D → EnvM → Option EnvM) (b : SF) (env : EnvM) (r : RL) : RS := match r with
  | .ok ds M1 => forL gd b ds env M1
  | .exc x M1 => .exc x env M1
  | .stuck => .stuck
@[simp] theorem forR_ok {gd b ds} : forR gd b env (.ok ds M) = forL gd b ds env M := rfl
@[simp] theorem bFor_eq {gd b} : bFor l gd b env M = forR gd b env (l env M) := by unfold bFor forR; split <;> simp_all
@[simp] theorem forL_nil {gd b} : forL gd b [] env M = .next env M := rfl
def forK (gd : D → EnvM → Option EnvM) (b : SF) (ds : List D) (r : RS) : RS := match r with
  | .next env2 M2 => forL gd b ds env2 M2
  | .cont env2 M2 => forL gd b ds env2 M2
  | .brk env2 M2 => .next env2 M2
  | r => r
@[simp] theorem forK_next {gd b ds} : forK gd b ds (.next env M) = forL gd b ds env M := rfl
@[simp] theorem forK_ret {gd b ds} : forK gd b ds (.ret d M) = .ret d M := rfl
theorem forL_cons {gd b d ds env1} (h : gd d env = some env1) : forL gd b (d :: ds) env M = forK gd b ds (b env1 M) := by
  show (match gd d env with | none => RS.stuck | some env1 => _) = _
  rw [h]
  show (match b env1 M with | .next env2 M2 => forL gd b ds env2 M2 | .cont env2 M2 => forL gd b ds env2 M2 | .brk env2 M2 => .next env2 M2 | r => r) = _
  unfold forK; split <;> simp_all
/-- a loop by its invariant -/
theorem forL_inv {gd : D → EnvM → Option EnvM} {b : SF} {ds : List D} (I : Nat → EnvM → List D → Prop) (hs : ∀ i d env M, ds[i]? = some d → I i env M → ∃ env1, gd d env = some env1 ∧ ∃ env2 M2, b env1 M = .next env2 M2 ∧ I (i + 1) env2 M2) {env : EnvM} {M : List D} (h0 : I 0 env M) :
    ∃ env2 M2, forL gd b ds env M = .next env2 M2 ∧ I ds.length env2 M2 := by
  have key : ∀ (k i : Nat) (env : EnvM) (M : List D), i + k = ds.length → I i env M → ∃ env2 M2, forL gd b (ds.drop i) env M = .next env2 M2 ∧ I ds.length env2 M2 := by
    intro k
    induction k with
    | zero => intro i env M hk h; have : i = ds.length := by omega
              subst this; exact ⟨env, M, by rw [List.drop_length]; rfl, h⟩
    | succ k ih =>
      intro i env M hk h
      have hlt : i < ds.length := by omega
      obtain ⟨env1, h1, env2, M2, h2, h3⟩ := hs i ds[i] env M (List.getElem?_eq_getElem hlt) h
      obtain ⟨env3, M3, h4, h5⟩ := ih (i + 1) env2 M2 (by omega) h3
      refine ⟨env3, M3, ?_, h5⟩
      rw [List.drop_eq_getElem_cons hlt, forL_cons h1, h2]
      exact h4
  simpa using key ds.length 0 env M (by omega) h0
/-- a comprehension by its invariant -/
theorem comp_inv {gd : D → EnvM → Option EnvM} {ft fe : EF} {env0 : EnvM} {ds : List D} (I : Nat → List D → List D → Prop) (hs : ∀ i d acc M, ds[i]? = some d → I i acc M → ∃ env1, gd d env0 = some env1 ∧
      ((∃ M1 y M2, ft env1 M = .ok (.bl true) M1 ∧ fe env1 M1 = .ok y M2 ∧ acc.length < sizeLine ∧ I (i + 1) (acc ++ [y]) M2) ∨ (∃ M1, ft env1 M = .ok (.bl false) M1 ∧ I (i + 1) acc M1))) {M : List D} (h0 : I 0 [] M) :
    ∃ acc M2, compL gd ft fe env0 ds [] M = .ok (.lst acc) M2 ∧ I ds.length acc M2 := by
  have key : ∀ (k i : Nat) (acc M : List D), i + k = ds.length → I i acc M → ∃ acc2 M2, compL gd ft fe env0 (ds.drop i) acc M = .ok (.lst acc2) M2 ∧ I ds.length acc2 M2 := by
    intro k
    induction k with
    | zero => intro i acc M hk h; have : i = ds.length := by omega
              subst this; exact ⟨acc, M, by rw [List.drop_length]; rfl, h⟩
    | succ k ih =>
      intro i acc M hk h
      have hlt : i < ds.length := by omega
      obtain ⟨env1, h1, h2⟩ := hs i ds[i] acc M (List.getElem?_eq_getElem hlt) h
      rw [List.drop_eq_getElem_cons hlt]
      rcases h2 with ⟨M1, y, M2, h2, h3, h4, h5⟩ | ⟨M1, h2, h3⟩
      · obtain ⟨acc2, M3, g1, g2⟩ := ih (i + 1) (acc ++ [y]) M2 (by omega) h5
        exact ⟨acc2, M3, by unfold compL; rw [h1]; dsimp only; rw [h2]; dsimp only; rw [h3]; dsimp only; rw [if_pos h4]; exact g1, g2⟩
      · obtain ⟨acc2, M3, g1, g2⟩ := ih (i + 1) acc M1 (by omega) h3
        exact ⟨acc2, M3, by unfold compL; rw [h1]; dsimp only; rw [h2]; dsimp only; exact g1, g2⟩
  simpa using key ds.length 0 [] M (by omega) h0
@[simp] theorem eComp_eq {gd ft fe vs} : eComp l gd ft fe vs env M = (l env M).bind fun ds M1 => compL gd ft fe (wipeE env vs) ds [] M1 := rfl
@[simp] theorem wipeE_nil : wipeE env [] = env := rfl
@[simp] theorem wipeE_cons {v vs} : wipeE env (v :: vs) = (wipeE env vs).set v .no := rfl
def seqL (d : D) (M : List D) : RL := match d with
  | .lst xs => .ok xs M
  | .tup xs => .ok xs M
  | .ktp xs => .ok xs M
  | .scr ns => .ok (ns.map .int) M
  | .dT kvs => .ok (keysT kvs) M
  | .dK kvs => .ok (keysK kvs) M
  | _ => .stuck
@[simp] theorem seqL_lst {xs} : seqL (.lst xs) M = .ok xs M := rfl
@[simp] theorem seqL_tup {xs} : seqL (.tup xs) M = .ok xs M := rfl
@[simp] theorem seqL_ktp {xs} : seqL (.ktp xs) M = .ok xs M := rfl
@[simp] theorem seqL_scr {xs} : seqL (.scr xs) M = .ok (xs.map .int) M := rfl
@[simp] theorem seqL_dT {xs} : seqL (.dT xs) M = .ok (keysT xs) M := rfl
@[simp] theorem seqL_dK {xs} : seqL (.dK xs) M = .ok (keysK xs) M := rfl
@[simp] theorem iSeq_eq : iSeq f env M = (f env M).bindL seqL := rfl
def seqLB (d : D) (M : List D) : RL := match d with
  | .lst xs => .ok xs M
  | .tup xs => .ok xs M
  | .ktp xs => .ok xs M
  | .scr ns => .ok (ns.map .int) M
  | _ => .stuck
@[simp] theorem seqLB_lst {xs} : seqLB (.lst xs) M = .ok xs M := rfl
@[simp] theorem iSeqB_eq : iSeqB f env M = (f env M).bindL seqLB := rfl
def itmL (d : D) (M : List D) : RL := match d with
  | .dT kvs => .ok (itemsT kvs) M
  | .dK kvs => .ok (itemsK kvs) M
  | _ => .stuck
@[simp] theorem itmL_dT {xs} : itmL (.dT xs) M = .ok (itemsT xs) M := rfl
@[simp] theorem itmL_dK {xs} : itmL (.dK xs) M = .ok (itemsK xs) M := rfl
@[simp] theorem iItm_eq : iItm f env M = (f env M).bindL itmL := rfl
def enuL (d : D) (M : List D) : RL := match d with
  | .lst xs => .ok (enumD xs) M
  | .tup xs => .ok (enumD xs) M
  | .ktp xs => .ok (enumD xs) M
  | _ => .stuck
@[simp] theorem enuL_lst {xs} : enuL (.lst xs) M = .ok (enumD xs) M := rfl
@[simp] theorem enuL_tup {xs} : enuL (.tup xs) M = .ok (enumD xs) M := rfl
@[simp] theorem iEnu_eq : iEnu f env M = (f env M).bindL enuL := rfl
def rngL1 (d : D) (M : List D) : RL := match d with
  | .int j => if inR j then .ok (rngD 0 j.toNat) M else .stuck
  | _ => .stuck
@[simp] theorem rngL1_int {j : Int} (h : inR j) : rngL1 (.int j) M = .ok (rngD 0 j.toNat) M := by unfold rngL1; dsimp only; rw [if_pos h]
@[simp] theorem iRng1_eq : iRng1 f env M = (f env M).bindL rngL1 := by cases M <;> rfl
def rngL2 (d d2 : D) (M : List D) : RL := match d, d2 with
  | .int i, .int j => if inR i ∧ inR j then .ok (rngD i (j - i).toNat) M else .stuck
  | _, _ => .stuck
@[simp] theorem rngL2_int {i j : Int} (h : inR i) (h2 : inR j) : rngL2 (.int i) (.int j) M = .ok (rngD i (j - i).toNat) M := by unfold rngL2; dsimp only; rw [if_pos ⟨h, h2⟩]
@[simp] theorem iRng2_eq : iRng2 f g env M = (f env M).bindL fun d M1 => (g env M1).bindL fun d2 M2 => rngL2 d d2 M2 := by cases M <;> rfl
theorem rngD_get {lo : Int} {n i : Nat} (h : i < n) : (rngD lo n)[i]? = some (.int (lo + (i : Nat))) := by simp [rngD, h]
@[simp] theorem rngD_len {lo : Int} {n : Nat} : (rngD lo n).length = n := by simp [rngD]
theorem rngD_of {lo : Int} {n i : Nat} {d : D} (h : (rngD lo n)[i]? = some d) : i < n ∧ d = .int (lo + (i : Nat)) := by
  have hi : i < n := by
    have := (List.getElem?_eq_some_iff.mp h).1
    simpa using this
  rw [rngD_get hi] at h
  exact ⟨hi, (Option.some.inj h).symm⟩
/-! methods, fields, isinstance -/
def methR (cn m : Str) (d : D) (r : R) : R := match d with
  | .ins c' fs => if c' = cn ∧ fs.lookup m = none then r else .stuck
  | _ => .stuck
theorem methR_congr {cn m : Str} {d d' : D} {r : R} (h : d = d') : methR cn m d r = methR cn m d' r := by rw [h]
theorem methR_ins {cn m : Str} {fs} {r : R} (h : fs.lookup m = none) : methR cn m (.ins cn fs) r = r := by unfold methR; dsimp only; rw [if_pos ⟨rfl, h⟩]
@[simp] theorem eMeth_eq {cn m c n dd} : eMeth cn m c n dd f l env M = (f env M).bind fun x M1 => methR cn m (view M1 x) ((l env M1).bind fun xs M2 => apC c n dd (x :: xs) M2) := by
  unfold eMeth
  refine iteR_fun fun x M1 => ?_
  unfold methR; split <;> simp_all
@[simp] theorem view_ins {c fs} : view M (.ins c fs) = .ins c fs := rfl
theorem view_cel (h : M[n]? = some d) : view M (.cel n) = d := by show (M[n]?).getD _ = _; rw [h]; rfl
theorem fldR_ins {c g fs} (h : List.lookup g fs = some d) : fldR c g (.ins c fs) M = .ok d M := by
  unfold fldR; rw [view_ins]; dsimp only; rw [if_pos rfl, h]
theorem propR_ins {cn c fs d M1} (h : c [.ins cn fs] M = .ok d M1) : propR cn c (.ins cn fs) M = .ok d M1 := by
  unfold propR; rw [view_ins]; dsimp only; rw [if_pos rfl]
  unfold apC noX
  simp [h]
@[simp] theorem oIsi_int {k : D → Option Bool} {i : Int} : oIsi k (.int i) M = (match k (.int i) with | some b => .ok (.bl b) M | none => .stuck) := rfl
@[simp] theorem oIsi_non {k : D → Option Bool} : oIsi k .non M = (match k .non with | some b => .ok (.bl b) M | none => .stuck) := rfl
@[simp] theorem oIsi_tup {k : D → Option Bool} {xs} : oIsi k (.tup xs) M = (match k (.tup xs) with | some b => .ok (.bl b) M | none => .stuck) := rfl
@[simp] theorem endE_ret : endE (.ret d M) = .ok d M := rfl
@[simp] theorem endE_next : endE (.next env M) = .ok .non M := rfl
end
theorem inR_of {i : Int} (h1 : -1000000000 ≤ i) (h2 : i ≤ 1000000000) : inR i := Nat.div_eq_of_lt (by omega)
theorem cmul_r {i j : Int} (h : -1000000000000000000 ≤ j ∧ j ≤ 1000000000000000000) : CMulB i j := .inr (Nat.div_eq_of_lt (by omega))
theorem cmul_l {i j : Int} (h : -1000000000000000000 ≤ i ∧ i ≤ 1000000000000000000) : CMulB i j := .inl (Nat.div_eq_of_lt (by omega))
theorem cdiv_s {i j : Int} (h : 0 < j) (h2 : j < 2 ^ 200) : CDivW i j := by
  refine ⟨h, ?_⟩
  have e : j.natAbs < 2 ^ 200 := by omega
  by_cases z : j.natAbs = 0
  · rw [z]; decide
  · have := (Nat.log2_lt z).mpr e
    omega
theorem ixN_nat {n i : Nat} (h : i < n) : ixN n (i : Int) = some i := by
  unfold ixN
  rw [if_pos (by omega), if_pos (by omega)]; simp
theorem ints_map : ∀ ns : List Int, intsOf (ns.map D.int) = some ns
  | [] => rfl
  | n :: ns => by simp [intsOf, ints_map ns]
theorem bMin_ints {ns : List Int} {M : List D} (h : ns ≠ []) : bMin [.lst (ns.map D.int)] M = .ok (.int (mnL ns)) M := by
  show (match intsOf (ns.map D.int) with | some (i :: r) => R.ok (D.int (mnL (i :: r))) M | _ => .stuck) = _
  rw [ints_map]
  cases ns with
  | nil => exact absurd rfl h
  | cons i r => rfl
theorem bMax_ints {ns : List Int} {M : List D} (h : ns ≠ []) : bMax [.lst (ns.map D.int)] M = .ok (.int (mxL ns)) M := by
  show (match intsOf (ns.map D.int) with | some (i :: r) => R.ok (D.int (mxL (i :: r))) M | _ => .stuck) = _
  rw [ints_map]
  cases ns with
  | nil => exact absurd rfl h
  | cons i r => rfl
theorem bools_map : ∀ ns : List Bool, boolsOf (ns.map D.bl) = some ns
  | [] => rfl
  | n :: ns => by simp [boolsOf, bools_map ns]
theorem bAll_bools {ns : List Bool} {M : List D} : bAll [.lst (ns.map D.bl)] M = .ok (.bl (ns.all id)) M := by
  show (match boolsOf (ns.map D.bl) with | some bs => R.ok (D.bl (bs.all id)) M | _ => .stuck) = _
  rw [bools_map]
theorem pdL_ints : ∀ ns : List Int, D.pdL (ns.map D.int) = some (ns.map PyData.int)
  | [] => rfl
  | a :: r => by simp [D.pdL, D.pd, pdL_ints r]
theorem lay_ints : ∀ ns : List Int, PyData.canLayAll0 (ns.map PyData.int) = true ∧ PyData.depthAll (ns.map PyData.int) = 0
  | [] => ⟨rfl, rfl⟩
  | a :: r => by simp [PyData.canLayAll0, PyData.canLay0, PyData.depthAll, PyData.depth, lay_ints r]
theorem shaped_ints (ns : List Int) : SeqAt.shaped (.list (ns.map PyData.int)) = true := by
  simp [SeqAt.shaped, PyData.canLay0, PyData.depth, lay_ints]
theorem eqD_nil {ns : List Int} : eqD (.lst (ns.map D.int)) (.lst []) = some ns.isEmpty := by
  have e2 : D.pd (.lst (ns.map D.int)) = some (.list (ns.map PyData.int)) := by simp [D.pd, pdL_ints]
  have e3 : D.pd (.lst []) = some (.list []) := rfl
  have e4 : SeqAt.shaped (.list []) = true := shaped_ints []
  show (match eqP (.lst (ns.map D.int)) (.lst []) with | b => b) = _
  unfold eqP
  rw [e2, e3]
  dsimp only
  rw [if_pos ⟨shaped_ints ns, e4⟩]
  cases ns <;> rfl
theorem oNe_nil {ns : List Int} {M : List D} : oNe (.lst (ns.map D.int)) (.lst []) M = .ok (.bl (!ns.isEmpty)) M := by
  show (match eqD (.lst (ns.map D.int)) (.lst []) with | some b => R.ok (.bl !b) M | none => .stuck) = _
  rw [eqD_nil]
theorem oNe_nil0 {M : List D} : oNe (.lst []) (.lst []) M = .ok (.bl false) M := oNe_nil (ns := [])
theorem oEq_nil {ns : List Int} {M : List D} : oEq (.lst (ns.map D.int)) (.lst []) M = .ok (.bl ns.isEmpty) M := by
  show (match eqD (.lst (ns.map D.int)) (.lst []) with | some b => R.ok (.bl b) M | none => .stuck) = _
  rw [eqD_nil]
end MP

set_option maxRecDepth 100000
set_option maxHeartbeats 4000000
namespace MP
open PySem PySem.Spec PyProof.Rows L2
/-! ### a tuple once: itself -/
theorem mul_once (l : Addr) (items : Array Value) (n : Nat) (dd : Option Addr) (sl : Array (Option Value)) (u : Tok) :
    Meets (Builtin.«tuple.__mul__» ⟨[.ref l, .int 1 u], []⟩) (fun _ R s => s.heap.get? l = some { cls := .type "tuple", dict := dd, data := .seq items n, slots := sl } ∧ R (.ok (.ret (Value.ref l))) s) :=
  .of_wp fun prog w A R s h => by
    obtain ⟨hp, g, d, tk, os⟩ := s
    obtain ⟨hl, hr⟩ := h
    have f1 := AutoSeq1.idx_int
    have c0 : (decide ((1 : Int) < -(2 ^ 63)) || decide ((1 : Int) ≥ 2 ^ 63)) = false := by decide
    have c1 : (items.isEmpty || (1 : Int) == 1) = true := by cases items.isEmpty <;> rfl
    wp_walk using wpAny_loadPart' hl
    repeat (first
      | (refine wpAny_ite_false (decide_eq_false (by rw [c0]; exact Bool.false_ne_true)) ?_; wp_walk using wpAny_loadPart' hl)
      | (refine wpAny_ite_true (decide_eq_true c1) ?_; wp_walk using wpAny_loadPart' hl))
    exact ⟨_, rfl, hr⟩
theorem op_rep1 {X : Cx} : OpR X (binaryOp .Mult) (fun x y H Q => ∃ l xs, x = .ref l ∧ y = .int 1 ∧ SqT X.K H l xs ∧ Q (.ref l) H) := by
  intro pins s σ H x y v u Q I rx ry h
  obtain ⟨l, xs, rfl, rfl, hT, q⟩ := h
  cases rx
  obtain ⟨t, rfl⟩ := ry
  obtain ⟨its, r, ⟨⟨cls, dd, data, sl⟩, ho, hc, n, hd⟩, hs⟩ := I.tuple hT
  simp only at hc hd
  subst hc hd
  exact wpAny_binaryOp_repeat_ref (T := "tuple") (U := "int") (by decide) ⟨_, ho, rfl⟩ (fun s' => typeIs_int s' 1 t) noFill_tuple_mul F.fills_int_mul F.slot_int_rmul repeat_tuple F.slot_int_index.lookup
    (call_meets F.slot_int_rmul (typeIs_int s 1 t) F.entry_int_rmul (F.args_int_rmul_2 _ _) (int_rmul_tuple 1 t l its.toArray n dd sl)
      ⟨ho, rfl, ⟨_, ho, rfl⟩, call_meets F.slot_tuple_mul ⟨_, ho, rfl⟩ F.entry_tuple_mul (F.args_tuple_mul_2 _ _) (mul_once l its.toArray n dd sl t) ⟨ho, ⟨.ref l, H, I, rfl, q⟩⟩⟩)
instance neDec {xs : List D} : Decidable (xs ≠ []) := match xs with
  | [] => isFalse (by simp)
  | _ :: _ => isTrue (by simp)
def repD (k : Nat) (xs : List D) : List D := (List.replicate k xs).flatten
def oMulT (x y : D) (M : List D) : R := match view M x, view M y with
  | .tup xs, .int k => if xs ≠ [] ∧ 1 ≤ k ∧ k ≤ 1000 ∧ xs.length ≤ 1000 then .ok (.tup (repD k.toNat xs)) M else .stuck
  | _, _ => .stuck
section
variable {X : Cx} {W : WX} {K : PySem.W.Frag} {E : Ends} {DR : DRel} {N0 : Ent} {F H : Hp} {Ad : List Addr} {M : List D} {env : EnvM} {σ : St} {Q : VK} {x : V} {e c : Expr} {f : EF} {b : SF} {body : List Stmt} {pos p pc : Pos}
theorem DenL.rep {vs ds} (h : DenL K F Ad vs ds) : ∀ k, DenL K F Ad (List.replicate k vs).flatten (repD k ds)
  | 0 => .nil
  | k + 1 => by
    unfold repD
    rw [List.replicate_succ, List.replicate_succ, List.flatten_cons, List.flatten_cons]
    exact h.append (DenL.rep h k)
theorem op2_mulT : Op2 X (DE X.K) (binaryOp .Mult) oMulT := by
  intro pins s σ H F Ad M E x y v u dx dy Q I m rx ry hx hy r
  have ax := DB.view m hx
  have ay := DB.view m hy
  unfold oMulT at r
  revert r ax ay
  generalize view M dx = ex
  generalize view M dy = ey
  intro r ax ay
  split at r
  · rename_i xs k
    split at r
    · rename_i hc
      obtain ⟨h0, h1, h2, h3⟩ := hc
      have dn := ax.den (fun _ h => nomatch h)
      obtain ⟨a, vs, rfl, g1, g2⟩ := ax.tup m
      by_cases hk : k = 1
      · subst hk
        have e1 : repD (1 : Int).toNat xs = xs := by simp [repD]
        rw [e1] at r
        exact op_rep1 pins s σ H _ y v u Q I rx ry ⟨a, vs, rfl, ay.int, SqT.of g1, RP.here r m dn⟩
      · have hv : vs ≠ [] := fun e => h0 (List.length_eq_zero_iff.mp (by rw [← g2.length, e]; rfl))
        exact op_repT pins s σ H _ y v u Q I rx ry ⟨a, k, vs, rfl, ay.int, SqT.of g1, hv, by omega, h2, by rw [g2.length]; exact h3, fun p hp => RP.newTup r m (g2.rep _) hp⟩
    · exact r.elim
  · exact r.elim
/-! ### while, by fuel -/
def whL (f : EF) (b : SF) : Nat → SF
  | 0, _, _ => .stuck
  | n + 1, env, M => (f env M).bindS env fun d M1 => match d with
    | .bl true => (match b env M1 with
      | .next env2 M2 => whL f b n env2 M2
      | .cont env2 M2 => whL f b n env2 M2
      | .brk env2 M2 => .next env2 M2
      | r => r)
    | .bl false => .next env M1
    | _ => .stuck
theorem ss_while {n : Nat} (hp : PassesOwn (model X.prog X.w) X.A X.env X.xe) (hc : ST X W c f) (hb : SSs X W DR body b) : SS X W DR (.While c body [] pos) (whL f b n) := PS.imp (ps_while hp hc hb) fun E σ H ⟨N0, F, Ad, M, env, ge0, m, en, r⟩ => by
  refine ⟨fun k σ2 H2 => ∃ F2 Ad2 M2 env2, GrE N0 F2 Ad2 H2 ∧ MemOk X.K F2 Ad2 M2 H2 ∧ EnvOk X.K N0 F2 Ad2 H2 σ2 env2 ∧ RPS X.K W DR E N0 F2 Ad2 (whL f b k env2 M2), ⟨n, F, Ad, M, env, ge0, m, en, r⟩, ?_⟩
  rintro k σ2 H2 ⟨F2, Ad2, M2, env2, ge2, m2, en2, r2⟩
  cases k with
  | zero => exact r2.elim
  | succ k =>
    refine tT_of (D := E) ge2 m2 en2 r2 (fun d M1 hd => by cases d <;> first | rfl | exact absurd rfl (hd _)) fun cc M3 F3 Ad3 H3 ge3 m3 en3 r3 => ?_
    cases cc with
    | false => exact r3 σ2 F3 Ad3 H3 ge3 (FLe.refl _) pre_refl m3 en3
    | true =>
      rw [if_pos rfl]
      refine ⟨fun σ' H' => ∃ F4 Ad4 M4 env4, GrE N0 F4 Ad4 H' ∧ MemOk X.K F4 Ad4 M4 H' ∧ EnvOk X.K N0 F4 Ad4 H' σ' env4 ∧ RPS X.K W DR E N0 F4 Ad4 (whL f b k env4 M4), fun σ' H' h => ⟨k, Nat.lt_succ_self k, h⟩, ⟨N0, F3, Ad3, M3, env2, ge3, m3, en3, ?_⟩⟩
      dsimp only at r3
      cases hb2 : b env2 M3 with
      | next env4 M4 => rw [hb2] at r3; exact fun σ F' Ad' H' g' l' p' m' en' => ⟨F', Ad', M4, env4, g', m', en', RPS.gr r3 l' p'⟩
      | cont env4 M4 => rw [hb2] at r3; exact fun σ F' Ad' H' g' l' p' m' en' => ⟨F', Ad', M4, env4, g', m', en', RPS.gr r3 l' p'⟩
      | brk env4 M4 => rw [hb2] at r3; exact r3
      | ret d M4 => rw [hb2] at r3; exact r3
      | exc z env4 M4 => rw [hb2] at r3; exact r3
      | stuck => rw [hb2] at r3; exact r3
/-- isinstance of an own class u: k0 its answer for built-in types (false), kc for own ones -/
def isC (cn : Str) (cs : List Str) (d : D) : Option Bool := match d with
  | .dT _ => none
  | .ins c _ => if c = cn then some true else if cs.contains c = true then some false else none
  | d => d.tyN.map fun _ => false
theorem isK_C {cn : Str} {cs : List Str} (hT : ∀ n ∈ tyNs, PySem.W.kitOne K (.type n) (.ref (He.ga K cn)) = some false) (h0 : ClsT K cn) (hc : ∀ c ∈ cs, ClsT K c ∧ PySem.W.kitOne K (.ref (He.ga K c)) (.ref (He.ga K cn)) = some false) : IsK K (.ref (He.ga K cn)) (isC cn cs) := by
  intro F Ad M H x d b m h e
  have gen : ∀ d' : D, (∀ k, d' ≠ .dT k) → d'.tyN.map (fun _ => false) = some b → DV K F Ad H x d' → ∃ t, TyX K H x t ∧ PySem.W.kitOne K t (.ref (He.ga K cn)) = some b := fun d' hn e' h' => by
    rw [Option.map_eq_some_iff] at e'
    obtain ⟨n, e1, e2⟩ := e'
    exact ⟨_, h'.ty m e1 hn, by rw [← e2]; exact hT n (D.tyN_mem e1)⟩
  cases d with
  | dT k => cases e
  | ins c fs =>
    dsimp only [isC] at e
    obtain ⟨a, dx, vs, rfl, h1, _⟩ := h.ins m
    split at e
    · rename_i ec
      subst ec
      cases e
      refine ⟨_, .base (.ins h1 h0.cl h0.ha h0.hn h0.htk h0.hm), ?_⟩
      unfold PySem.W.kitOne
      rw [if_pos (beq_self_eq_true _)]
    · split at e
      · rename_i hcs
        cases e
        obtain ⟨z, hk⟩ := hc c (by simpa using hcs)
        exact ⟨_, .base (.ins h1 z.cl z.ha z.hn z.htk z.hm), hk⟩
      · cases e
  | non => exact gen .non (fun _ z => nomatch z) e h
  | bl y => exact gen (.bl y) (fun _ z => nomatch z) e h
  | int y => exact gen (.int y) (fun _ z => nomatch z) e h
  | str y => exact gen (.str y) (fun _ z => nomatch z) e h
  | tup y => exact gen (.tup y) (fun _ z => nomatch z) e h
  | ktp y => exact gen (.ktp y) (fun _ z => nomatch z) e h
  | lst y => exact gen (.lst y) (fun _ z => nomatch z) e h
  | scr y => exact gen (.scr y) (fun _ z => nomatch z) e h
  | dK y => exact gen (.dK y) (fun _ z => nomatch z) e h
  | cel _ => cases e
theorem pe_own {y : Str} {a : Addr} (hm : X.mg y = some (.ref a)) (hg : Gl X y := by rfl) (hd : (y == ("__debug__" : Str)) = false := by decide) : PE X (.Name y pos) (fun _ H Q => Q (.ref a) H) :=
  pe_glob (v := .ref a) hg hm rfl hd
end
/-! to compute -/
section
variable {f : EF} {b : SF} {n : Nat} {env : EnvM} {M : List D}
theorem oIsi_ins {k : D → Option Bool} {c fs b} (h : k (.ins c fs) = some b) : oIsi k (.ins c fs) M = .ok (.bl b) M := by
  show (match k (.ins c fs) with | some b => R.ok (.bl b) M | none => .stuck) = _
  rw [h]
theorem isC_ins {c : Str} {cs fs} : isC c cs (.ins c fs) = some true := by unfold isC; dsimp only; rw [if_pos rfl]
theorem oMulT_of {xs : List D} {k : Int} (h : xs ≠ []) (h1 : 1 ≤ k) (h2 : k ≤ 1000) (h3 : xs.length ≤ 1000) : oMulT (.tup xs) (.int k) M = .ok (.tup (repD k.toNat xs)) M := by
  show (if xs ≠ [] ∧ 1 ≤ k ∧ k ≤ 1000 ∧ xs.length ≤ 1000 then R.ok (D.tup (repD k.toNat xs)) M else R.stuck) = _
  rw [if_pos ⟨h, h1, h2, h3⟩]
theorem oAdd_tup {xs ys : List D} (h : xs.length + ys.length ≤ 1000) : oAdd (.tup xs) (.tup ys) M = .ok (.tup (xs ++ ys)) M := by
  show (if xs.length + ys.length ≤ sizeLine then R.ok (D.tup (xs ++ ys)) M else R.stuck) = _
  rw [if_pos (Nat.le_trans h (by decide))]
theorem oAdd_lst {xs ys : List D} (h : xs.length + ys.length ≤ 100000) : oAdd (.lst xs) (.lst ys) M = .ok (.lst (xs ++ ys)) M := by
  show (if xs.length + ys.length ≤ sizeLine then R.ok (D.lst (xs ++ ys)) M else R.stuck) = _
  rw [if_pos (Nat.le_trans h (by decide))]
def whK (f : EF) (b : SF) (n : Nat) (r : RS) : RS := match r with
  | .next env2 M2 => whL f b n env2 M2
  | .cont env2 M2 => whL f b n env2 M2
  | .brk env2 M2 => .next env2 M2
  | r => r
@[simp] theorem whK_next : whK f b n (.next env M) = whL f b n env M := rfl
theorem whL_succ : whL f b (n + 1) env M = (f env M).bindS env fun d M1 => iteS d (whK f b n (b env M1)) (.next env M1) := by
  show (f env M).bindS env _ = _
  exact bindS_fun fun d M1 => by
    cases d <;> first | rfl | (rename_i c; cases c <;> rfl)
end
end MP

set_option maxRecDepth 100000
set_option maxHeartbeats 4000000
namespace MP
open PySem PySem.Spec PyProof.Rows L2
/-! ### calls with keywords -/
/-- the items at the places ix -/
def pickL {α : Type} (ix : List Nat) (l : List α) : List α := ix.filterMap (l[·]?)
theorem vals_pick {vs : List V} {us : List Value} (r : Vals vs us) : ∀ ix : List Nat, Vals (pickL ix vs) (pickL ix us)
  | [] => .nil
  | i :: ix => by
    have t := vals_pick r ix
    unfold pickL at t ⊢
    rw [List.filterMap_cons, List.filterMap_cons]
    cases h : vs[i]? with
    | some v =>
      obtain ⟨u, hu, ru⟩ := r.get h
      rw [hu]
      exact .cons ru t
    | none =>
      have : us[i]? = none := by rw [List.getElem?_eq_none_iff] at h ⊢; rw [← r.length]; exact h
      rw [this]; exact t
theorem denL_pick {K : PySem.W.Frag} {F : Hp} {Ad : List Addr} {vs : List V} {ds : List D} (r : DenL K F Ad vs ds) : ∀ ix : List Nat, DenL K F Ad (pickL ix vs) (pickL ix ds)
  | [] => .nil
  | i :: ix => by
    have t := denL_pick r ix
    unfold pickL at t ⊢
    rw [List.filterMap_cons, List.filterMap_cons]
    cases h : ds[i]? with
    | some d =>
      obtain ⟨v, hv, rv⟩ := r.get h
      rw [hv]
      exact .cons rv t
    | none =>
      have : vs[i]? = none := by rw [List.getElem?_eq_none_iff] at h ⊢; rw [r.length]; exact h
      rw [this]; exact t
/-- a def that is called with np values by position and the keywords ks -/
structure FnQ (P : Program) (w : World) (K : PySem.W.Frag) (mg : Str → Option Value) (base : Heap) (DR : DRel) (k n np : Nat) (ks : List Str) (ix : List Nat) (g : Addr) (dd : List D) (c : List D → List D → R) : Prop where
  ex : ∃ (fd : FuncData) (ps : List Str) (dvs : List V) (dds : List Value), MP.FnOk P w K mg base (L2.CX P w) k g fd ps (spD K DR n c) ∧
    (∀ (s : Shared) (us ws : List Value), K.In s.heap → us.length = np → ws.length = ks.length → BindsTo s fd ⟨us, ks.zip ws⟩ (ps.zip (pickL ix (us ++ ws ++ dds)))) ∧ Vals dvs dds ∧ (∀ F Ad, DenL K F Ad dvs dd) ∧ PySem.W.keepIn K (.ref g) = true
theorem fnq_of {P : Program} {w : World} {K : PySem.W.Frag} {mg : Str → Option Value} {base : Heap} {DR : DRel} {k n np : Nat} {ks ps : List Str} {ix : List Nat} {g : Addr} {c : List D → List D → R} {x qual : Str} {params : Arguments} {body : List Stmt} {scope : Scope} {kws : List (Str × V)} {fd : FuncData}
    (Fd : FunD K x qual params body scope [] kws g fd) (Fo : MP.FnOk P w K mg base (L2.CX P w) k g fd ps (spD K DR n c))
    (h : ∀ (kV doc pm : Value) (an : Option Addr) (cdv ct : Value) (us ws : List Value), us.length = np → ws.length = ks.length → bindArgs (PySem.W.fnOf x qual params body scope .none kV doc pm an cdv ct) ⟨us, ks.zip ws⟩ = pure (ps.zip (pickL ix (us ++ ws)))) :
    FnQ P w K mg base DR k n np ks ix g [] c := by
  have kp := Fd.kp
  obtain ⟨oc, od, dV, kV, doc, pm, an, cdv, ct, osl, rfl, lk, hcd, hD, hK⟩ := Fd.ex
  rcases hD with ⟨_, rfl⟩ | ⟨e, _⟩
  · exact ⟨_, ps, [], [], Fo, fun s us ws _ h1 h2 => by rw [List.append_nil]; exact .of_eq (h kV doc pm an cdv ct us ws h1 h2), .nil, fun _ _ => .nil, kp⟩
  · exact absurd rfl e
def apQ (c : List D → List D → R) (n np nk : Nat) (ix : List Nat) (dd xs ys M : List D) : R := if xs.length = np ∧ ys.length = nk ∧ (pickL ix (xs ++ ys ++ dd)).length = n then c (pickL ix (xs ++ ys ++ dd)) M else .stuck
def eCallQ (c : List D → List D → R) (n np nk : Nat) (ix : List Nat) (dd : List D) (l1 l2 : LF) : EF := fun env M => (l1 env M).bind fun xs M1 => (l2 env M1).bind fun ys M2 => apQ c n np nk ix dd xs ys M2
section
variable {X : Cx} {W : WX} {DR : DRel} {N0 : Ent} {F H : Hp} {Ad : List Addr} {M : List D} {env : EnvM} {σ : St} {Q : VK} {k n np : Nat} {ks : List Str} {ix : List Nat} {g : Addr} {dd : List D} {c : List D → List D → R} {es : List Expr} {e : Expr} {l l1 l2 : LF} {f : EF} {y m : Str} {p pos kpos : Pos} {kws : List Keyword} {nm : Option Str}
abbrev SK (X : Cx) (W : WX) (kws : List Keyword) (f : LF) : Prop := PK X kws (tL X.K W (DLE X.K) f)
theorem PK.imp {t t' : TA} (h : PK X kws t) (i : ∀ σ H Q, t' σ H Q → t σ H Q) : PK X kws t' := ⟨fun pos pins s σ H Q I q => h.run pos pins s σ H Q I (i σ H Q q)⟩
theorem run_fnQ {pins : List (Addr × Obj)} {s : Shared} {us ws : List Value} {vs zs : List V} {ds es : List D} (Fk : FnQ X.prog X.w X.K X.mg X.base DR k n np ks ix g dd c) (hr : MP.Room k X.A) (hx : Pas X W) (I : Inv X pins σ H s) (mm : MemOk X.K F Ad M H)
    (r : Vals vs us) (x : DenL X.K F Ad vs ds) (r2 : Vals zs ws) (x2 : DenL X.K F Ad zs es)
    (h : RP X.K (fun c d H => W c d σ H) DR F Ad H Q (apQ c n np ks.length ix dd ds es M)) : wpAny (model X.prog X.w) X.A (call (.ref g) us (ks.zip ws)) (EP X pins σ Q) X.xe s := by
  obtain ⟨fd, ps, dvs, dds, Fo, hb, hv, hd, hk⟩ := Fk.ex
  unfold apQ at h
  split at h
  · rename_i hn
    obtain ⟨h1, h2, h3⟩ := hn
    have xx := denL_pick ((x.append x2).append (hd F Ad)) ix
    have rr := vals_pick ((r.append r2).append hv) ix
    refine run_any Fo hr (hx σ) I (fun _ => hb s us ws I.kIn (by rw [← r.length, x.length, h1]) (by rw [← r2.length, x2.length, h2])) rr ⟨by rw [xx.length]; exact h3, F, Ad, M, _, mm, xx, h⟩
  · exact h.elim
theorem sk_nil : SK X W [] lNil := PK.imp pk_nil fun σ H Q ⟨N0, F, Ad, M, env, m, en, r⟩ => r [] F Ad H Gr.refl m .nil
theorem sk_cons (ha : SE X W e f) (hr : SK X W kws l) : SK X W (⟨nm, e, kpos⟩ :: kws) (lCons f l) :=
  PK.imp (pk_cons ha hr) fun σ H Q ⟨N0, F, Ad, M, env, m, en, r⟩ => tG_seqL m en r fun d M1 v F1 Ad1 H1 g1 m1 en1 x1 r1 => tL_seqL m1 en1 r1 fun ds M2 vs F2 Ad2 H2 g2 m2 en2 x2 r2 =>
    r2 (v :: vs) F2 Ad2 H2 Gr.refl m2 (.cons (x1.mono g2.fle g2.pre) x2)
/-- f(e, .., k = v, ..) -/
theorem s_callQ (dr : DRok DR) (Fk : FnQ X.prog X.w X.K X.mg X.base DR k n np ks ix g dd c) (hr : MP.Room k X.A) (hx : Pas X W) (hg : Gl X y) (hm : X.mg y = some (.ref g)) (ha : SL X W (e :: es) l1) (hkw : SK X W kws l2)
    (hall : (backToKw pos (keywordEach kws X.env)).all (·.1.isSome) = true := by rfl) (hks : (backToKw pos (keywordEach kws X.env)).filterMap (·.1) = ks := by rfl)
    (hdb : (y == ("__debug__" : Str)) = false := by decide) (he : starEach (e :: es) X.env = (false, eval e X.env) :: starEach es X.env := by rfl)
    (hpl : ((backTo pos (starEach (e :: es) X.env)).any (·.1) || (backToKw pos (keywordEach kws X.env)).any (·.1.isNone)) = false := by rfl) :
    PE X (.Call (.Name y p) (e :: es) kws pos) (tG X.K W DR (eCallQ c n np ks.length ix dd l1 l2)) := by
  have hk := Fk.ex.choose_spec.choose_spec.choose_spec.choose_spec.2.2.2.2
  refine ⟨fun pins s σ H Q I ⟨N0, F, Ad, M, env, m, en, r⟩ => ?_⟩
  refine wpAny_Call_Name_kw (ld_glob I hg hm ?_ hdb)
  refine PySem.W.callWith_KW (h₀ := X.base) I.ok.mod.kin hk hall (thn (ha.run pos pins s σ H _ I (tL_seq (Q' := fun vs H1 => ∃ F1 Ad1 M1 ds, MemOk X.K F1 Ad1 M1 H1 ∧ EnvOk X.K N0 F1 Ad1 H1 σ env ∧ DenL X.K F1 Ad1 vs ds ∧ RP X.K (fun c d H => W c d σ H) DR F1 Ad1 H1 Q ((l2 env M1).bind fun ys M2 => apQ c n np ks.length ix dd ds ys M2)) dr m en r fun ds M1 vs F1 Ad1 H1 g1 m1 en1 x1 r1 => ⟨F1, Ad1, M1, ds, m1, en1, x1, r1⟩))
    fun us s1 ⟨vs, H1, I1, rv, F1, Ad1, M1, ds, m1, en1, x1, r1⟩ => ?_) hpl he
  refine thn (hkw.run pos pins s1 σ H1 _ I1 (tL_seq (Q' := fun zs H2 => ∃ F2 Ad2 M2 es, MemOk X.K F2 Ad2 M2 H2 ∧ DenL X.K F2 Ad2 vs ds ∧ DenL X.K F2 Ad2 zs es ∧ RP X.K (fun c d H => W c d σ H) DR F2 Ad2 H2 Q (apQ c n np ks.length ix dd ds es M2)) dr m1 en1 r1 fun es M2 zs F2 Ad2 H2 g2 m2 en2 x2 r2 => ⟨F2, Ad2, M2, es, m2, x1.mono g2.fle g2.pre, x2, r2⟩))
    fun ws s2 ⟨zs, H2, I2, rz, F2, Ad2, M2, es, m2, x1', x2, r2⟩ => ⟨I2.kIn, ?_⟩
  rw [hks]
  exact run_fnQ Fk hr hx I2 m2 rv x1' rz x2 r2
/-- f(k = v, ..) -/
theorem s_callQ0 (dr : DRok DR) (Fk : FnQ X.prog X.w X.K X.mg X.base DR k n np ks ix g dd c) (hr : MP.Room k X.A) (hx : Pas X W) (hg : Gl X y) (hm : X.mg y = some (.ref g)) (hkw : SK X W kws l2)
    (hall : (backToKw pos (keywordEach kws X.env)).all (·.1.isSome) = true := by rfl) (hks : (backToKw pos (keywordEach kws X.env)).filterMap (·.1) = ks := by rfl)
    (hdb : (y == ("__debug__" : Str)) = false := by decide)
    (hpl : ((backTo pos (starEach [] X.env)).any (·.1) || (backToKw pos (keywordEach kws X.env)).any (·.1.isNone)) = false := by rfl) :
    PE X (.Call (.Name y p) [] kws pos) (tG X.K W DR (eCallQ c n np ks.length ix dd lNil l2)) := by
  have hk := Fk.ex.choose_spec.choose_spec.choose_spec.choose_spec.2.2.2.2
  refine ⟨fun pins s σ H Q I ⟨N0, F, Ad, M, env, m, en, r⟩ => ?_⟩
  refine wpAny_Call_Name_kw (ld_glob I hg hm ?_ hdb)
  refine PySem.W.callWith_KW0 (h₀ := X.base) I.ok.mod.kin hk hall (thn (hkw.run pos pins s σ H _ I (tL_seq (Q' := fun zs H2 => ∃ F2 Ad2 M2 es, MemOk X.K F2 Ad2 M2 H2 ∧ DenL X.K F2 Ad2 zs es ∧ RP X.K (fun c d H => W c d σ H) DR F2 Ad2 H2 Q (apQ c n np ks.length ix dd [] es M2)) (k := fun ys M2 => apQ c n np ks.length ix dd [] ys M2) dr m en r fun es M2 zs F2 Ad2 H2 g2 m2 en2 x2 r2 => ⟨F2, Ad2, M2, es, m2, x2, r2⟩))
    fun ws s2 ⟨zs, H2, I2, rz, F2, Ad2, M2, es, m2, x2, r2⟩ => ⟨I2.kIn, ?_⟩) hpl
  rw [hks]
  exact run_fnQ (vs := []) (ds := []) Fk hr hx I2 m2 .nil .nil rz x2 r2
end
end MP

set_option maxRecDepth 100000
set_option maxHeartbeats 4000000
namespace MP
open PySem PySem.Spec PyProof.Rows L2
/-! ### repr -/
mutual
/-- the kit's data, where repr knows it -/
def toPy : D → Option PyData
  | .non => some .none
  | .bl b => some (.bool b)
  | .int i => some (.int i)
  | .str s => some (.str s)
  | .tup xs => match toPyL xs with | some ps => some (.tuple ps) | none => none
  | .ktp xs => match toPyL xs with | some ps => some (.tuple ps) | none => none
  | .lst xs => match toPyL xs with | some ps => some (.list ps) | none => none
  | _ => none
def toPyL : List D → Option (List PyData)
  | [] => some []
  | d :: ds => match toPy d, toPyL ds with | some p, some ps => some (p :: ps) | _, _ => none
end
mutual
/-- signs of repr's text, at most -/
def rsz : PyData → Nat
  | .none => 4 | .bool _ => 5 | .int _ => 1921 | .str x => (reprText x).length
  | .list xs => rszL xs + 2 * xs.length + 3
  | .tuple xs => rszL xs + 2 * xs.length + 3
  | .dict _ => 0
def rszL : List PyData → Nat
  | [] => 0
  | x :: xs => rsz x + rszL xs
end
section
variable {X : Cx} {K : PySem.W.Frag} {F H : Hp} {Ad : List Addr} {M : List D} {σ : St} {pins : List (Addr × Obj)} {s : Shared}
mutual
theorem reads_of (I : Inv X pins σ H s) (m : MemOk X.K F Ad M H) : ∀ (d : D) {v : V} {u : Value} {p : PyData}, Den X.K F Ad v d → RelV v u → toPy d = some p → ∃ as, Reads s.heap u p as
  | .non, _, u, p, .non, r, e => by cases e; obtain rfl : u = Value.none := r; exact ⟨_, .none⟩
  | .bl b, _, u, p, .bl, r, e => by cases e; obtain rfl : u = Value.bool b := r; exact ⟨_, .bool b⟩
  | .int i, _, u, p, .int, r, e => by cases e; obtain ⟨t, rfl⟩ := (show ∃ t, u = Value.int i t from r); exact ⟨_, .int i t⟩
  | .str x, _, u, p, .str, r, e => by cases e; obtain ⟨t, rfl⟩ := (show ∃ t, u = Value.str x t from r); exact ⟨_, .str x t⟩
  | .tup xs, _, u, p, .tup (a := a) h d1, r, e => by
    obtain rfl : u = Value.ref a := r
    unfold toPy at e
    split at e
    · rename_i ps ep; cases e
      obtain ⟨its, rv, ⟨o, ho, hc, n, hd⟩, _⟩ := I.tuple (SqT.of (m.sub _ _ h))
      obtain ⟨as, ra⟩ := readsL_of I m xs d1 rv ep
      exact ⟨_, .tuple ho hc hd (by simpa using ra)⟩
    · cases e
  | .ktp xs, _, u, p, .ktp (a := a) h d1, r, e => by
    obtain rfl : u = Value.ref a := r
    unfold toPy at e
    split at e
    · rename_i ps ep; cases e
      obtain ⟨its, rv, ⟨o, ho, hc, n, hd⟩, _⟩ := I.tuple (sqT_sub m h)
      obtain ⟨as, ra⟩ := readsL_of I m xs d1 rv ep
      exact ⟨_, .tuple ho hc hd (by simpa using ra)⟩
    · cases e
  | .lst xs, _, u, p, .lst (a := a) h d1, r, e => by
    obtain rfl : u = Value.ref a := r
    unfold toPy at e
    split at e
    · rename_i ps ep; cases e
      obtain ⟨its, n, rv, ho, _⟩ := I.lst (m.sub _ _ h)
      obtain ⟨as, ra⟩ := readsL_of I m xs d1 rv ep
      exact ⟨_, .list ho rfl rfl (by simpa using ra)⟩
    · cases e
theorem readsL_of (I : Inv X pins σ H s) (m : MemOk X.K F Ad M H) : ∀ (ds : List D) {vs : List V} {us : List Value} {ps : List PyData}, DenL X.K F Ad vs ds → Vals vs us → toPyL ds = some ps → ∃ as, ReadsAll s.heap us ps as
  | [], _, us, ps, .nil, r, e => by cases e; cases r; exact ⟨_, .nil⟩
  | d :: ds, _, us, ps, .cons h1 h2, r, e => by
    cases r with
    | cons r1 r2 =>
      unfold toPyL at e
      split at e
      · rename_i p ps e1 e2; cases e
        obtain ⟨a1, q1⟩ := reads_of I m d h1 r1 e1
        obtain ⟨a2, q2⟩ := readsL_of I m ds h2 r2 e2
        exact ⟨_, .cons q1 q2⟩
      · cases e
end
end
end MP

set_option maxRecDepth 100000
set_option maxHeartbeats 4000000
namespace MP
open PySem PySem.Spec PyProof.Rows L2
mutual
theorem shown_rsz : ∀ p : PyData, p.showable = true → p.hasDict = false → p.shown.length ≤ rsz p
  | .none, _, _ => by decide
  | .bool b, _, _ => by cases b <;> decide
  | .int i, h, _ => by
    have h' : i.natAbs.log2 < 1920 := by simpa [PyData.showable] using h
    show (Str.ofString (toString i)).length ≤ 1921
    exact PyProof.Rows.int_text_len_1921 h'
  | .str x, _, _ => by show (reprText x).length ≤ _; exact Nat.le_refl _
  | .list xs, h, g => by
    have t := shownL_rsz xs (by simpa [PyData.showable] using h) (by simpa [PyData.hasDict] using g)
    have e := listText_len_le (PyData.shownAll xs)
    show (listText (PyData.shownAll xs)).length ≤ rszL xs + 2 * xs.length + 3
    omega
  | .tuple xs, h, g => by
    have t := shownL_rsz xs (by simpa [PyData.showable] using h) (by simpa [PyData.hasDict] using g)
    have e := tupleText_len_le (PyData.shownAll xs)
    show (tupleText (PyData.shownAll xs)).length ≤ rszL xs + 2 * xs.length + 3
    omega
  | .dict _, _, g => by simp [PyData.hasDict] at g
theorem shownL_rsz : ∀ xs : List PyData, PyData.showableAll xs = true → PyData.hasDictAll xs = false → ((PyData.shownAll xs).map (·.length)).sum ≤ rszL xs ∧ (PyData.shownAll xs).length = xs.length
  | [], _, _ => ⟨Nat.le_refl _, rfl⟩
  | x :: xs, h, g => by
    simp only [PyData.showableAll, Bool.and_eq_true] at h
    simp only [PyData.hasDictAll, Bool.or_eq_false_iff] at g
    have a := shown_rsz x h.1 g.1
    have b := shownL_rsz xs h.2 g.2
    show ((PyData.shown x :: PyData.shownAll xs).map (·.length)).sum ≤ rsz x + rszL xs ∧ (PyData.shown x :: PyData.shownAll xs).length = _
    simp only [List.map_cons, List.sum_cons, List.length_cons]
    omega
end
/-- what repr can show here -/
def rOk (p : PyData) : Bool := p.showable && !p.hasDict && decide (p.depth ≤ 60) && decide (rsz p ≤ sizeLine)
def isRef : D → Bool
  | .tup _ => true | .ktp _ => true | .lst _ => true | _ => false
def bRepr (ds : List D) (M : List D) : R := match ds with
  | [d] => if isRef (view M d) = true then (match toPy (view M d) with
    | some p => if rOk p = true then .ok (.str p.shown) M else .stuck
    | none => .stuck) else .stuck
  | _ => .stuck
theorem call_reprS {X : Cx} {k : Nat} (hr : MP.Room k X.A) : CallS X (DE X.K) (.builtin "repr") bRepr := by
  intro pins s σ H F Ad M E xs us ds Q I m rv x r
  unfold bRepr at r
  split at r
  · rename_i d
    obtain ⟨v, rfl, hx⟩ := x.one
    have ax := DB.view m hx
    split at r
    · rename_i hi
      split at r
      · rename_i p hp
        split at r
        · rename_i ho
          cases rv with
          | cons r1 r2 =>
            cases r2
            rename_i u
            -- the object is read
            have rd : ∃ a as, u = Value.ref a ∧ Reads s.heap (.ref a) p as := by
              revert hp ax hi
              generalize view M d = d'
              intro ax hi hp
              cases d' with
              | tup ys =>
                obtain ⟨a, vs, rfl, h1, h2⟩ := ax.tup m
                obtain rfl : u = Value.ref a := r1
                simp only [toPy] at hp
                split at hp
                · rename_i ps ep; cases hp
                  obtain ⟨its, rv, ⟨o, ho, hc, n, hd⟩, _⟩ := I.tuple (SqT.of h1)
                  obtain ⟨as, ra⟩ := readsL_of I m ys h2 rv ep
                  exact ⟨a, _, rfl, .tuple ho hc hd (by simpa using ra)⟩
                · cases hp
              | ktp ys =>
                obtain ⟨a, vs, rfl, h1, h2⟩ := ax.ktp m
                obtain rfl : u = Value.ref a := r1
                simp only [toPy] at hp
                split at hp
                · rename_i ps ep; cases hp
                  obtain ⟨its, rv, ⟨o, ho, hc, n, hd⟩, _⟩ := I.tuple h1
                  obtain ⟨as, ra⟩ := readsL_of I m ys h2 rv ep
                  exact ⟨a, _, rfl, .tuple ho hc hd (by simpa using ra)⟩
                · cases hp
              | lst ys =>
                obtain ⟨a, vs, rfl, h1, h2⟩ := ax.lst m
                obtain rfl : u = Value.ref a := r1
                simp only [toPy] at hp
                split at hp
                · rename_i ps ep; cases hp
                  obtain ⟨its, n, rv, ho, _⟩ := I.lst h1
                  obtain ⟨as, ra⟩ := readsL_of I m ys h2 rv ep
                  exact ⟨a, _, rfl, .list ho rfl rfl (by simpa using ra)⟩
                · cases hp
              | _ => cases hi
            obtain ⟨a, as, rfl, rd⟩ := rd
            simp only [rOk, Bool.and_eq_true, Bool.not_eq_true', decide_eq_true_eq] at ho
            obtain ⟨⟨⟨o1, o2⟩, o3⟩, o4⟩ := ho
            refine repr_of_reads' rd o1 (PyData.noDict_hsm o2) hr.gd (by have := hr.units; omega) (fun _ _ e => e) (fun h' tk tk' hk => ?_) (Nat.le_trans (shown_rsz p o1 o2) o4)
            exact ⟨.str p.shown, H, I.kept hk, ⟨_, rfl⟩, RP.here r m .str⟩
        · exact r.elim
      · exact r.elim
    · exact r.elim
  · exact r.elim
end MP

set_option maxRecDepth 100000
set_option maxHeartbeats 4000000
namespace MP
open PySem PySem.Spec PyProof.Rows L2
section
variable {X : Cx} {K : PySem.W.Frag} {F H : Hp} {Ad : List Addr} {M : List D}
theorem denL_strs : ∀ ws : List Str, DenL K F Ad (ws.map V.str) (ws.map D.str)
  | [] => .nil
  | w :: ws => .cons .str (denL_strs ws)
theorem se_globT {W : WX} {x : Str} {ws : List Str} {pos : Pos} (hg : Gl X x) (hm : X.mg x = some (.ref (He.ga X.K x))) (h : strsB X.K x ws = true) (hd : (x == ("__debug__" : Str)) = false := by decide) : SE X W (.Name x pos) (eC (.ktp (ws.map D.str))) :=
  PE.imp (pe_glob (v := .ref (He.ga X.K x)) hg hm rfl hd) fun _ _ _ ⟨_, _, _, _, _, m, _, r⟩ => RP.here r m (.ktp (strsB_ok h) (denL_strs ws))
/-! ### a text in a tuple of texts -/
def strsD : List D → Option (List Str)
  | [] => some []
  | .str s :: r => (strsD r).map (s :: ·)
  | _ => none
theorem strsD_vals : ∀ {ds : List D} {vs : List V} {ws : List Str}, DenL K F Ad vs ds → strsD ds = some ws → vs = ws.map V.str
  | [], _, ws, .nil, e => by cases e; rfl
  | d :: ds, _, ws, .cons h1 h2, e => by
    cases d with
    | str s =>
      simp only [strsD, Option.map_eq_some_iff] at e
      obtain ⟨ws', e1, rfl⟩ := e
      cases h1
      rw [strsD_vals h2 e1]; rfl
    | _ => cases e
def oIn (x y : D) (M : List D) : R := match view M x, view M y with
  | .str z, .ktp xs => (match strsD xs with | some ws => .ok (.bl (ws.any fun w => w == z)) M | none => .stuck)
  | .str z, .tup xs => (match strsD xs with | some ws => .ok (.bl (ws.any fun w => w == z)) M | none => .stuck)
  | _, _ => .stuck
theorem strs_flat (ws : List Str) : (ws.map V.str).all flatV = true := by
  rw [List.all_eq_true]; intro x hx
  obtain ⟨w, _, rfl⟩ := List.mem_map.mp hx; rfl
theorem strs_in (ws : List Str) (z : Str) : inV (.str z) (ws.map V.str) = ws.any fun w => w == z := by
  unfold inV; rw [List.any_map]; congr 1
theorem op2_in : Op2 X (DE X.K) (compareOp .In) oIn := by
  intro pins s σ H F Ad M E x y v u dx dy Q I m rx ry hx hy r
  have ax := DB.view m hx
  have ay := DB.view m hy
  unfold oIn at r
  revert r ax ay
  generalize view M dx = ex
  generalize view M dy = ey
  intro r ax ay
  split at r
  · rename_i z xs
    split at r
    · rename_i ws e
      obtain ⟨q, ws', rfl, h2, d2⟩ := ay.ktp m
      have hv := strsD_vals d2 e
      subst hv
      refine op_in_seq pins s σ H _ _ v u Q I rx ry ⟨q, ws.map V.str, rfl, .inr h2, by rw [ax.str]; rfl, strs_flat ws, ?_⟩
      rw [ax.str, if_neg (by decide), strs_in]
      exact RP.here r m .bl
    · exact r.elim
  · rename_i z xs
    split at r
    · rename_i ws e
      obtain ⟨q, ws', rfl, h2, d2⟩ := ay.tup m
      have hv := strsD_vals d2 e
      subst hv
      refine op_in_seq pins s σ H _ _ v u Q I rx ry ⟨q, ws.map V.str, rfl, .inr (SqT.of h2), by rw [ax.str]; rfl, strs_flat ws, ?_⟩
      rw [ax.str, if_neg (by decide), strs_in]
      exact RP.here r m .bl
    · exact r.elim
  · exact r.elim
end
end MP

set_option maxRecDepth 100000
set_option maxHeartbeats 4000000
namespace MP
open PySem PySem.Spec PyProof.Rows L2
/-! ### a new instance, with keywords -/
structure InQ (P : Program) (w : World) (K : PySem.W.Frag) (mg : Str → Option Value) (base : Heap) (k n np : Nat) (ks : List Str) (ix : List Nat) (cn : Str) (g : Addr) (dd : List D) (c : List D → List D → R) : Prop where
  mak : Mk K (He.ga K cn) g
  ex : ∃ (fd : FuncData) (ps : List Str) (dvs : List V) (dds : List Value), MP.FnOk P w K mg base (L2.CX P w) k g fd ps (spI K cn n c) ∧
    (∀ (s : Shared) (self : Value) (us ws : List Value), K.In s.heap → us.length = np → ws.length = ks.length → BindsTo s fd ⟨self :: us, ks.zip ws⟩ (ps.zip (self :: pickL ix (us ++ ws ++ dds)))) ∧ Vals dvs dds ∧ (∀ F Ad, DenL K F Ad dvs dd)
theorem inq_of {P : Program} {w : World} {K : PySem.W.Frag} {mg : Str → Option Value} {base : Heap} {k n np : Nat} {ks ps : List Str} {ix : List Nat} {cn : Str} {g : Addr} {c : List D → List D → R} {x qual : Str} {params : Arguments} {body : List Stmt} {scope : Scope} {kws : List (Str × V)} {fd : FuncData}
    (Mm : Mk K (He.ga K cn) g) (Fd : FunD K x qual params body scope [] kws g fd) (Fo : MP.FnOk P w K mg base (L2.CX P w) k g fd ps (spI K cn n c))
    (h : ∀ (kV doc pm : Value) (an : Option Addr) (cdv ct self : Value) (us ws : List Value), us.length = np → ws.length = ks.length → bindArgs (PySem.W.fnOf x qual params body scope .none kV doc pm an cdv ct) ⟨self :: us, ks.zip ws⟩ = pure (ps.zip (self :: pickL ix (us ++ ws)))) :
    InQ P w K mg base k n np ks ix cn g [] c := by
  obtain ⟨oc, od, dV, kV, doc, pm, an, cdv, ct, osl, rfl, lk, hcd, hD, hK⟩ := Fd.ex
  rcases hD with ⟨_, rfl⟩ | ⟨e, _⟩
  · exact ⟨Mm, _, ps, [], [], Fo, fun s self us ws _ h1 h2 => by rw [List.append_nil]; exact .of_eq (h kV doc pm an cdv ct self us ws h1 h2), .nil, fun _ _ => .nil⟩
  · exact absurd rfl e
section
variable {X : Cx} {W : WX} {N0 : Ent} {F H : Hp} {Ad : List Addr} {M : List D} {env : EnvM} {σ : St} {Q : VK} {k n np : Nat} {ks : List Str} {ix : List Nat} {g : Addr} {dd : List D} {c : List D → List D → R} {es : List Expr} {e : Expr} {l1 l2 : LF} {y cn : Str} {p pos kpos : Pos} {kws : List Keyword}
theorem run_makeQ {pins : List (Addr × Obj)} {s : Shared} {us ws : List Value} {vs zs : List V} {ds es : List D} (Ik : InQ X.prog X.w X.K X.mg X.base k n np ks ix cn g dd c) (hr : MP.Room (k + 1) X.A) (hx : Pas X W) (I : Inv X pins σ H s) (mm : MemOk X.K F Ad M H)
    (r : Vals vs us) (x1 : DenL X.K F Ad vs ds) (rz : Vals zs ws) (x2 : DenL X.K F Ad zs es)
    (h : RP X.K (fun c d H => W c d σ H) (DO X.K) F Ad H Q (apQ c n np ks.length ix dd ds es M)) : wpAny (model X.prog X.w) X.A (call (.ref (He.ga X.K cn)) us (ks.zip ws)) (EP X pins σ Q) X.xe s := by
  obtain ⟨fd, ps, dvs, dds, Fo, hb, hv, hd⟩ := Ik.ex
  unfold apQ at h
  split at h
  · rename_i hn
    obtain ⟨h1, h2, h3⟩ := hn
    have xx := denL_pick ((x1.append x2).append (hd F Ad)) ix
    have rr := vals_pick ((r.append rz).append hv) ix
    have fresh1 := I.hok.fresh (Nat.le_succ s.heap.objs.size)
    have fresh0 := I.hok.fresh (Nat.le_refl s.heap.objs.size)
    have ne : s.heap.objs.size ≠ s.heap.objs.size + 1 := Nat.ne_of_lt (Nat.lt_succ_self _)
    have J := Inv.made (C := He.ga X.K cn) I
    have rs : Vals (V.ref (s.heap.objs.size + 1) :: pickL ix (vs ++ zs ++ dvs)) (Value.ref (s.heap.objs.size + 1) :: pickL ix (us ++ ws ++ dds)) := Paired.cons rfl rr
    have bb := hb { s with heap := (s.heap.push PySem.W.emptyDict).push (PySem.W.instObj (He.ga X.K cn) s.heap.objs.size) } (Value.ref (s.heap.objs.size + 1)) us ws J.kIn (by rw [← r.length, x1.length, h1]) (by rw [← rz.length, x2.length, h2])
    have sp1 : spI X.K cn n c (V.ref (s.heap.objs.size + 1) :: pickL ix (vs ++ zs ++ dvs)) (upd (upd H s.heap.objs.size (.own (s.heap.objs.size + 1))) (s.heap.objs.size + 1) (.ins (He.ga X.K cn) s.heap.objs.size [])) (fun v H2 => v = .non ∧ Q (.ref (s.heap.objs.size + 1)) H2) (fun c d H => W c d σ H) := by
      refine ⟨by show (pickL ix (vs ++ zs ++ dvs)).length + 1 = n + 1; rw [xx.length, h3], _, _, _, H, F, Ad, M, _, rfl, rfl, fresh1, fresh0, ne, mm, xx, ?_⟩
      cases hq : c (pickL ix (ds ++ es ++ dd)) M with
      | ok d M3 =>
        rw [hq] at h
        intro v F' Ad' H' g' m' z ev
        subst ev
        exact ⟨rfl, h _ F' Ad' H' g' m' z⟩
      | exc z M3 => rw [hq] at h; exact h
      | stuck => rw [hq] at h; exact h.elim
    apply wpAny_call
    apply make_map (f := g) I.kIn Ik.mak.makes Ik.mak.init (beq_iff_eq.mp Ik.mak.fn)
    refine codeAny_mono (Fo.run _ X.stack _ _ _ _ _ _ _ (hr.make (He.ga X.K cn) us (ks.zip ws)) (J.env0.make (He.ga X.K cn) us (ks.zip ws)) bb rs sp1) ?_
    intro res s' done
    cases res with
    | error e => exact hx σ pins _ _ e s' J done
    | ok fl =>
      cases fl with
      | ret u =>
        obtain ⟨v, H', J', rv, ev, q⟩ := J.after done
        cases ev
        exact ⟨rv, V.ref (s.heap.objs.size + 1), H', J', rfl, q⟩
      | next => exact done.elim
      | brk => exact done.elim
      | cont => exact done.elim
  · exact h.elim
/-- C(e, .., k = v, ..) -/
theorem so_makeQ (Ik : InQ X.prog X.w X.K X.mg X.base k n np ks ix cn g dd c) (hr : MP.Room (k + 1) X.A) (hx : Pas X W) (hg : Gl X y) (hm : X.mg y = some (.ref (He.ga X.K cn))) (ha : SL X W (e :: es) l1) (hkw : SK X W kws l2)
    (hall : (backToKw pos (keywordEach kws X.env)).all (·.1.isSome) = true := by rfl) (hks : (backToKw pos (keywordEach kws X.env)).filterMap (·.1) = ks := by rfl)
    (hdb : (y == ("__debug__" : Str)) = false := by decide) (he : starEach (e :: es) X.env = (false, eval e X.env) :: starEach es X.env := by rfl)
    (hpl : ((backTo pos (starEach (e :: es) X.env)).any (·.1) || (backToKw pos (keywordEach kws X.env)).any (·.1.isNone)) = false := by rfl) :
    SO X W (.Call (.Name y p) (e :: es) kws pos) (eCallQ c n np ks.length ix dd l1 l2) := by
  refine ⟨fun pins s σ H Q I ⟨N0, F, Ad, M, env, m, en, r⟩ => ?_⟩
  refine wpAny_Call_Name_kw (ld_glob I hg hm ?_ hdb)
  refine PySem.W.callWith_KW (h₀ := X.base) I.ok.mod.kin Ik.mak.kp hall (thn (ha.run pos pins s σ H _ I (tL_seq (Q' := fun vs H1 => ∃ F1 Ad1 M1 ds, MemOk X.K F1 Ad1 M1 H1 ∧ EnvOk X.K N0 F1 Ad1 H1 σ env ∧ DenL X.K F1 Ad1 vs ds ∧ RP X.K (fun c d H => W c d σ H) (DO X.K) F1 Ad1 H1 Q ((l2 env M1).bind fun ys M2 => apQ c n np ks.length ix dd ds ys M2)) DO.ok m en r fun ds M1 vs F1 Ad1 H1 g1 m1 en1 x1 r1 => ⟨F1, Ad1, M1, ds, m1, en1, x1, r1⟩))
    fun us s1 ⟨vs, H1, I1, rv, F1, Ad1, M1, ds, m1, en1, x1, r1⟩ => ?_) hpl he
  refine thn (hkw.run pos pins s1 σ H1 _ I1 (tL_seq (Q' := fun zs H2 => ∃ F2 Ad2 M2 es, MemOk X.K F2 Ad2 M2 H2 ∧ DenL X.K F2 Ad2 vs ds ∧ DenL X.K F2 Ad2 zs es ∧ RP X.K (fun c d H => W c d σ H) (DO X.K) F2 Ad2 H2 Q (apQ c n np ks.length ix dd ds es M2)) DO.ok m1 en1 r1 fun es M2 zs F2 Ad2 H2 g2 m2 en2 x2 r2 => ⟨F2, Ad2, M2, es, m2, x1.mono g2.fle g2.pre, x2, r2⟩))
    fun ws s2 ⟨zs, H2, I2, rz, F2, Ad2, M2, es, m2, x1', x2, r2⟩ => ⟨I2.kIn, ?_⟩
  rw [hks]
  exact run_makeQ Ik hr hx I2 m2 rv x1' rz x2 r2
end
end MP

set_option maxRecDepth 100000
set_option maxHeartbeats 4000000
namespace MP
open PySem PySem.Spec PyProof.Rows L2
/-! ### (.., *t, ..) -/
def starD : D → Option (List D)
  | .tup ds => some ds
  | .ktp ds => some ds
  | _ => none
def lStar (f : EF) (l : LF) : LF := fun env M => (f env M).bindL fun x M1 => match starD (view M1 x) with
  | some ds => (l env M1).bindL fun ys M2 => .ok (ds ++ ys) M2
  | none => .stuck
section
variable {X : Cx} {W : WX} {N0 : Ent} {F H : Hp} {Ad : List Addr} {M : List D} {env : EnvM} {σ : St} {e : Expr} {es : List Expr} {f : EF} {l : LF} {p : Pos} {x : V}
theorem star_den {H0 : Hp} (m : MemOk X.K F Ad M H) {d : D} {ds : List D} (h : DB X.K H0 F Ad H x d) (e : starD (view M d) = some ds) : ∃ a vs, x = .ref a ∧ SqT X.K H a vs ∧ DenL X.K F Ad vs ds := by
  have ax := DB.view m h
  revert e ax
  generalize view M d = d'
  intro e ax
  cases d' with
  | tup ys => cases e; obtain ⟨a, vs, rfl, h1, h2⟩ := ax.tup m; exact ⟨a, vs, rfl, SqT.of h1, h2⟩
  | ktp ys => cases e; obtain ⟨a, vs, rfl, h1, h2⟩ := ax.ktp m; exact ⟨a, vs, rfl, h1, h2⟩
  | _ => cases e
theorem sl_star (ha : SB X W e f) (hr : SL X W es l) (hs : starEach (.Starred e p :: es) X.env = (true, eval e X.env) :: starEach es X.env := by rfl) : SL X W (.Starred e p :: es) (lStar f l) :=
  PA.imp (StX.pa_star ha hr hs) fun σ H Q ⟨N0, F, Ad, M, env, m, en, r⟩ => tG_seqL m en r fun d M1 v F1 Ad1 H1 g1 m1 en1 x1 r1 => by
    split at r1
    · rename_i ds e
      obtain ⟨a, vs, rfl, h1, h2⟩ := star_den m1 x1 e
      exact ⟨a, vs, rfl, .inl h1, tL_seqL m1 en1 r1 fun ys M2 us F2 Ad2 H2 g2 m2 en2 x2 r2 => r2 (vs ++ us) F2 Ad2 H2 Gr.refl m2 ((h2.mono g2.fle g2.pre).append x2)⟩
    · exact r1.elim
end
end MP

set_option maxRecDepth 100000
set_option maxHeartbeats 1000000
namespace MP
open PySem PySem.Spec PyProof.Rows L2
section
variable {X : Cx} {W : WX} {K : PySem.W.Frag} {E : XK} {DR : DRel} {N0 : Ent} {H0 F H : Hp} {Ad : List Addr} {M : List D} {env : EnvM} {σ : St} {Q : VK} {x : V}
/-! ### d == e, the keys tuples -/
def eqTL (kb : List (List Key × D)) : List (List Key × D) → Option Bool
  | [] => some true
  | (k, v) :: r => match valK kb k with
    | none => some false
    | some y => match eqS v y with
      | some true => eqTL kb r
      | some false => some false
      | none => none
def eqT (a b : List (List Key × D)) : Option Bool := if a.length = b.length then eqTL b a else some false
def oEqT (x y : D) (M : List D) : R := match view M x, view M y with
  | .dT a, .dT b => (match eqT a b with | some r => .ok (.bl r) M | none => .stuck)
  | _, _ => .stuck
def oNeT (x y : D) (M : List D) : R := match view M x, view M y with
  | .dT a, .dT b => (match eqT a b with | some r => .ok (.bl !r) M | none => .stuck)
  | _, _ => .stuck
theorem flat_scal {x y : V} (h : scal x y = true) (nb : ∀ b, x ≠ .byt b) : flatV x = true ∧ flatV y = true ∧ eqV x y = decide (x = y) := by
  cases x <;> cases y <;> simp_all [scal, flatV, eqV] <;> first | exact dec_bl.symm.trans (by simp) | (rw [Bool.eq_iff_iff]; simp)
theorem den_nb {v : V} {d d' : D} {b : Bool} (h : Den K F Ad v d) (e : eqS d d' = some b) : ∀ z, v ≠ .byt z := fun z w => by
  subst w
  cases h
theorem eqS_at {A : Around} {s : Shared} {x y : V} {u v : Value} {d d' : D} {b : Bool} (e : eqS d d' = some b) (hx : Den K F Ad x d) (hy : Den K F Ad y d') (rx : RelV x u) (ry : RelV y v) : SeqAt.EqAt A s u v b := by
  obtain ⟨s1, s2⟩ := eqS_ok (K := K) (F := F) (Ad := Ad) (H := F) e (.inl hx) (.inl hy)
  obtain ⟨f1, f2, f3⟩ := flat_scal s1 (den_nb hx e)
  rw [← s2, ← f3]
  exact eqAt_V rx ry f1 f2
theorem kt_get {kvs : List (List Key × V)} {xs : List (List Key × Addr × Value)} (r : KT H kvs xs) {k : List Key} {v : V} (h : valV kvs k = some v) : ∃ (j : Nat) (q : Addr × Value), xs[j]? = some (k, q) ∧ RelV v q.2 := by
  induction r with
  | nil => cases h
  | @cons p q ps qs hh t ih =>
    obtain ⟨h1, _, h2⟩ := hh
    by_cases e : p.1 = k
    · rw [valV_pos e] at h
      cases h
      exact ⟨0, q.2, by rw [← e, h1]; rfl, h2⟩
    · rw [valV_neg e] at h
      obtain ⟨j, u, z, z2⟩ := ih h
      exact ⟨j + 1, u, by simpa using z, z2⟩
theorem kt_none {kvs : List (List Key × V)} {xs : List (List Key × Addr × Value)} (r : KT H kvs xs) {k : List Key} (h : valV kvs k = none) : ∀ (j : Nat) (q : Addr × Value), xs[j]? ≠ some (k, q) := by
  induction r with
  | nil => intro j q z; cases z
  | @cons p q ps qs hh t ih =>
    obtain ⟨h1, _, h2⟩ := hh
    by_cases e : p.1 = k
    · rw [valV_pos e] at h; cases h
    · rw [valV_neg e] at h
      intro j u z
      cases j with
      | zero => simp at z; exact e (by rw [h1, z])
      | succ j => exact ih h j u (by simpa using z)
theorem hit_of {A : Around} {s : Shared} {vb : List (List Key × V)} {db : List (List Key × D)} {xb : List (List Key × Addr × Value)} (rb : KT H vb xb) (hb : DenT K F Ad vb db) :
    ∀ {va : List (List Key × V)} {da : List (List Key × D)} {xa : List (List Key × Addr × Value)} {r : Bool}, KT H va xa → DenT K F Ad va da → eqTL db da = some r → HitT A s xb xa r
  | [], [], _, r, ka, _, e => by cases ka; cases e; exact .nil
  | (k, v) :: va, (_, d) :: da, _, r, ka, .cons hd ht, e => by
    cases ka with
    | cons h t =>
    obtain ⟨h1, h2, h3⟩ := h
    dsimp only at h1 h2 h3
    unfold eqTL at e
    have z := DenT.val k hb
    cases q : valK db k with
    | none =>
      rw [q] at e
      cases e
      refine .miss ?_
      rw [← h1]
      exact kt_none rb (z.2 q)
    | some y =>
      rw [q] at e
      obtain ⟨w, w1, w2⟩ := z.1 y q
      obtain ⟨j, u, j1, j2⟩ := kt_get rb w1
      dsimp only at e
      rw [h1] at j1
      cases q2 : eqS d y with
      | none => rw [q2] at e; cases e
      | some b =>
        rw [q2] at e
        have at_ := eqS_at (A := A) (s := s) q2 hd w2 h3 j2
        cases b with
        | false => cases e; exact .no j1 at_
        | true => exact .yes j1 at_ (hit_of rb hb t ht e)
theorem op2_eqT_ {op : CmpOp} {g : Bool → Bool} (ho : op = .Eq ∨ op = .NotEq) (hg : ∀ r, g r = if op = .Eq then r else !r) (hu : X.A.units + 64 < cLine) :
    Op2 X (DE X.K) (compareOp op) (fun x y M => match view M x, view M y with
      | .dT a, .dT b => (match eqT a b with | some r => .ok (.bl (g r)) M | none => .stuck)
      | _, _ => .stuck) := by
  intro pins s σ H F Ad M E x y v u dx dy Q I m rx ry hx hy r
  have ax := DB.view m hx
  have ay := DB.view m hy
  dsimp only at r
  generalize view M dx = ux at r ax
  generalize view M dy = uy at r ay
  split at r
  · rename_i a b
    obtain ⟨pa, va, rfl, ha, da⟩ := ax.dT m
    obtain ⟨pb, vb, rfl, hb, db⟩ := ay.dT m
    cases rx
    cases ry
    obtain ⟨z1, y1, xa, ka, oa⟩ := dt_rd I.hok ha
    obtain ⟨z2, y2, xb, kb, ob⟩ := dt_rd I.hok hb
    split at r
    · rename_i q e
      have la : va.length = xa.length := Paired.length ka
      have lb : vb.length = xb.length := Paired.length kb
      have hits : (xa.length ≠ xb.length ∧ q = false) ∨ (xa.length = xb.length ∧ HitT X.A.in1 s xb xa q) := by
        unfold eqT at e
        split at e
        · rename_i hl
          right
          rw [← da.length, ← db.length] at hl
          exact ⟨by rw [← la, ← lb]; exact hl, hit_of kb db ka da e⟩
        · rename_i hl
          cases e
          left
          rw [← da.length, ← db.length] at hl
          exact ⟨by rw [← la, ← lb]; exact hl, rfl⟩
      have fin : wpAny (model X.prog X.w) X.A (richCompare op (.ref pa) (.ref pb)) (EP X pins σ Q) X.xe s :=
        rcT (by omega) y1 y2 oa ob hits _ _ ho ⟨.bl (g q), H, I, (by show Value.bool _ = Value.bool _; rw [hg]), RP.here r m .bl⟩
      rcases ho with rfl | rfl
      · exact fin
      · exact fin
    · exact r.elim
  · exact r.elim
theorem op2_eqT (hu : X.A.units + 64 < cLine) : Op2 X (DE X.K) (compareOp .Eq) oEqT := op2_eqT_ (g := fun r => r) (.inl rfl) (fun _ => rfl) hu
theorem op2_neT (hu : X.A.units + 64 < cLine) : Op2 X (DE X.K) (compareOp .NotEq) oNeT := op2_eqT_ (g := fun r => !r) (.inr rfl) (fun _ => rfl) hu
end
end MP

set_option maxRecDepth 100000
set_option maxHeartbeats 1000000
namespace MP
open PySem PySem.Spec PyProof.Rows L2
section
variable {X : Cx} {W : WX} {K : PySem.W.Frag} {E : XK} {DR : DRel} {N0 : Ent} {H0 F H : Hp} {Ad : List Addr} {M : List D} {env : EnvM} {σ : St} {Q : VK} {x y : V} {o k e a b c : Expr} {fo fk fd fa fb fc fv : EF} {apos cpos pos : Pos}
/-! ### d.get(k), d.get(k, x) -/
def dictD : D → Bool
  | .dK _ => true
  | .dT _ => true
  | _ => false
def getD (dx dy : D) : Option (Option D) := match dx with
  | .dT kvs => (match dy with | .tup ks => (keysD ks).map fun k => valK kvs k | _ => none)
  | .dK kvs => (keyD dy).map fun k => valK kvs k
  | _ => none
theorem isD_of (m : MemOk K F Ad M H) {dx : D} (ax : DV K F Ad H x dx) (h : dictD dx = true) : ∃ a, x = .ref a ∧ IsD H a := by
  cases dx with
  | dK kvs => obtain ⟨a, vs, e, r, _⟩ := ax.dK m; exact ⟨a, e, .inl ⟨vs, r⟩⟩
  | dT kvs => obtain ⟨a, vs, e, r, _⟩ := ax.dT m; exact ⟨a, e, .inr ⟨vs, r⟩⟩
  | _ => cases h
theorem dget_of (m : MemOk K F Ad M H) {dx dy : D} {od : Option D} (ax : DV K F Ad H x dx) (hy : Den K F Ad y dy) (e : getD dx dy = some od) :
    ∃ a ov, x = .ref a ∧ DGet H a y ov ∧ ((od = none ∧ ov = none) ∨ ∃ d v, od = some d ∧ ov = some v ∧ Den K F Ad v d) := by
  have fin : ∀ {od : Option D} {ov : Option V}, (∀ d, od = some d → ∃ v, ov = some v ∧ Den K F Ad v d) → (od = none → ov = none) → (od = none ∧ ov = none) ∨ ∃ d v, od = some d ∧ ov = some v ∧ Den K F Ad v d := fun {od ov} h1 h2 => by
    cases od with
    | none => exact .inl ⟨rfl, h2 rfl⟩
    | some d => obtain ⟨v, v1, v2⟩ := h1 d rfl; exact .inr ⟨d, v, rfl, v1, v2⟩
  cases dx with
  | dK kvs =>
    obtain ⟨a, vs, ex, r, dd⟩ := ax.dK m
    unfold getD at e
    cases q : keyD dy with
    | none => rw [q] at e; cases e
    | some k =>
      rw [q] at e
      cases e
      have z := DenK.val k dd
      exact ⟨a, valV vs k, ex, .inl ⟨vs, k, r, keyD_v hy q, rfl⟩, fin z.1 z.2⟩
  | dT kvs =>
    obtain ⟨a, vs, ex, r, dd⟩ := ax.dT m
    unfold getD at e
    cases dy with
    | tup ks =>
      dsimp only at e
      cases q : keysD ks with
      | none => rw [q] at e; cases e
      | some kk =>
        rw [q] at e
        cases e
        obtain ⟨c, c1, c2, _⟩ := tup_of m hy q
        have z := DenT.val kk dd
        exact ⟨a, valV vs kk, ex, .inr ⟨vs, kk, c, r, c1, c2, rfl⟩, fin z.1 z.2⟩
    | _ => cases e
  | _ => cases e
def getR (d : D) (r : Option (Option D)) (M : List D) : R := match r with
  | some (some v) => .ok v M
  | some none => .ok d M
  | none => .stuck
def guD (b : Bool) (r : R) : R := if b = true then r else .stuck
def eGet1 (fo fk : EF) : EF := fun env M => (fo env M).bind fun x M1 => guD (dictD (view M1 x)) ((fk env M1).bind fun y M2 => getR .non (getD (view M2 x) y) M2)
def eGet2 (fo fk fd : EF) : EF := fun env M => (fo env M).bind fun x M1 => guD (dictD (view M1 x)) ((fk env M1).bind fun y M2 => (fd env M2).bind fun z M3 => getR z (getD (view M3 x) y) M3)
theorem se_get1 (hu : X.A.units + 1 < cLine) (ho : SB X W o fo) (hk : SE X W k fk) (mm : M1 X o "get" apos k cpos) : SE X W (.Call (.Attribute o "get" apos) [k] [] cpos) (eGet1 fo fk) :=
  PE.imp (pe_dget1 hu ho hk mm) fun σ H Q ⟨N0, F, Ad, M, env, m, en, r⟩ => tG_seq DE.ok m en r fun d M1 v F1 Ad1 H1 g1 m1 en1 x1 r1 => by
    unfold guD at r1
    split at r1
    · rename_i hd
      obtain ⟨a, ea, ia⟩ := isD_of m1 (DB.view m1 x1) hd
      refine ⟨a, ea, ia, tG_seq DE.ok m1 en1 r1 fun d2 M2 v2 F2 Ad2 H2 g2 m2 en2 x2 r2 => ?_⟩
      unfold getR at r2
      split at r2
      · rename_i z q
        obtain ⟨a', ov, e1, e2, e3⟩ := dget_of m2 (DB.view m2 (DB.gr g2 x1 (H0' := H2))) x2 q
        rcases e3 with ⟨e3, _⟩ | ⟨d3, v3, e3, rfl, x3⟩
        · cases e3
        · cases e3
          rw [ea] at e1
          cases e1
          exact ⟨_, e2, RP.here r2 m2 x3⟩
      · rename_i q
        obtain ⟨a', ov, e1, e2, e3⟩ := dget_of m2 (DB.view m2 (DB.gr g2 x1 (H0' := H2))) x2 q
        rcases e3 with ⟨_, rfl⟩ | ⟨d3, v3, e3, _⟩
        · rw [ea] at e1
          cases e1
          exact ⟨_, e2, RP.here r2 m2 .non⟩
        · cases e3
      · exact r2.elim
    · exact r1.elim
theorem se_get2 (hu : X.A.units + 1 < cLine) (ho : SB X W o fo) (hk : SE X W k fk) (hd : SE X W e fd) (mm : M2 X o "get" apos k e cpos) : SE X W (.Call (.Attribute o "get" apos) [k, e] [] cpos) (eGet2 fo fk fd) :=
  PE.imp (pe_dget2 hu ho hk hd mm) fun σ H Q ⟨N0, F, Ad, M, env, m, en, r⟩ => tG_seq DE.ok m en r fun d M1 v F1 Ad1 H1 g1 m1 en1 x1 r1 => by
    unfold guD at r1
    split at r1
    · rename_i hd
      obtain ⟨a, ea, ia⟩ := isD_of m1 (DB.view m1 x1) hd
      refine ⟨a, ea, ia, tG_seq DE.ok m1 en1 r1 fun d2 M2 v2 F2 Ad2 H2 g2 m2 en2 x2 r2 => tG_seq DE.ok m2 en2 r2 fun d3 M3 v3 F3 Ad3 H3 g3 m3 en3 x3 r3 => ?_⟩
      have x13 : DB X.K H3 F3 Ad3 H3 v d := DB.gr (g2.trans g3) x1
      have x23 := x2.mono g3.fle g3.pre
      unfold getR at r3
      split at r3
      · rename_i z q
        obtain ⟨a', ov, e1, e2, e3⟩ := dget_of m3 (DB.view m3 x13) x23 q
        rcases e3 with ⟨e3, _⟩ | ⟨d4, v4, e3, rfl, x4⟩
        · cases e3
        · cases e3
          rw [ea] at e1
          cases e1
          exact ⟨_, e2, RP.here r3 m3 x4⟩
      · rename_i q
        obtain ⟨a', ov, e1, e2, e3⟩ := dget_of m3 (DB.view m3 x13) x23 q
        rcases e3 with ⟨_, rfl⟩ | ⟨d4, v4, e3, _⟩
        · rw [ea] at e1
          cases e1
          exact ⟨_, e2, RP.here r3 m3 x3⟩
        · cases e3
      · exact r3.elim
    · exact r1.elim
/-! ### {k: v} -/
def eDisp1 (fk fv : EF) : EF := fun env M => (fk env M).bind fun x M1 => (fv env M1).bind fun y M2 => match keyD x with
  | some k => .ok (.dK [(k, y)]) M2
  | none => .stuck
theorem so_disp1 (hk : SE X W k fk) (hv : SE X W e fv) : SO X W (.Dict [some k] [e] pos) (eDisp1 fk fv) :=
  PE.imp (pe_disp (pps_cons hk hv pps_nil) rfl rfl (by simp) (show 1 ≤ 15 by decide)) fun σ H Q ⟨N0, F, Ad, M, env, m, en, r⟩ p hp => by
    have g0 := gr_own (F := F) (Ad := Ad) (o := .dK []) hp
    have m0 := mem_own (o := .dK []) m hp
    have hD : ∀ {F1 Ad1 H1}, Gr F Ad (upd H p (.dK [])) F1 Ad1 H1 → H1 p = some (.dK []) ∧ F1 p = none ∧ p ∉ Ad1 := fun {F1 Ad1 H1} g =>
      ⟨g.keep p _ upd_same trivial (m.none hp) (m.notin hp), g.fnew p _ upd_same trivial (m.none hp) (m.notin hp), g.notin (by rw [upd_same]; simp) (m.notin hp)⟩
    refine ⟨N0, F, Ad, M, env, m0, en.gr g0, ?_⟩
    unfold eDisp1 at r
    cases qk : fk env M with
    | exc x M1 => rw [qk] at r; exact fun c dx F' Ad' H' g' m' z => r c dx F' Ad' H' (g0.trans g') m' z
    | stuck => rw [qk] at r; exact r
    | ok d M1 =>
      rw [qk, R.bind_ok] at r
      intro v F1 Ad1 H1 g1 m1 x1
      refine ⟨N0, F1, Ad1, M1, env, m1, (en.gr g0).gr g1, ?_⟩
      cases qv : fv env M1 with
      | exc x M2 => rw [qv] at r; exact fun c dx F' Ad' H' g' m' z => r c dx F' Ad' H' (g0.trans (g1.trans g')) m' z
      | stuck => rw [qv] at r; exact r
      | ok d2 M2 =>
        rw [qv, R.bind_ok] at r
        intro v2 F2 Ad2 H2 g2 m2 x2
        cases q : keyD d with
        | none => rw [q] at r; exact r.elim
        | some kk =>
          rw [q] at r
          obtain ⟨h1, h2, h3⟩ := hD (g1.trans g2)
          have z := keyD_v x1 q
          subst z
          obtain ⟨gw, mw⟩ := wr_fresh (o := .dK [(kk, v2)]) (g0.trans (g1.trans g2)) m2 hp h2 h3
          exact ⟨h1, [(kk, v2)], rfl, by simp, r _ F2 Ad2 _ gw mw ⟨p, rfl, h2, h3, hp, .dK upd_same (.cons x2 .nil)⟩⟩
/-! ### a, b = x, y with y own; a, b, c = x, y, z -/
def bParO (i j : Nat) (fa fb : EF) : SF := fun env M => (fa env M).bindS env fun d M1 => (fb env M1).bindS env fun d2 M2 => match (gN i d env).bind (oN j d2) with
  | some env1 => .next env1 M2
  | none => .stuck
theorem ss_parO {i j : Nat} {x y : Str} {px py pt : Pos} {kt k2 pt2} (hc : X.calm = true) (hN : X.N.Nodup) (hi : X.N[i]? = some x) (hj : X.N[j]? = some y) (hij : i ≠ j)
    (hx : X.env.scope.names.lookup x = some .local) (hy : X.env.scope.names.lookup y = some .local) (ha : SE X W a fa) (hb : SO X W b fb)
    (hw : swappedStores [.Tuple [.Name x px, .Name y py] kt pt] (.Tuple [a, b] k2 pt2) X.env = pure (some [x, y]) := by rfl)
    (hs : swapsWithSole [.Tuple [.Name x px, .Name y py] kt pt] (.Tuple [a, b] k2 pt2) pos.line X.env = pure false := by rfl)
    (s1 : starEach [a, b] X.env = (false, eval a X.env) :: starEach [b] X.env := by rfl) (s2 : starEach [b] X.env = (false, eval b X.env) :: starEach [] X.env := by rfl) :
    SS X W DR (.Assign [.Tuple [.Name x px, .Name y py] kt pt] (.Tuple [a, b] k2 pt2) pos) (bParO i j fa fb) :=
  PS.imp (ps_par hc hN hi hj hij hx hy (pa_cons ha (pa_cons hb pa_nil s2) s1) hw hs) fun E σ H ⟨N0, F, Ad, M, env, ge0, m, en, r⟩ =>
    tE_of ge0 m en r fun d M1 v F1 Ad1 H1 g1 ge m1 en1 x1 r1 => tE_of ge m1 en1 r1 fun d2 M2 v2 F2 Ad2 H2 g2 ge2 m2 en2 x2 r2 => by
      refine ⟨v, v2, rfl, ?_⟩
      cases h : (gN i d env).bind (oN j d2) with
      | none => rw [h] at r2; exact r2.elim
      | some env1 =>
        rw [h] at r2
        rw [Option.bind_eq_some_iff] at h
        obtain ⟨e1, h1, h2⟩ := h
        exact r2 _ F2 Ad2 H2 ge2 (FLe.refl _) pre_refl m2 ((en1.set x1 h1).setOwn ge g2 x2 h2)
def bPar3 (i j l : Nat) (fa fb fc : EF) : SF := fun env M => (fa env M).bindS env fun d M1 => (fb env M1).bindS env fun d2 M2 => (fc env M2).bindS env fun d3 M3 => match gAll [i, j, l] [d, d2, d3] env with
  | some env1 => .next env1 M3
  | none => .stuck
theorem ss_par3 {i j l : Nat} {x y z : Str} {px py pz pt : Pos} {kt k2 pt2} (hc : X.calm = true) (hN : X.N.Nodup) (hi : X.N[i]? = some x) (hj : X.N[j]? = some y) (hl : X.N[l]? = some z) (hij : i ≠ j) (hil : i ≠ l) (hjl : j ≠ l)
    (hx : X.env.scope.names.lookup x = some .local) (hy : X.env.scope.names.lookup y = some .local) (hz : X.env.scope.names.lookup z = some .local) (ha : SE X W a fa) (hb : SE X W b fb) (hcc : SE X W c fc)
    (hw : swappedStores [.Tuple [.Name x px, .Name y py, .Name z pz] kt pt] (.Tuple [a, b, c] k2 pt2) X.env = pure (some [x, y, z]) := by rfl)
    (hs : swapsWithSole [.Tuple [.Name x px, .Name y py, .Name z pz] kt pt] (.Tuple [a, b, c] k2 pt2) pos.line X.env = pure false := by rfl)
    (s1 : starEach [a, b, c] X.env = (false, eval a X.env) :: starEach [b, c] X.env := by rfl) (s2 : starEach [b, c] X.env = (false, eval b X.env) :: starEach [c] X.env := by rfl) (s3 : starEach [c] X.env = (false, eval c X.env) :: starEach [] X.env := by rfl) :
    SS X W DR (.Assign [.Tuple [.Name x px, .Name y py, .Name z pz] kt pt] (.Tuple [a, b, c] k2 pt2) pos) (bPar3 i j l fa fb fc) :=
  PS.imp (ps_par3 hc hN hi hj hl hij hil hjl hx hy hz (pa_cons ha (pa_cons hb (pa_cons hcc pa_nil s3) s2) s1) hw hs) fun E σ H ⟨N0, F, Ad, M, env, ge0, m, en, r⟩ =>
    tE_of ge0 m en r fun d M1 v F1 Ad1 H1 g1 ge m1 en1 x1 r1 => tE_of ge m1 en1 r1 fun d2 M2 v2 F2 Ad2 H2 g2 ge2 m2 en2 x2 r2 => tE_of ge2 m2 en2 r2 fun d3 M3 v3 F3 Ad3 H3 g3 ge3 m3 en3 x3 r3 => by
      refine ⟨v, v2, v3, rfl, ?_⟩
      cases h : gAll [i, j, l] [d, d2, d3] env with
      | none => rw [h] at r3; exact r3.elim
      | some env1 =>
        rw [h] at r3
        simp only [gAll, Option.bind_eq_some_iff] at h
        obtain ⟨e1, h1, e2, h2, e3, h3, h4⟩ := h
        cases h4
        have g23 := g2.trans g3
        exact r3 _ F3 Ad3 H3 ge3 (FLe.refl _) pre_refl m3 (((en3.set (x1.mono g23.fle g23.pre) h1).set (x2.mono g3.fle g3.pre) h2).set x3 h3)
end
end MP

set_option maxRecDepth 100000
set_option maxHeartbeats 1000000
namespace MP
open PySem PySem.Spec PyProof.Rows L2
/-! ### dict(d), the keys tuples of ints -/
def keyHI : Key → Int
  | .inl i => hashInt i
  | .inr _ => 0
def allI (ks : List Key) : Bool := ks.all fun k => match k with | .inl _ => true | .inr _ => false
def thash (ks : List Key) : Int := reduceHash (Builtin.Tuple.tupleHashOf (ks.map keyHI))
theorem thash_ok {P : Program} {w : World} {ks : List Key} (h : allI ks = true) : (kT P w).hash ks = thash ks := by
  show reduceHash (Builtin.Tuple.tupleHashOf (ks.map (keyH w))) = _
  have e : ks.map (keyH w) = ks.map keyHI := by
    refine List.map_congr_left fun k hk => ?_
    have z := List.all_eq_true.mp h k hk
    cases k with
    | inl i => rfl
    | inr s => cases z
  rw [e, thash]
/-- the keys' hashes are apart -/
def hashOk (ks : List (List Key)) : Bool := ks.all allI && decide (ks.map thash).Nodup
section
variable {P : Program} {w : World} {A : Around} {E : Value → Shared → Prop} {s : Shared}
theorem call_dictT0 {o : Addr} {more : List (List Key × Addr × Value)} {Q : Value → Shared → Prop} (hu : A.units + 2 < cLine) (hoS : (o == sysModules) = false) (ho : s.heap.DictOfH (kT P w) o more) (hsz : more.length ≤ sizeLine)
    (hap : (∀ x ∈ more, s.TypeIs (.ref x.2.1) "tuple") ∧ (more.map fun x => (kT P w).hash x.1).Nodup)
    (h : ∀ h', h'.DictOfH (kT P w) s.heap.objs.size more → Heap.SameBut s.heap.objs.size (s.heap.push { cls := .type "dict", data := .dict #[] }) h' → Q (.ref s.heap.objs.size) { s with heap := h' }) :
    wpAny (model P w) A (call (.type "dict") [.ref o]) Q E s := by
  refine callType_codes (Q₁ := fun obj t => obj = .ref s.heap.objs.size ∧ t = { s with heap := s.heap.push { cls := .type "dict", data := .dict #[] } }) F.kt_called_dict (F.kt_typeCall_dict_1 _) F.entry_dict_init (kt_code_dict_new _ ⟨rfl, rfl⟩) ?_
  rintro obj t ⟨rfl, rfl⟩
  have new : (s.heap.push { cls := .type "dict", data := .dict #[] }).DictOfH (kT P w) s.heap.objs.size [] := Heap.DictOfH.new s.heap
  have ne : s.heap.objs.size ≠ o := fun e => by
    obtain ⟨_, _, _, hg, _⟩ := ho
    exact absurd (Heap.lt_size hg) (by rw [e]; exact Nat.lt_irrefl _)
  have ho2 : (s.heap.push { cls := .type "dict", data := .dict #[] }).DictOfH (kT P w) o more := by
    obtain ⟨q, es, ep, e1, e2, e3, e4, e5, e6⟩ := ho
    exact ⟨q, es, ep, Heap.get?_push_of_some _ e1, e2, e3, e4, fun x hx => by
      obtain ⟨ot, it, n, t1, t2, t3, t4⟩ := e5 x hx
      exact ⟨ot, it, n, Heap.get?_push_of_some _ t1, t2, t3, t4⟩, e6⟩
  refine ⟨new.typeIs, F.args_dict_init_2 _ _, ?_⟩
  unfold Builtin.«dict.__init__»
  refine wpAny_bind ?_
  unfold Builtin.Dict.selfAndRest
  refine wpAny_bind (wpAny_notOrdered_dict new.typeIs ?_)
  show wpAny _ _ (pure (s.heap.objs.size, [Value.ref o])) _ _ _
  refine wpAny_pure ?_
  show wpAny _ _ (Builtin.Dict.updateFrom "dict.__init__" s.heap.objs.size (.ref o) [] .none) _ _ _
  refine updateFrom_dictH (A := A.in1) (kvs := []) (s := { s with heap := s.heap.push { cls := .type "dict", data := .dict #[] } }) .none (show A.units + 2 < cLine from hu) ne hoS new ho2 (.inr ⟨fun x hx => ?_, hap.2⟩) (by simpa using hsz) fun h1 d1 _ sb => ?_
  · obtain ⟨ob, o1, o2⟩ := hap.1 x hx
    exact ⟨ob, Heap.get?_push_of_some _ o1, o2⟩
  · rw [storedAllH_nil_of_nodup more ho.nodup] at d1
    exact ⟨rfl, h h1 d1 sb⟩
end
section
variable {X : Cx} {W : WX} {K : PySem.W.Frag} {DR : DRel} {F H : Hp} {Ad : List Addr} {M : List D} {σ : St} {x : V}
def bDictT (ds : List D) (M : List D) : R := match ds with
  | [d] => (match view M d with
    | .dT kvs => if hashOk (kvs.map (·.1)) = true then .ok (.dT kvs) M else .stuck
    | _ => .stuck)
  | _ => .stuck
theorem DenT.keys : ∀ {vs ds}, DenT K F Ad vs ds → vs.map (·.1) = ds.map (·.1)
  | _, _, .nil => rfl
  | _, _, .cons _ r => by rw [List.map_cons, List.map_cons, DenT.keys r]
theorem kt_keys {H : Hp} {kvs : List (List Key × V)} {xs : List (List Key × Addr × Value)} (r : KT H kvs xs) : kvs.map (·.1) = xs.map (·.1) := by
  induction r with
  | nil => rfl
  | cons h t ih => rw [List.map_cons, List.map_cons, ih, h.1]
theorem call_dictT (hu : X.A.units + 2 < cLine) : CallS X (DO X.K) (.type "dict") bDictT := by
  intro pins s σ H F Ad M E xs us ds Q I m rx hx r
  unfold bDictT at r
  split at r
  · rename_i d
    obtain ⟨v, rfl, hv⟩ := hx.one
    have ax := DB.view m hv
    split at r
    · rename_i kvs q
      rw [q] at ax
      obtain ⟨a, vs, rfl, ha, da⟩ := ax.dT m
      split at r
      · rename_i hh
        obtain ⟨u, rfl, ru⟩ := vals1 rx
        cases ru
        obtain ⟨z, hs, xs, kt, dd⟩ := dt_rd I.hok ha
        have lx : vs.length = xs.length := Paired.length kt
        have ek : kvs.map (·.1) = xs.map (·.1) := da.keys.symm.trans (kt_keys kt)
        rw [ek, hashOk, Bool.and_eq_true, List.all_eq_true, decide_eq_true_eq] at hh
        have hn : (xs.map fun x => (kT X.prog X.w).hash x.1).Nodup := by
          have e : (xs.map fun x => (kT X.prog X.w).hash x.1) = (xs.map (·.1)).map thash := by
            rw [List.map_map]
            exact List.map_congr_left fun x hx => thash_ok (hh.1 _ (List.mem_map_of_mem hx))
          rw [e]; exact hh.2
        have ty : ∀ x ∈ xs, s.TypeIs (.ref x.2.1) "tuple" := fun x hx => by
          obtain ⟨_, _, _, _, _, _, _, his, _⟩ := dd
          exact (his x hx).typeIs
        refine call_dictT0 hu hs dd (by rw [← lx]; exact z) ⟨ty, hn⟩ fun h1 d1 sb => ?_
        have hm : (s.heap.objs.size == sysModules) = false := beq_eq_false_iff_ne.mpr (Nat.ne_of_gt I.big)
        have nf : H s.heap.objs.size = none := I.hok.fresh (Nat.le_refl _)
        obtain ⟨q1, es, ep, e1, e2, e3, e4, e5, e6⟩ := d1
        refine ⟨.ref s.heap.objs.size, upd H s.heap.objs.size (.dT vs), I.laid (t' := s.toks) (fun b u e => (sb.2 b (Nat.ne_of_lt (Heap.lt_size e))).trans (Heap.get?_push_of_some _ e)) (Nat.le_refl _)
          (show ObjOk X.prog X.w _ _ _ (.dT vs) from ⟨z, hm, xs, kt.keeps fun c ys ec => by rw [upd_ne (ne_of_none ec nf)]; exact ec, q1, es, ep, e1, e2, e3, e4, e6⟩), rfl, RP.ownDT r m da nf⟩
      · exact r.elim
    · exact r.elim
  · exact r.elim
/-! ### two instances of a class with its own == -/
/-- two-place, over values that stay -/
def Op2E (X : Cx) (W : WX) (DR : DRel) (f : Value → Value → Sem Value) (g : D → D → List D → R) : Prop :=
  ∀ (pins : List (Addr × Obj)) (s : Shared) (σ : St) (H F : Hp) (Ad : List Addr) (M : List D) (x y : V) (v u : Value) (dx dy : D) (Q : VK), Inv X pins σ H s → MemOk X.K F Ad M H → RelV x v → RelV y u → Den X.K F Ad x dx → Den X.K F Ad y dy →
    RP X.K (fun c d H => W c d σ H) DR F Ad H Q (g dx dy M) → wpAny (model X.prog X.w) X.A (f v u) (EP X pins σ Q) X.xe s
theorem s_pcE {DR : DRel} (dr : DRok DR) {op : CmpOp} {g : D → D → List D → R} {a b : Expr} {fa fb : EF} (ho : Op2E X W DR (compareOp op) g) (ha : SE X W a fa) (hb : SE X W b fb) : PC X op a b (tG X.K W DR (e2 g fa fb)) := by
  refine ⟨fun pins s σ H Q I ⟨N0, F, Ad, M, env, m, en, r⟩ => ?_⟩
  refine binT (R := fun x y H2 => ∃ F2 Ad2 M2 dx dy, MemOk X.K F2 Ad2 M2 H2 ∧ Den X.K F2 Ad2 x dx ∧ Den X.K F2 Ad2 y dy ∧ RP X.K (fun c d H => W c d σ H) DR F2 Ad2 H2 Q (g dx dy M2)) ha hb I ?_ ?_
  · refine tG_seq dr m en r fun d M1 v F1 Ad1 H1 g1 m1 en1 x1 r1 => ?_
    refine tG_seq dr m1 en1 r1 fun d2 M2 v2 F2 Ad2 H2 g2 m2 en2 x2 r2 => ?_
    exact ⟨F2, Ad2, M2, d, d2, m2, x1.mono g2.fle g2.pre, x2, r2⟩
  · rintro v u s2 x y H2 I2 rx ry ⟨F2, Ad2, M2, dx, dy, m2, x1, x2, r2⟩
    exact ho pins s2 σ H2 F2 Ad2 M2 x y v u dx dy Q I2 m2 rx ry x1 x2 r2
theorem s_cmpE {DR : DRel} (dr : DRok DR) {op : CmpOp} {g : D → D → List D → R} {a b : Expr} {fa fb : EF} {pos : Pos} (ho : Op2E X W DR (compareOp op) g) (ha : SE X W a fa) (hb : SE X W b fb) (hm : behindInMarks op b = false) : PE X (.Compare a [op] [b] pos) (tG X.K W DR (e2 g fa fb)) :=
  pe_cmp (s_pcE dr ho ha hb) hm
def insOf (cn : Str) (d : D) : Bool := match d with
  | .ins c _ => decide (c = cn)
  | _ => false
def oEqI (cn : Str) (c : List D → List D → R) (x y : D) (M : List D) : R := if insOf cn (view M x) = true ∧ insOf cn (view M y) = true then (match apC c 2 [] [x, y] M with
  | .ok (.bl b) M' => .ok (.bl b) M'
  | .exc e M' => .exc e M'
  | _ => .stuck) else .stuck
theorem insOf_ok {cn : Str} {d : D} (h : insOf cn d = true) : ∃ fs, d = .ins cn fs := by
  cases d with
  | ins c fs => exact ⟨fs, by rw [of_decide_eq_true h]⟩
  | _ => cases h
theorem op2e_eqI {cn : Str} {g : Addr} {k : Nat} {c : List D → List D → R} (hm : Meth X.K (He.ga X.K cn) "__eq__" g) (Fk : FnX X (DE X.K) k 2 g [] c) (hr : MP.Room k X.A) (hx : Pas X W) : Op2E X W (DE X.K) (compareOp .Eq) (oEqI cn c) := by
  intro pins s σ H F Ad M x y v u dx dy Q I m rx ry x1 x2 r
  unfold oEqI at r
  split at r
  · rename_i hh
    obtain ⟨fs, e1⟩ := insOf_ok hh.1
    obtain ⟨gs, e2⟩ := insOf_ok hh.2
    have ax := DB.view (H0 := H) m (.inl x1)
    have ay := DB.view (H0 := H) m (.inl x2)
    rw [e1] at ax
    rw [e2] at ay
    obtain ⟨a, da, va, rfl, ha, _⟩ := ax.ins m
    obtain ⟨b, db, vb, rfl, hb, _⟩ := ay.ins m
    cases rx
    cases ry
    obtain ⟨mA, J, _⟩ := ins_get I.hok ha
    obtain ⟨mB, J', _⟩ := ins_get I.hok hb
    obtain ⟨od, J, _⟩ := J.look
    obtain ⟨od', J', _⟩ := J'.look
    obtain ⟨mm, hF⟩ := I.fr
    show wpAny (model X.prog X.w) X.A (richCompare .Eq (.ref a) (.ref b)) (EP X pins σ Q) X.xe s
    refine PySem.W.cmp_K (op := .Eq) (tb := .ref (He.ga X.K cn)) hr.units0 hF I.ok.mod.kin J J'.type (by simp [PySem.W.notFirst]) hm.at_ hm.fn ?_
    have rr : RP X.K (fun c d H => W c d σ H) (DE X.K) F Ad H (fun z H' => (∃ q, z = .bl q) ∧ Q z H') (apC c 2 [] [dx, dy] M) := by
      cases q : apC c 2 [] [dx, dy] M with
      | ok d M' =>
        rw [q] at r
        cases d with
        | bl bb => exact fun z F' Ad' H' g' m' xx => ⟨⟨bb, by cases xx; rfl⟩, r z F' Ad' H' g' m' xx⟩
        | _ => exact r.elim
      | exc e M' => rw [q] at r; exact r
      | stuck => rw [q] at r; exact r
    refine wpAny_mono (run_fnK Fk hr hx I m (.cons (show L2.RelV (.ref a) (.ref a) from rfl) (.cons (show L2.RelV (.ref b) (.ref b) from rfl) .nil)) (.cons x1 (.cons x2 .nil)) rr) (fun z s' ⟨zv, H', I', rz, ⟨q, eq⟩, hq⟩ => ?_) fun _ _ h => h
    subst eq
    cases rz
    exact ⟨.bl q, H', I', rfl, hq⟩
  · exact r.elim
theorem st_cmpE {op : CmpOp} {g : D → D → List D → R} {a b : Expr} {fa fb : EF} {pos : Pos} (ho : Op2E X W (DE X.K) (compareOp op) g) (ha : SE X W a fa) (hb : SE X W b fb) (hm : behindInMarks op b = false) : ST X W (.Compare a [op] [b] pos) (e2 g fa fb) :=
  PT.imp (pt_cmp (s_pcE DE.ok ho ha hb) hm) fun σ H Q ⟨N0, F, Ad, M, env, m, en, r⟩ => ⟨N0, F, Ad, M, env, m, en, by
    cases q : e2 g fa fb env M with
    | ok d M1 =>
      rw [q] at r
      intro v F' Ad' H' g m' x
      cases d with
      | bl b => cases x; exact ⟨b, rfl, r F' Ad' H' g m'⟩
      | _ => exact r.elim
    | exc x M1 => rw [q] at r; exact r
    | stuck => rw [q] at r; exact r⟩
theorem u2 {k : Nat} {A : Around} (r : MP.Room k A) : A.units + 2 < cLine := by have := r.units; omega
end
end MP

set_option maxRecDepth 100000
set_option maxHeartbeats 4000000
namespace MP
open PySem PySem.Spec PyProof.Rows L2
/-! ### methods called with keywords -/
def eMethQ (cn m : Str) (c : List D → List D → R) (n np nk : Nat) (ix : List Nat) (dd : List D) (o : EF) (l1 l2 : LF) : EF := fun env M => (o env M).bind fun x M1 => match view M1 x with
  | .ins c' fs => if c' = cn ∧ fs.lookup m = none then (l1 env M1).bind fun xs M2 => (l2 env M2).bind fun ys M3 => apQ c n np nk ix dd (x :: xs) ys M3 else .stuck
  | _ => .stuck
section

variable {X : Cx} {W : WX} {DR : DRel} {N0 : Ent} {F H : Hp} {Ad : List Addr} {M : List D} {env : EnvM} {σ : St} {Q : VK} {k n np : Nat} {ks : List Str} {ix : List Nat} {g : Addr} {dd : List D} {c : List D → List D → R} {es : List Expr} {e : Expr} {l l1 l2 : LF} {f : EF} {y m : Str} {p pos kpos : Pos} {kws : List Keyword} {nm : Option Str}
theorem s_methQ0 (dr : DRok DR) {cn m : Str} {pl : Sem Bool} {o : Expr} {fo : EF} {apos : Pos} (hc : Cls X.K (He.ga X.K cn)) (hmt : Meth X.K (He.ga X.K cn) m g) (Fk : FnQ X.prog X.w X.K X.mg X.base DR k n np ks ix g dd c) (hr : MP.Room k X.A) (hx : Pas X W) (ho : SE X W o fo) (hkw : SK X W kws l2)
    (hall : (backToKw pos (keywordEach kws X.env)).all (·.1.isSome) = true := by rfl) (hks : (backToKw pos (keywordEach kws X.env)).filterMap (·.1) = ks := by rfl)
    (hpl : ((backTo pos (starEach [] X.env)).any (·.1) || (backToKw pos (keywordEach kws X.env)).any (·.1.isNone)) = false := by rfl)
    (ht : eval (.Call (.Attribute o m apos) [] kws pos) X.env = (do
      let ov ← eval o X.env
      standAt apos.atName
      let (f, first) ← holding [ov] (getMethod ov m pl)
      callWith pos f first (backTo pos (starEach [] X.env)) (backToKw pos (keywordEach kws X.env))) := by rfl) :
    PE X (.Call (.Attribute o m apos) [] kws pos) (tG X.K W DR (eMethQ cn m c n np ks.length ix dd fo lNil l2)) := by
  refine ⟨fun pins s σ H Q I ⟨N0, F, Ad, M, env, mm, en, r⟩ => ?_⟩
  refine PySem.W.methodCall_KW (pl := pl) (thn (ho.run pins s σ H _ I (tG_seq dr mm en r (Q' := fun v H1 => ∃ F1 Ad1 M1 d, MemOk X.K F1 Ad1 M1 H1 ∧ Den X.K F1 Ad1 v d ∧ EnvOk X.K N0 F1 Ad1 H1 σ env ∧ RP X.K (fun c d H => W c d σ H) DR F1 Ad1 H1 Q (match view M1 d with
    | .ins c' fs => if c' = cn ∧ fs.lookup m = none then (lNil env M1).bind fun xs M2 => (l2 env M2).bind fun ys M3 => apQ c n np ks.length ix dd (d :: xs) ys M3 else .stuck
    | _ => .stuck)) fun d M1 v F1 Ad1 H1 g1 m1 en1 x1 r1 => ⟨F1, Ad1, M1, d, m1, x1, en1, r1⟩)) fun u s1 ⟨x, H1, I1, rx, F1, Ad1, M1, d, m1, x1, en1, r1⟩ => ?_) ht
  have ax := DB.view m1 (H0 := H1) (.inl x1 : DB X.K H1 F1 Ad1 H1 x d)
  split at r1
  · rename_i c' fs e
    split at r1
    · rename_i ec
      obtain ⟨ec, en⟩ := ec
      subst ec
      rw [e] at ax
      obtain ⟨q, dx, vs, rfl, h1, d1⟩ := ax.ins m1
      obtain rfl : u = Value.ref q := rx
      refine getmeth_ok I1 h1 hc hmt (d1.none en) ?_
      refine PySem.W.callWith_KW0 (first := [.ref q]) (h₀ := X.base) I1.ok.mod.kin hmt.kp hall (thn (hkw.run pos pins s1 σ H1 _ I1 (tL_seq (Q' := fun zs H2 => ∃ F2 Ad2 M2 es, MemOk X.K F2 Ad2 M2 H2 ∧ DenL X.K F2 Ad2 [.ref q] [d] ∧ DenL X.K F2 Ad2 zs es ∧ RP X.K (fun c d H => W c d σ H) DR F2 Ad2 H2 Q (apQ c n np ks.length ix dd [d] es M2)) (k := fun ys M2 => apQ c n np ks.length ix dd [d] ys M2) dr m1 en1 r1 fun es M2 zs F2 Ad2 H2 g2 m2 en2 x2 r2 => ⟨F2, Ad2, M2, es, m2, .cons (x1.mono g2.fle g2.pre) .nil, x2, r2⟩))
        fun ws s2 ⟨zs, H2, I2, rz, F2, Ad2, M2, es, m2, x1', x2, r2⟩ => ⟨I2.kIn, ?_⟩) hpl
      rw [hks]
      exact run_fnQ (us := [.ref q]) (vs := [.ref q]) Fk hr hx I2 m2 (.cons rfl .nil) x1' rz x2 r2
    · exact r1.elim
  · exact r1.elim
theorem s_methQ (dr : DRok DR) {cn m : Str} {pl : Sem Bool} {o : Expr} {fo : EF} {apos : Pos} (hc : Cls X.K (He.ga X.K cn)) (hmt : Meth X.K (He.ga X.K cn) m g) (Fk : FnQ X.prog X.w X.K X.mg X.base DR k n np ks ix g dd c) (hr : MP.Room k X.A) (hx : Pas X W) (ho : SE X W o fo) (ha : SL X W (e :: es) l1) (hkw : SK X W kws l2)
    (hall : (backToKw pos (keywordEach kws X.env)).all (·.1.isSome) = true := by rfl) (hks : (backToKw pos (keywordEach kws X.env)).filterMap (·.1) = ks := by rfl)
    (he : starEach (e :: es) X.env = (false, eval e X.env) :: starEach es X.env := by rfl)
    (hpl : ((backTo pos (starEach (e :: es) X.env)).any (·.1) || (backToKw pos (keywordEach kws X.env)).any (·.1.isNone)) = false := by rfl)
    (ht : eval (.Call (.Attribute o m apos) (e :: es) kws pos) X.env = (do
      let ov ← eval o X.env
      standAt apos.atName
      let (f, first) ← holding [ov] (getMethod ov m pl)
      callWith pos f first (backTo pos (starEach (e :: es) X.env)) (backToKw pos (keywordEach kws X.env))) := by rfl) :
    PE X (.Call (.Attribute o m apos) (e :: es) kws pos) (tG X.K W DR (eMethQ cn m c n np ks.length ix dd fo l1 l2)) := by
  refine ⟨fun pins s σ H Q I ⟨N0, F, Ad, M, env, mm, en, r⟩ => ?_⟩
  refine PySem.W.methodCall_KW (pl := pl) (thn (ho.run pins s σ H _ I (tG_seq dr mm en r (Q' := fun v H1 => ∃ F1 Ad1 M1 d, MemOk X.K F1 Ad1 M1 H1 ∧ Den X.K F1 Ad1 v d ∧ EnvOk X.K N0 F1 Ad1 H1 σ env ∧ RP X.K (fun c d H => W c d σ H) DR F1 Ad1 H1 Q (match view M1 d with
    | .ins c' fs => if c' = cn ∧ fs.lookup m = none then (l1 env M1).bind fun xs M2 => (l2 env M2).bind fun ys M3 => apQ c n np ks.length ix dd (d :: xs) ys M3 else .stuck
    | _ => .stuck)) fun d M1 v F1 Ad1 H1 g1 m1 en1 x1 r1 => ⟨F1, Ad1, M1, d, m1, x1, en1, r1⟩)) fun u s1 ⟨x, H1, I1, rx, F1, Ad1, M1, d, m1, x1, en1, r1⟩ => ?_) ht
  have ax := DB.view m1 (H0 := H1) (.inl x1 : DB X.K H1 F1 Ad1 H1 x d)
  split at r1
  · rename_i c' fs e
    split at r1
    · rename_i ec
      obtain ⟨ec, en⟩ := ec
      subst ec
      rw [e] at ax
      obtain ⟨q, dx, vs, rfl, h1, d1⟩ := ax.ins m1
      obtain rfl : u = Value.ref q := rx
      refine getmeth_ok I1 h1 hc hmt (d1.none en) ?_
      refine PySem.W.callWith_KW (first := [.ref q]) (h₀ := X.base) I1.ok.mod.kin hmt.kp hall (thn (ha.run pos pins s1 σ H1 _ I1 (tL_seq (Q' := fun vs H2 => ∃ F2 Ad2 M2 ds, MemOk X.K F2 Ad2 M2 H2 ∧ EnvOk X.K N0 F2 Ad2 H2 σ env ∧ DenL X.K F2 Ad2 (.ref q :: vs) (d :: ds) ∧ RP X.K (fun c d H => W c d σ H) DR F2 Ad2 H2 Q ((l2 env M2).bind fun ys M3 => apQ c n np ks.length ix dd (d :: ds) ys M3)) dr m1 en1 r1 fun ds M2 vs F2 Ad2 H2 g2 m2 en2 x2 r2 => ⟨F2, Ad2, M2, ds, m2, en2, .cons (x1.mono g2.fle g2.pre) x2, r2⟩))
        fun us s2 ⟨vs, H2, I2, rv, F2, Ad2, M2, ds, m2, en2, x2, r2⟩ => ?_) hpl he
      refine thn (hkw.run pos pins s2 σ H2 _ I2 (tL_seq (Q' := fun zs H3 => ∃ F3 Ad3 M3 es, MemOk X.K F3 Ad3 M3 H3 ∧ DenL X.K F3 Ad3 (.ref q :: vs) (d :: ds) ∧ DenL X.K F3 Ad3 zs es ∧ RP X.K (fun c d H => W c d σ H) DR F3 Ad3 H3 Q (apQ c n np ks.length ix dd (d :: ds) es M3)) dr m2 en2 r2 fun es M3 zs F3 Ad3 H3 g3 m3 en3 x3 r3 => ⟨F3, Ad3, M3, es, m3, x2.mono g3.fle g3.pre, x3, r3⟩))
        fun ws s3 ⟨zs, H3, I3, rz, F3, Ad3, M3, es, m3, x2', x3, r3⟩ => ⟨I3.kIn, ?_⟩
      rw [hks]
      exact run_fnQ (us := .ref q :: us) (vs := .ref q :: vs) Fk hr hx I3 m3 (.cons rfl rv) x2' rz x3 r3
    · exact r1.elim
  · exact r1.elim
@[simp] theorem eMethQ_eq {cn m : Str} {f : EF} : eMethQ cn m c n np nk ix dd f l1 l2 env M = (f env M).bind fun x M1 => methR cn m (view M1 x) ((l1 env M1).bind fun xs M2 => (l2 env M2).bind fun ys M3 => apQ c n np nk ix dd (x :: xs) ys M3) := by
  unfold eMethQ
  cases f env M with
  | ok x M1 => show (match view M1 x with | .ins c' fs => _ | _ => _) = methR cn m (view M1 x) _; unfold methR; split <;> simp_all
  | _ => rfl
end
end MP

set_option maxRecDepth 100000
set_option maxHeartbeats 1000000
namespace MP
open PySem PySem.Spec PyProof.Rows L2
/-! ### a op b op c op d -/
def eChain3 (g g' g'' : D → D → List D → R) (a b c d : EF) : EF := fun env M => (a env M).bind fun x M1 => (b env M1).bind fun y M2 => (g x y M2).bind fun r M3 => match r with
  | .bl true => (c env M3).bind fun z M4 => (g' y z M4).bind fun r M5 => match r with
    | .bl true => (d env M5).bind fun u M6 => g'' z u M6
    | .bl false => .ok (.bl false) M5
    | _ => .stuck
  | .bl false => .ok (.bl false) M3
  | _ => .stuck
section
variable {X : Cx} {W : WX} {K : PySem.W.Frag} {DR : DRel} {N0 : Ent} {F H : Hp} {Ad : List Addr} {M : List D} {env : EnvM} {σ : St} {Q : VK} {a b c d : Expr} {fa fb fc fd : EF} {pos : Pos}
@[simp] theorem eChain3_eq {G G' G''} : eChain3 G G' G'' fa fb fc fd env M = (fa env M).bind fun x M1 => (fb env M1).bind fun y M2 => (G x y M2).bind fun r M3 => iteR r ((fc env M3).bind fun z M4 => (G' y z M4).bind fun r M5 => iteR r ((fd env M5).bind fun u M6 => G'' z u M6) (.ok (.bl false) M5)) (.ok (.bl false) M3) := by
  unfold eChain3
  refine iteR_fun fun x M1 => iteR_fun fun y M2 => iteR_fun fun r M3 => ?_
  cases r with
  | bl k =>
    cases k with
    | false => rfl
    | true =>
      show R.bind _ _ = R.bind _ _
      refine iteR_fun fun z M4 => iteR_fun fun r M5 => ?_
      cases r with
      | bl k => cases k <;> rfl
      | _ => rfl
  | _ => rfl
def tChain3 (r r' r'' : R2) (ta tb tc td : TE) : TE := fun σ H Q => ta σ H fun x H1 => tb σ H1 fun y H2 => r x y H2 fun z H3 => ∃ k, z = .bl k ∧
  (if k = true then tc σ H3 fun x2 H4 => r' y x2 H4 fun z2 H5 => ∃ k2, z2 = .bl k2 ∧ (if k2 = true then td σ H5 fun x3 H6 => r'' x2 x3 H6 Q else Q (.bl false) H5) else Q (.bl false) H3)
theorem pe_ch3 {ta tb tc td : TE} {op op' op'' : CmpOp} {r r' r'' : R2} (ho : OpR X (compareOp op) r) (ho' : OpR X (compareOp op') r') (ho'' : OpR X (compareOp op'') r'') (ha : PE X a ta) (hb : PE X b tb) (hc : PE X c tc) (hd : PE X d td)
    (hm : lastMarks [op, op', op''] [b, c, d] = false) : PE X (.Compare a [op, op', op''] [b, c, d] pos) (tChain3 r r' r'' ta tb tc td) := by
  refine ⟨fun pins s σ H Q I h => Compare_chain (thn (ha.run pins s σ H _ I h) fun v s1 ⟨x, H1, I1, r1, q1⟩ => chain_link (thn (hb.run pins s1 σ H1 _ I1 q1) fun u s2 ⟨y, H2, I2, r2, q2⟩ =>
    thn (ho pins s2 σ H2 x y v u _ I2 r1 r2 q2) fun _ s3 ⟨_, H3, I3, r3, k, e, q3⟩ => ?_)) hm⟩
  subst e
  cases r3
  refine wpAny_truthy_bool ?_
  cases k with
  | false => exact ite_ff ⟨.bl false, H3, I3, rfl, q3⟩
  | true =>
    refine ite_tt (chain_link (thn (hc.run pins s3 σ H3 _ I3 q3) fun w4 s4 ⟨y4, H4, I4, r4, q4⟩ => thn (ho' pins s4 σ H4 y y4 u w4 _ I4 r2 r4 q4) fun _ s5 ⟨_, H5, I5, r5, k2, e5, q5⟩ => ?_))
    subst e5
    cases r5
    refine wpAny_truthy_bool ?_
    cases k2 with
    | false => exact ite_ff ⟨.bl false, H5, I5, rfl, q5⟩
    | true => exact ite_tt (chain_last (thn (hd.run pins s5 σ H5 _ I5 q5) fun w6 s6 ⟨y6, H6, I6, r6, q6⟩ => ho'' pins s6 σ H6 y4 y6 w4 w6 Q I6 r4 r6 q6))
theorem se_ch3 {op op' op'' : CmpOp} {g g' g'' : D → D → List D → R} (ho : Op2 X (DE X.K) (compareOp op) g) (ho' : Op2 X (DE X.K) (compareOp op') g') (ho'' : Op2 X (DE X.K) (compareOp op'') g'') (ha : SB X W a fa) (hb : SB X W b fb) (hc : SB X W c fc) (hd : SB X W d fd)
    (hm : lastMarks [op, op', op''] [b, c, d] = false := by rfl) : SE X W (.Compare a [op, op', op''] [b, c, d] pos) (eChain3 g g' g'' fa fb fc fd) :=
  ⟨fun pins s σ H Q I ⟨N0, F, Ad, M, env, m, en, r⟩ => (pe_ch3 (ho.opR (E := fun c d H => W c d σ H)) (ho'.opR (E := fun c d H => W c d σ H)) (ho''.opR (E := fun c d H => W c d σ H)) ha hb hc hd hm).run pins s σ H Q I (by
    refine tG_seq DE.ok m en r fun d1 M1 v F1 Ad1 H1 g1 m1 en1 x1 r1 => tG_seq DE.ok m1 en1 r1 fun d2 M2 v2 F2 Ad2 H2 g2 m2 en2 x2 r2 => ⟨F2, Ad2, M2, d1, d2, m2, DB.gr g2 x1, x2, ?_⟩
    cases q : g d1 d2 M2 with
    | exc x M3 => rw [q] at r2; exact r2
    | stuck => rw [q] at r2; exact r2
    | ok d3 M3 =>
      rw [q] at r2
      intro v3 F3 Ad3 H3 g3 m3 x3
      have r3 := RP.gr DE.ok r2 g3
      have en3 := en2.gr g3
      cases d3 with
      | bl k =>
        cases x3
        refine ⟨k, rfl, ?_⟩
        cases k with
        | false => exact RP.here r3 m3 .bl
        | true =>
          refine tG_seq DE.ok m3 en3 r3 fun d4 M4 v4 F4 Ad4 H4 g4 m4 en4 x4 r4 => ⟨F4, Ad4, M4, d2, d4, m4, DB.gr g4 (DB.gr g3 x2 (H0' := H3)), x4, ?_⟩
          cases q4 : g' d2 d4 M4 with
          | exc x M5 => rw [q4] at r4; exact r4
          | stuck => rw [q4] at r4; exact r4
          | ok d5 M5 =>
            rw [q4] at r4
            intro v5 F5 Ad5 H5 g5 m5 x5
            have r5 := RP.gr DE.ok r4 g5
            have en5 := en4.gr g5
            cases d5 with
            | bl k2 =>
              cases x5
              refine ⟨k2, rfl, ?_⟩
              cases k2 with
              | false => exact RP.here r5 m5 .bl
              | true => exact tG_seq DE.ok m5 en5 r5 fun d6 M6 v6 F6 Ad6 H6 g6 m6 en6 x6 r6 => ⟨F6, Ad6, M6, d4, d6, m6, DB.gr g6 (DB.gr g5 x4 (H0' := H5)), x6, r6⟩
            | _ => exact r5.elim
      | _ => exact r3.elim)⟩
end
end MP

set_option maxRecDepth 100000
set_option maxHeartbeats 1000000
namespace MP
open PySem PySem.Spec PyProof.Rows L2
section
variable {X : Cx} {W : WX} {K : PySem.W.Frag} {DR : DRel} {N0 : Ent} {F H : Hp} {Ad : List Addr} {M : List D} {env : EnvM} {σ : St} {Q : VK} {a b c d : Expr} {fa fb fc fd : EF} {pos : Pos}
/-! ### an own object goes out -/
def bRetO (i : Nat) : SF := fun env M => match env[i]? with
  | some (.own d) => .ret d M
  | _ => .stuck
theorem ss_retO {i : Nat} {x : Str} {p : Pos} (hN : X.N[i]? = some x) (hv : Vis X.env.scope x) (hd : (x == ("__debug__" : Str)) = false := by decide) (hcd : (x == ("__classdict__" : Str)) = false := by decide) :
    SS X W (DO X.K) (.Return (some (.Name x p)) pos) (bRetO i) := PS.imp (ps_ret (pe_var hN hv hd hcd)) fun D σ H ⟨N0, F, Ad, M, env, g, m, en, r⟩ => by
  unfold bRetO at r
  split at r
  · rename_i d e
    obtain ⟨a, h1, h2, h3, h4, h5⟩ := en.own i d e
    exact ⟨.ref a, h1, r (.ref a) F Ad H g m ⟨a, rfl, h2, h3, h4, h5⟩⟩
  · exact r.elim
@[simp] theorem bRetO_own {i : Nat} {d : D} (h : env[i]? = some (.own d)) : bRetO i env M = .ret d M := by unfold bRetO; rw [h]
/-! ### a, b = x, y, both own -/
def bParOO (i j : Nat) (fa fb : EF) : SF := fun env M => (fa env M).bindS env fun d M1 => (fb env M1).bindS env fun d2 M2 => match (oN i d env).bind (oN j d2) with
  | some env1 => .next env1 M2
  | none => .stuck
theorem ss_parOO {i j : Nat} {x y : Str} {px py pt : Pos} {kt k2 pt2} (hc : X.calm = true) (hN : X.N.Nodup) (hi : X.N[i]? = some x) (hj : X.N[j]? = some y) (hij : i ≠ j)
    (hx : X.env.scope.names.lookup x = some .local) (hy : X.env.scope.names.lookup y = some .local) (ha : SO X W a fa) (hb : SO X W b fb)
    (hw : swappedStores [.Tuple [.Name x px, .Name y py] kt pt] (.Tuple [a, b] k2 pt2) X.env = pure (some [x, y]) := by rfl)
    (hs : swapsWithSole [.Tuple [.Name x px, .Name y py] kt pt] (.Tuple [a, b] k2 pt2) pos.line X.env = pure false := by rfl)
    (s1 : starEach [a, b] X.env = (false, eval a X.env) :: starEach [b] X.env := by rfl) (s2 : starEach [b] X.env = (false, eval b X.env) :: starEach [] X.env := by rfl) :
    SS X W DR (.Assign [.Tuple [.Name x px, .Name y py] kt pt] (.Tuple [a, b] k2 pt2) pos) (bParOO i j fa fb) :=
  PS.imp (ps_par hc hN hi hj hij hx hy (pa_cons ha (pa_cons hb pa_nil s2) s1) hw hs) fun E σ H ⟨N0, F, Ad, M, env, ge0, m, en, r⟩ =>
    tE_of ge0 m en r fun d M1 v F1 Ad1 H1 g1 ge m1 en1 x1 r1 => tE_of ge m1 en1 r1 fun d2 M2 v2 F2 Ad2 H2 g2 ge2 m2 en2 x2 r2 => by
      refine ⟨v, v2, rfl, ?_⟩
      cases h : (oN i d env).bind (oN j d2) with
      | none => rw [h] at r2; exact r2.elim
      | some env1 =>
        rw [h] at r2
        obtain ⟨e1, h1, h2⟩ := Option.bind_eq_some_iff.mp h
        exact r2 _ F2 Ad2 H2 ge2 (FLe.refl _) pre_refl m2 ((en.setOwn ge0 g1 x1 h1).setOwn ge g2 x2 h2)
/-! ### x[k], y[l] = e -/
def bSub2 (i j : Nat) (fk fl fv : EF) : SF := fun env M => (fv env M).bindS env fun dv M1 => match dv with
  | .tup [d1, d2] => if has i env = true then (fk env M1).bindS env fun dk M2 => match store i (stSub dk d1) env M2 with
    | .next env2 M3 => if has j env2 = true then (fl env2 M3).bindS env2 fun dl M4 => store j (stSub dl d2) env2 M4 else .stuck
    | _ => .stuck
    else .stuck
  | _ => .stuck
end
end MP

set_option maxRecDepth 100000
set_option maxHeartbeats 1000000
namespace MP
open PySem PySem.Spec PyProof.Rows L2
/-! ### one dict merged into another, as a display does it -/
section
variable {P : Program} {w : World} {T : Type} [DecidableEq T] {kd : HeapKind P w T} {A : Around} {E : Value → Shared → Prop} {s : Shared} {p o q : Addr} {kvs more xs : List (T × Addr × Value)} {k : T} {v : Value}
theorem keys_stored (hn : (xs.map (·.1)).Nodup) : ((storedH xs k q v).map (·.1)).Nodup := by
  cases h : atKey xs k with
  | none =>
    rw [storedH_new h, List.map_append, List.nodup_append]
    refine ⟨hn, by simp, fun x hx y hy e => ?_⟩
    simp at hy
    subst hy; subst e
    obtain ⟨z, hz, ez⟩ := List.mem_map.mp hx
    have : (xs.find? fun u => decide (u.1 = x)).isSome = true := List.find?_isSome.mpr ⟨z, hz, by simp [ez]⟩
    unfold atKey at h
    rw [Option.map_eq_none_iff] at h
    rw [h] at this; cases this
  | some z => rw [storedH_old h, keys_map_putAt]; exact hn
theorem is_stored {hp : Heap} (hx : ∀ x ∈ xs, kd.is hp x.1 x.2.1) (hk : kd.is hp k q) : ∀ x ∈ storedH xs k q v, kd.is hp x.1 x.2.1 := fun x hm => by
  rcases mem_storedH_key hm with ⟨y, hy, e1, e2⟩ | ⟨e1, e2⟩
  · rw [e1, e2]; exact hx y hy
  · rw [e1, e2]; exact hk
theorem putH {Q : Unit → Shared → Prop} (hu : kd.room A) (hk : kd.is s.heap k q) (hm : s.heap.DictOfH kd p xs) (hz : xs.length ≤ sizeLine)
    (hq : ∀ h', h'.DictOfH kd p (storedH xs k q v) → Heap.SameBut p s.heap h' → Q () { s with heap := h' }) : wpAny (model P w) A (dictPut p (kd.hash k) (.ref q) v) Q E s := by
  obtain ⟨ob, es, ep, h1, h2, h3, h4, h5, h6⟩ := hm
  have nd := keys_stored (k := k) (q := q) (v := v) h6
  have iss := is_stored (v := v) h5 hk
  unfold dictPut
  refine wpAny_bind (wpAny_dictFind_heap hu hk h1 h3 h4 h5 h6 (fun no => ?_) fun j z hj => ?_)
  · have e := storedH_new (atKey_none_of_get no) q v
    refine wpAny_updateDictKeys (hz := by have := size_of_entries h4; omega) h1 h3 (hq _ ⟨_, _, ep + 1, Heap.get?_update_self _ h1 (Obj.isFreed_of_dict (Obj.data_mapDictKeys h3 _)), h2.mapDictKeys _, Obj.data_mapDictKeys h3 _, ?_, fun x hx => ?_, nd⟩ (Heap.SameBut.update ..))
    · rw [e, List.map_append, ← h4]; simp [entryOfKey]
    · exact kd.keeps (iss x hx) h1 h3 (Heap.SameBut.update ..)
  · have e := storedH_old (atKey_of_get h6 hj) q v
    refine wpAny_updateDict h1 h3 (hq _ ⟨_, _, ep, Heap.get?_update_self _ h1 (Obj.isFreed_of_dict (Obj.data_mapDict h3 _)), h2.mapDict _, Obj.data_mapDict h3 _, ?_, fun x hx => ?_, nd⟩ (Heap.SameBut.update ..))
    · have m := modify_map_putAt (entryOfKey kd) (fun en : DictEntry => { en with val := v }) k v (fun _ _ => rfl) h6 hj
      rw [e, ← m, ← h4]
      cases es; simp
    · exact kd.keeps (iss x hx) h1 h3 (Heap.SameBut.update ..)
/-- the keys of the source need no == -/
def Quiet (s : Shared) (kvs more : List (T × Addr × Value)) (kd : HeapKind P w T) : Prop := kvs ≠ [] ∨ ((∀ x ∈ more, s.TypeIs (.ref x.2.1) "tuple") ∧ (more.map fun x => kd.hash x.1).Nodup)
theorem mergeH {Q : Unit → Shared → Prop} (hu : kd.room A) (ne : p ≠ o) (ns : (o == sysModules) = false) (hp : s.heap.DictOfH kd p kvs) (ho : s.heap.DictOfH kd o more) (qu : Quiet s kvs more kd) (hz : kvs.length + more.length ≤ sizeLine)
    (hq : ∀ h', h'.DictOfH kd p (storedAllH kvs more) → h'.DictOfH kd o more → Heap.SameBut p s.heap h' → Q () { s with heap := h' }) : wpAny (model P w) A (mergeMapping p (.ref o) false) Q E s := by
  obtain ⟨od, esd, epd, d1, d2, d3, d4, d5, d6⟩ := id hp
  obtain ⟨oo, eso, epo, o1, o2, o3, o4, o5, o6⟩ := id ho
  have len : eso.size = more.length := size_of_entries o4
  unfold mergeMapping
  refine wpAny_bind (wpAny_isInstance ho.typeIs isSubtype_dict_dict ?_)
  dsimp only
  rw [if_pos rfl]
  refine wpAny_bind (wpAny_specialOf ho.typeIs F.slot_dict_iter.lookup (wpAny_bind (wpAny_pure ?_)))
  rw [beq_self_eq_true]
  dsimp only
  rw [ns, if_neg Bool.false_ne_true]
  refine wpAny_bind (wpAny_dictEntries d1 d3 ?_)
  have loop : ∀ u : Unit, wpAny (model P w) A (do
      let l ← dictEntries o
      let epoch ← dictEpoch o
      forIn (List.range l.size) PUnit.unit fun i (_ : PUnit) => (do
          let l ← dictEntries o
          match l[i]? with
            | some e => do
              holding [e.key, e.val] (if false = true then (do
                  let __do_lift ← dictFind p e.key e.hash
                  if __do_lift.isSome = true then do
                      rule "dict.merge.duplicate-key"
                      let __do_lift ← newExc (Value.type "KeyError") [e.key]
                      let _ ← (raiseNew __do_lift : Sem Unit)
                      dictPut p e.hash e.key e.val
                    else dictPut p e.hash e.key e.val)
                else dictPut p e.hash e.key e.val)
              let ep' ← dictEpoch o
              if (ep' != epoch) = true then do
                  (unsupported "dict.changed-during-merge" : Sem PUnit)
                  pure (ForInStep.yield PUnit.unit)
                else pure (ForInStep.yield PUnit.unit)
            | _ => do
              (unsupported "dict.changed-during-merge" : Sem PUnit)
              pure (ForInStep.yield PUnit.unit) : Sem (ForInStep PUnit))
      pure ()) Q E s := fun _ => by
    refine wpAny_bind (wpAny_dictEntries o1 o3 ?_)
    refine wpAny_bind (wpAny_dictEpoch o1 o3 ?_)
    refine wpAny_bind ?_
    refine wpAny_forIn_list _ (fun rest _ t => ∃ h' i, t = { s with heap := h' } ∧ i + rest.length = more.length ∧ rest = List.range' i rest.length ∧ h'.DictOfH kd p (storedAllH kvs (more.take i)) ∧ Heap.SameBut p s.heap h') _ ?_ ?_ _ _
      ⟨s.heap, 0, rfl, by simp [len], by rw [List.length_range, List.range_eq_range'], by simpa [storedAllH] using hp, Heap.SameBut.refl _ _⟩
    · rintro x rest b t ⟨h', i, rfl, hl, hr, hd', sb⟩
      have oo' : h'.get? o = some oo := (sb.2 o (Ne.symm ne)).trans o1
      have ho' := ho.notHere hp ne sb
      rw [List.length_cons] at hl hr
      rw [List.range'_succ] at hr
      obtain ⟨rfl, hr⟩ := List.cons.inj hr
      have hx : x < more.length := by omega
      obtain ⟨⟨k, a, v⟩, hm⟩ : ∃ z, more[x]? = some z := ⟨_, List.getElem?_eq_getElem hx⟩
      refine wpAny_bind (wpAny_dictEntries oo' o3 ?_)
      rw [entry_at o4 x, hm]
      show wpAny _ _ (holding [.ref a, v] (if false = true then _ else dictPut p (kd.hash k) (.ref a) v) >>= _) _ _ _
      rw [if_neg Bool.false_ne_true]
      have hk : kd.is h' k a := by
        obtain ⟨_, _, _, _, _, _, _, z, _⟩ := ho'
        exact z (k, a, v) (List.mem_of_getElem? hm)
      have hz' : (storedAllH kvs (more.take x)).length ≤ sizeLine := by
        have := storedAllH_length (more.take x) kvs
        have : (more.take x).length ≤ more.length := by rw [List.length_take]; omega
        omega
      refine wpAny_bind (wpAny_holding (putH (s := { s with heap := h' }) hu hk hd' hz' fun h2 hd2 sb2 => ?_))
      have oo2 : h2.get? o = some oo := (sb2.2 o (Ne.symm ne)).trans oo'
      refine wpAny_bind (wpAny_dictEpoch oo2 o3 ?_)
      rw [if_neg (by simp)]
      refine wpAny_pure ⟨h2, x + 1, rfl, by omega, hr, ?_, sb.trans sb2⟩
      rw [storedAllH_take_succ kvs more x _ hm]
      exact hd2
    · rintro b t ⟨h', i, rfl, hl, hr, hd', sb⟩
      rw [List.length_nil] at hl
      refine wpAny_pure (hq h' ?_ (ho.notHere hp ne sb) sb)
      rw [show i = more.length by omega, List.take_length] at hd'
      exact hd'
  split
  · rename_i em
    have ke : kvs = [] := by
      have := size_of_entries d4
      rw [Array.isEmpty_iff.mp em] at this
      exact List.length_eq_zero_iff.mp this.symm
    have qa := keysApart o4 (qu.resolve_left fun z => z ke).1 (qu.resolve_left fun z => z ke).2
    refine wpAny_bind (wpAny_dictEntries o1 o3 ?_)
    refine wpAny_bind ?_
    rw [← Array.forIn_toList]
    refine wpAny_forIn_list _ (fun rest _ t => t = s ∧ ∀ e ∈ rest, KeyApart s eso e) _ ?_ ?_ _ _ ⟨rfl, qa⟩
    · rintro e rest b t ⟨rfl, al⟩
      have al2 := fun x hx => al x (List.mem_cons_of_mem _ hx)
      rcases al e List.mem_cons_self with hv | ⟨a, hk, hT, h1⟩
      · cases q : e.key with
        | ref a => rw [q] at hv; cases hv
        | _ => exact wpAny_pure ⟨rfl, al2⟩
      · rw [hk]
        refine wpAny_bind (wpAny_specialOf hT F.slot_tuple_eq.lookup ?_)
        refine wpAny_ite_split (fun _ => ?_) fun _ => wpAny_pure ⟨rfl, al2⟩
        rw [if_neg (by omega)]
        exact wpAny_pure ⟨rfl, al2⟩
    · rintro b t ⟨rfl, _⟩
      exact loop ()
  · exact loop ()
end
end MP

set_option maxRecDepth 100000
set_option maxHeartbeats 1000000
namespace MP
open PySem PySem.Spec PyProof.Rows L2
/-! ### {**d, k: v} -/
section
variable {P : Program} {w : World} {A : Around} {E : Value → Shared → Prop} {s : Shared}
theorem sub1 {kk vv : Sem Value} {Q : Addr → Shared → Prop}
    (h : wpAny (model P w) A kk (fun a s1 => wpAny (model P w) A vv (fun b s2 => wpAny (model P w) A (dictSet s.heap.objs.size a b) (fun _ s3 => Q s.heap.objs.size s3) E s2) E s1) E { s with heap := s.heap.push { cls := .type "dict", data := .dict #[] } }) :
    wpAny (model P w) A (subDict [(kk, vv)]) Q E s := by
  unfold subDict
  refine wpAny_bind (wpAny_alloc ?_)
  refine wpAny_bind (wpAny_holding ?_)
  have le : [(kk, vv)].length ≤ 15 := by simp
  rw [if_pos le]
  refine wpAny_bind ?_
  show wpAny _ _ (do let kv ← kk; let v ← holding [kv] vv; let r ← holding [kv, v] (pure []); pure ((kv, v) :: r)) _ _ _
  refine wpAny_bind (wpAny_mono h (fun a s1 h1 => wpAny_bind (wpAny_holding (wpAny_mono h1 (fun b s2 h2 => wpAny_bind (wpAny_holding (wpAny_pure (wpAny_pure (wpAny_holding ?_))))) fun _ _ z => z))) fun _ _ z => z)
  simp only [List.forIn_cons, List.forIn_nil, bind_assoc, pure_bind]
  exact wpAny_bind (wpAny_mono h2 (fun _ s3 h3 => wpAny_pure (wpAny_pure h3)) fun _ _ z => z)
theorem disp2 {m kk vv : Sem Value} {Q : Value → Shared → Prop}
    (h : wpAny (model P w) A m (fun x s1 => wpAny (model P w) A (mergeMapping s.heap.objs.size x false) (fun _ s2 => wpAny (model P w) A (subDict [(kk, vv)]) (fun q s3 => wpAny (model P w) A (mergeMapping s.heap.objs.size (.ref q) false) (fun _ s4 => Q (.ref s.heap.objs.size) s4) (fun _ _ => False) s3) E s2) (fun _ _ => False) s1) E
      { s with heap := s.heap.push { cls := .type "dict", data := .dict #[] } }) : wpAny (model P w) A (dictDisplay [(none, m), (some kk, vv)]) Q E s := by
  unfold dictDisplay
  simp only [List.forIn_cons, List.forIn_nil, List.isEmpty_nil, if_true, pure_bind, List.nil_append, List.length_cons, List.length_nil, bind_assoc]
  refine wpAny_bind (wpAny_alloc ?_)
  refine wpAny_bind (wpAny_holding (wpAny_mono h (fun x s1 h1 => ?_) fun _ _ z => z))
  refine wpAny_bind (wpAny_onRaise (wpAny_tryCatch (wpAny_onRaise (wpAny_holding (wpAny_mono h1 (fun _ s2 h2 => ?_) fun _ _ z => z.elim)))))
  rw [if_neg (by decide)]
  simp only [pure_bind, List.isEmpty_cons, Bool.false_eq_true, if_false]
  refine wpAny_bind (wpAny_bind (wpAny_holding (wpAny_mono h2 (fun q s3 h3 => ?_) fun _ _ z => z)))
  exact wpAny_bind (wpAny_onRaise (wpAny_holding (wpAny_mono h3 (fun _ s4 h4 => wpAny_pure (wpAny_pure h4)) fun _ _ z => z.elim)))
end
/-- the reading: p the new dict, o the dict that is spread, q the dict of the one pair -/
def tDisp2 (tm tk tv : TE) : TE := fun σ H Q => ∀ p, H p = none → tm σ (upd H p (.dT [])) fun x H1 => ∃ o vs, x = .ref o ∧ o ≠ p ∧ H1 p = some (.dT []) ∧ Rd H1 o (.dT vs) ∧ hashOk (vs.map (·.1)) = true ∧ vs.length < sizeLine ∧
  ∀ q, upd H1 p (.dT vs) q = none → tk σ (upd (upd H1 p (.dT vs)) q (.dT [])) fun y H3 => tv σ H3 fun z H4 => ∃ c ks, y = .ref c ∧ H4 c = some (.tup (ks.map kV)) ∧ H4 q = some (.dT []) ∧ H4 p = some (.dT vs) ∧ allI ks = true ∧
    Q (.ref p) (upd (upd H4 q (.dT [(ks, z)])) p (.dT (putK vs ks z)))
theorem nd_hash {P : Program} {w : World} {H : Hp} {vs : List (List Key × V)} {xs : List (List Key × Addr × Value)} (kt : KT H vs xs) (hh : hashOk (vs.map (·.1)) = true) : (xs.map fun x => (tupleKind (mixKind P w)).hash x.1).Nodup := by
  rw [hashOk, Bool.and_eq_true, List.all_eq_true, decide_eq_true_eq, kt_keys kt] at hh
  have e : (xs.map fun x => (tupleKind (mixKind P w)).hash x.1) = (xs.map (·.1)).map thash := by
    rw [List.map_map]
    exact List.map_congr_left fun x hx => thash_ok (hh.1 _ (List.mem_map_of_mem hx))
  rw [e]; exact hh.2
theorem pe_disp2 {X : Cx} {em k e : Expr} {tm tk tv : TE} {pos : Pos} (hu : X.A.units + 1 < cLine) (hm : PE X em tm) (hk : PE X k tk) (hv : PE X e tv) : PE X (.Dict [none, some k] [em, e] pos) (tDisp2 tm tk tv) := by
  refine ⟨fun pins s σ H Q I h => ?_⟩
  have hr : (tupleKind (mixKind X.prog X.w)).room X.A := Nat.lt_of_succ_lt hu
  rw [arm_eval_Dict]
  refine wpAny_bind (wpAny_standAt ?_)
  show wpAny _ _ (dictDisplay [(none, do let x ← eval em X.env; standAt pos; pure x), (some (eval k X.env), do let x ← eval e X.env; standAt pos; pure x)]) _ _ _
  refine disp2 ?_
  generalize ep : s.heap.objs.size = p
  have np : H p = none := I.hok.fresh (Nat.le_of_eq ep)
  have I0 : Inv X pins σ (upd H p (.dT [])) { s with heap := s.heap.push { cls := .type "dict", data := .dict #[] } } := by
    subst ep
    exact I.laid (t' := s.toks) (fun _ _ q => Heap.get?_push_of_some _ q) (Nat.le_refl _) (dt_empty s.heap I.big)
  refine wpAny_bind (thn (hm.run pins _ σ _ _ I0 (h p np)) fun u s1 ⟨x, H1, I1, rx, o, vs, ex, ne, h1, ho, hh, hl, h2⟩ => wpAny_bind (wpAny_standAt (wpAny_pure ?_)))
  subst ex
  obtain rfl : u = Value.ref o := rx
  obtain ⟨zp, sp, xp, ktp, dp⟩ := dt_of I1.hok h1
  cases ktp
  obtain ⟨zo, so, xs, kt, dd⟩ := dt_rd I1.hok ho
  have lx : vs.length = xs.length := Paired.length kt
  have ty : ∀ x ∈ xs, s1.TypeIs (.ref x.2.1) "tuple" := fun x hx => by
    obtain ⟨_, _, _, _, _, _, _, his, _⟩ := dd
    exact (his x hx).typeIs
  refine mergeH hr (Ne.symm ne) so dp dd (.inr ⟨ty, nd_hash kt hh⟩) (by rw [List.length_nil, Nat.zero_add, ← lx]; exact zo) fun h' d1 d2 sb => ?_
  rw [storedAllH_nil_of_nodup xs dd.nodup] at d1
  have I2 : Inv X pins σ (upd H1 p (.dT vs)) { s1 with heap := h' } := by
    obtain ⟨q1, es, epo, e1, e2, e3, e4, _, e6⟩ := d1
    exact d_write (t' := s1.toks) I1 (by rw [h1]; exact trivial) sb ⟨q1, e1⟩ ⟨zo, sp, xs, kt.keeps fun c ys ec => by rw [upd_ne (ne_of ec h1 fun w => nomatch w)]; exact ec, q1, es, epo, e1, e2, e3, e4, e6⟩
  refine sub1 ?_
  generalize eq : ({ s1 with heap := h' } : Shared).heap.objs.size = q
  have nq : upd H1 p (.dT vs) q = none := I2.hok.fresh (Nat.le_of_eq eq)
  have I3 : Inv X pins σ (upd (upd H1 p (.dT vs)) q (.dT [])) { s1 with heap := h'.push { cls := .type "dict", data := .dict #[] } } := by
    subst eq
    exact I2.laid (t' := s1.toks) (fun _ _ z => Heap.get?_push_of_some _ z) (Nat.le_refl _) (dt_empty h' I2.big)
  refine thn (hk.run pins _ σ _ _ I3 (h2 q nq)) fun a s3 ⟨y, H3, J3, ry, q3⟩ => ?_
  refine wpAny_bind (thn (hv.run pins _ σ _ _ J3 q3) fun b s4 ⟨z, H4, I4, rz, c, ks, ey, hc, hq, hp, ai, fin⟩ => wpAny_bind (wpAny_standAt (wpAny_pure ?_)))
  subst ey
  obtain rfl : a = Value.ref c := ry
  refine dictSetT hu I4 hq (by decide) hc rz fun s5 I5 => ?_
  have qp : q ≠ p := fun w => by rw [w, upd_same] at nq; cases nq
  have e5 : (upd H4 q (.dT [(ks, z)])) p = some (.dT vs) := by rw [upd_ne (Ne.symm qp)]; exact hp
  have I5' : Inv X pins σ (upd H4 q (.dT [(ks, z)])) s5 := I5
  obtain ⟨z5, sp5, x5, kt5, d5⟩ := dt_of I5'.hok e5
  obtain ⟨z6, sq6, x6, kt6, d6⟩ := dt_of I5'.hok (upd_same (H := H4) (a := q) (o := .dT [(ks, z)]))
  have l5 : vs.length = x5.length := Paired.length kt5
  have ty6 : ∀ x ∈ x6, s5.TypeIs (.ref x.2.1) "tuple" := fun x hx => by
    obtain ⟨_, _, _, _, _, _, _, his, _⟩ := d6
    exact (his x hx).typeIs
  cases kt6 with
  | @cons _ b6 _ ys hq6 t6 =>
    cases t6
    obtain ⟨k6, c6, r6⟩ := b6
    obtain ⟨w1, w2, w3⟩ := hq6
    dsimp only at w1 w2 w3
    subst w1
    refine mergeH hr (Ne.symm qp) sq6 d5 d6 (.inr ⟨ty6, by simp⟩) (by rw [← l5]; exact hl) fun h7 d7 d8 sb7 => ?_
    obtain ⟨ob, es, epo, g1, g2, g3, g4, _, g6⟩ := d7
    have lp := length_putK vs ks z
    have I7 : Inv X pins σ (upd (upd H4 q (.dT [(ks, z)])) p (.dT (putK vs ks z))) { s5 with heap := h7 } := d_write (t' := s5.toks) I5' (by rw [e5]; exact trivial) sb7 ⟨ob, g1⟩ ⟨by omega, sp5, _, (kt5.put ks w2 w3).keeps fun c ys ec => by rw [upd_ne (ne_of ec e5 fun w => nomatch w)]; exact ec, ob, es, epo, g1, g2, g3, g4, g6⟩
    exact ⟨.ref p, _, I7, rfl, fin⟩
end MP

set_option maxRecDepth 100000
set_option maxHeartbeats 1000000
namespace MP
open PySem PySem.Spec PyProof.Rows L2
section
variable {X : Cx} {W : WX} {K : PySem.W.Frag} {DR : DRel} {N0 : Ent} {F H : Hp} {Ad : List Addr} {M : List D} {env : EnvM} {σ : St} {Q : VK} {em k e : Expr} {fm fk fv : EF} {pos : Pos}
/-- {**d, k: v}: d's keys tuples of ints -/
def eDisp2 (fm fk fv : EF) : EF := fun env M => (fm env M).bind fun x M1 => match x with
  | .dT kvs => if hashOk (kvs.map (·.1)) = true ∧ kvs.length < sizeLine then (fk env M1).bind fun y M2 => (fv env M2).bind fun z M3 => match y with
    | .tup kd => (match keysD kd with
      | some ks => if allI ks = true then .ok (.dT (insK kvs ks z)) M3 else .stuck
      | none => .stuck)
    | _ => .stuck
    else .stuck
  | _ => .stuck
theorem so_disp2 (hu : X.A.units + 1 < cLine) (hm : SE X W em fm) (hk : SE X W k fk) (hv : SE X W e fv) : SO X W (.Dict [none, some k] [em, e] pos) (eDisp2 fm fk fv) :=
  PE.imp (pe_disp2 hu hm hk hv) fun σ H Q ⟨N0, F, Ad, M, env, m, en, r⟩ p hp => by
    have g0 := gr_own (F := F) (Ad := Ad) (o := .dT []) hp
    have m0 := mem_own (o := .dT []) m hp
    have hD : ∀ {o : HO} {F1 Ad1 H0 H1}, RootO o → H0 p = some o → F p = none → Gr F Ad H0 F1 Ad1 H1 → H1 p = some o ∧ F1 p = none ∧ p ∉ Ad1 := fun ro h0 nf g =>
      ⟨g.keep p _ h0 ro nf (m.notin hp), g.fnew p _ h0 ro nf (m.notin hp), g.notin (by rw [h0]; simp) (m.notin hp)⟩
    refine ⟨N0, F, Ad, M, env, m0, en.gr g0, ?_⟩
    unfold eDisp2 at r
    cases qm : fm env M with
    | exc x M1 => rw [qm] at r; exact fun c dx F' Ad' H' g' m' z => r c dx F' Ad' H' (g0.trans g') m' z
    | stuck => rw [qm] at r; exact r
    | ok d M1 =>
      rw [qm, R.bind_ok] at r
      intro v F1 Ad1 H1 g1 m1 x1
      obtain ⟨h1, f1, a1⟩ := hD (o := .dT []) trivial upd_same (m.none hp) g1
      cases d with
      | dT kvs =>
        dsimp only at r
        split at r
        · rename_i hh
          obtain ⟨o, vs, rfl, ho, dd⟩ := DV.dT m1 (DB.view m1 (H0 := H1) (.inl x1))
          have ne : o ≠ p := fun w => by
            cases x1 with
            | dT hn _ => rw [w, f1] at hn; cases hn
          have kk := dd.keys
          have ll : vs.length = kvs.length := by have := congrArg List.length kk; simpa using this
          refine ⟨o, vs, rfl, ne, h1, ho, by rw [kk]; exact hh.1, by rw [ll]; exact hh.2, fun q nq => ?_⟩
          have np0 : p ≠ q := fun w => by rw [← w, upd_same] at nq; cases nq
          obtain ⟨g2, m2⟩ := wr_fresh (o := .dT vs) (g0.trans g1) m1 hp f1 a1
          have g3 := gr_own (F := F1) (Ad := Ad1) (o := .dT []) nq
          have m3 := mem_own (o := .dT []) m2 nq
          have e3 := (en.gr (g2.trans g3))
          have hp3 : (upd (upd H1 p (.dT vs)) q (.dT [])) p = some (.dT vs) := by rw [upd_ne np0, upd_same]
          refine ⟨N0, F1, Ad1, M1, env, m3, e3, ?_⟩
          cases qk : fk env M1 with
          | exc x M2 => rw [qk] at r; exact fun c dx F' Ad' H' g' m' z => r c dx F' Ad' H' ((g2.trans g3).trans g') m' z
          | stuck => rw [qk] at r; exact r
          | ok dk M2 =>
            rw [qk, R.bind_ok] at r
            intro v4 F4 Ad4 H4 g4 m4 x4
            refine ⟨N0, F4, Ad4, M2, env, m4, e3.gr g4, ?_⟩
            cases qv : fv env M2 with
            | exc x M3 => rw [qv] at r; exact fun c dx F' Ad' H' g' m' z => r c dx F' Ad' H' (((g2.trans g3).trans g4).trans g') m' z
            | stuck => rw [qv] at r; exact r
            | ok dv M3 =>
              rw [qv, R.bind_ok] at r
              intro v5 F5 Ad5 H5 g5 m5 x5
              cases dk with
              | tup kd =>
                dsimp only at r
                split at r
                · rename_i ks hks
                  split at r
                  · rename_i hai
                    obtain ⟨c, rfl, hc, _⟩ := tup_of m4 x4 hks
                    obtain ⟨c', ec, hc', _⟩ := tup_of m5 (x4.mono g5.fle g5.pre) hks
                    cases ec
                    have nF1q : F1 q = none := m2.none nq
                    have nA1q : q ∉ Ad1 := m2.notin nq
                    have gg := g4.trans g5
                    have hq5 := gg.keep q _ upd_same trivial nF1q nA1q
                    have fq5 := gg.fnew q _ upd_same trivial nF1q nA1q
                    have aq5 := gg.notin (by rw [upd_same]; simp) nA1q
                    have hp5 := gg.keep p _ hp3 trivial f1 a1
                    have fp5 := gg.fnew p _ hp3 trivial f1 a1
                    have ap5 := gg.notin (by rw [hp3]; simp) a1
                    refine ⟨c, ks, rfl, hc', hq5, hp5, hai, ?_⟩
                    have nHq : H q = none := by
                      cases w : H q with
                      | none => rfl
                      | some _ => exact absurd nq (g2.alive q (by rw [w]; simp))
                    have gA := ((g2.trans g3).trans gg)
                    obtain ⟨g6, m6⟩ := wr_fresh (o := .dT [(ks, v5)]) gA m5 nHq fq5 aq5
                    obtain ⟨g7, m7⟩ := wr_fresh (o := .dT (putK vs ks v5)) g6 m6 hp fp5 ap5
                    exact r _ F5 Ad5 _ g7 m7 ⟨p, rfl, fp5, ap5, hp, .dT upd_same ((dd.mono gg.fle gg.pre).put x5)⟩
                  · exact r.elim
                · exact r.elim
              | _ => exact r.elim
        · exact r.elim
      | _ => exact r.elim
theorem disp2_eq {kvs : List (List Key × D)} {kd : List D} {ks : List Key} {M1 M2 M3 : List D} {z : D} (hm : fm env M = .ok (.dT kvs) M1) (hh : hashOk (kvs.map (·.1)) = true) (hl : kvs.length < sizeLine) (hk : fk env M1 = .ok (.tup kd) M2) (hv : fv env M2 = .ok z M3) (ek : keysD kd = some ks) (ha : allI ks = true) :
    eDisp2 fm fk fv env M = .ok (.dT (insK kvs ks z)) M3 := by
  unfold eDisp2
  rw [hm, R.bind_ok]
  dsimp only
  rw [if_pos ⟨hh, hl⟩, hk, R.bind_ok, hv, R.bind_ok]
  dsimp only
  rw [ek]
  dsimp only
  rw [if_pos ha]
end
end MP

set_option maxRecDepth 100000
set_option maxHeartbeats 1000000
namespace MP
open PySem PySem.Spec PyProof.Rows L2
section
variable {X : Cx} {W : WX} {K : PySem.W.Frag} {DR : DRel} {N0 : Ent} {F H : Hp} {Ad : List Addr} {M : List D} {env : EnvM} {σ : St} {Q : VK} {pos : Pos} {i j : Nat}
/-! ### x[k], y[l] = e, x own -/
def bSubT (i j : Nat) (fk fl fv : EF) : SF := fun env M => (fv env M).bindS env fun dv M1 => match dv, env[i]? with
  | .tup [d1, d2], some (.own d) => (fk env M1).bindS env fun dk M2 => (match stSub dk d1 d with
      | some d' => if has j (env.set i (.own d')) = true then (fl (env.set i (.own d')) M2).bindS (env.set i (.own d')) fun dl M3 => store j (stSub dl d2) (env.set i (.own d')) M3 else .stuck
      | none => .stuck)
  | _, _ => .stuck
theorem ss_subT {x y : Str} {k l value : Expr} {p1 p2 p3 p4 pt : Pos} {kt : Nat} {fk fl fv : EF} (hu : X.A.units + 1 < cLine) (hc : X.calm = true) (hN : X.N[i]? = some x) (hv : Vis X.env.scope x) (hN2 : X.N[j]? = some y) (hv2 : Vis X.env.scope y) (hk : SE X W k fk) (hl : SE X W l fl) (he : SE X W value fv)
    (ha : ∀ v, assign (.Subscript (.Name x p2) k p1) X.env v = (do
      let ov ← holding [v] (eval (.Name x p2) X.env)
      let iv ← holding [v, ov] (eval k X.env)
      standAt p1
      holding [v, ov, iv] (setItem ov iv v)
      release [v, ov, iv] []) := by intro _; rfl)
    (ha2 : ∀ v, assign (.Subscript (.Name y p4) l p3) X.env v = (do
      let ov ← holding [v] (eval (.Name y p4) X.env)
      let iv ← holding [v, ov] (eval l X.env)
      standAt p3
      holding [v, ov, iv] (setItem ov iv v)
      release [v, ov, iv] []) := by intro _; rfl)
    (hs : swapsWithSole [.Tuple [.Subscript (.Name x p2) k p1, .Subscript (.Name y p4) l p3] kt pt] value pos.line X.env = pure false := by rfl) (hw : swappedStores [.Tuple [.Subscript (.Name x p2) k p1, .Subscript (.Name y p4) l p3] kt pt] value X.env = pure none := by rfl)
    (h1 : (assignEach [.Tuple [.Subscript (.Name x p2) k p1, .Subscript (.Name y p4) l p3] kt pt] X.env).map (·.2) = [assign (.Tuple [.Subscript (.Name x p2) k p1, .Subscript (.Name y p4) l p3] kt pt) X.env] := by rfl)
    (s1 : (assignEach [.Subscript (.Name x p2) k p1, .Subscript (.Name y p4) l p3] X.env).map (·.2) = assign (.Subscript (.Name x p2) k p1) X.env :: (assignEach [.Subscript (.Name y p4) l p3] X.env).map (·.2) := by rfl)
    (s2 : (assignEach [.Subscript (.Name y p4) l p3] X.env).map (·.2) = assign (.Subscript (.Name y p4) l p3) X.env :: (assignEach [] X.env).map (·.2) := by rfl)
    (hn : (assignEach [.Subscript (.Name x p2) k p1, .Subscript (.Name y p4) l p3] X.env).length = 2 := by rfl) (hst : (assignEach [.Subscript (.Name x p2) k p1, .Subscript (.Name y p4) l p3] X.env).findIdx? (·.1) = none := by rfl)
    (hd : (x == ("__debug__" : Str)) = false := by decide) (hcd : (x == ("__classdict__" : Str)) = false := by decide) (hd2 : (y == ("__debug__" : Str)) = false := by decide) (hcd2 : (y == ("__classdict__" : Str)) = false := by decide) :
    SS X W DR (.Assign [.Tuple [.Subscript (.Name x p2) k p1, .Subscript (.Name y p4) l p3] kt pt] value pos) (bSubT i j fk fl fv) :=
  PS.imp (ps_asg he (pg_tup (n := 2) hc (pgs_cons (pg_sub (pe_var hN hv hd hcd) hk (set_all hu) ha) (pgs_cons (pg_sub (pe_var hN2 hv2 hd2 hcd2) hl (set_all hu) ha2) pgs_nil s2) s1) hn hst) hs hw h1) fun D σ H ⟨N0, F, Ad, M, env, ge0, m, en, r⟩ =>
    tE_of ge0 m en r fun dv M1 v F1 Ad1 H1 g1 ge m1 en1 x1 r1 => by
      split at r1
      · rename_i d1 d2 d hi
        cases x1 with
        | @tup a vs _ hf dl =>
          cases dl with
          | @cons v1 _ vs1 _ xd1 dl =>
            cases dl with
            | @cons v2 _ vs2 _ xd2 dl =>
              cases dl
              obtain ⟨p, hp1, hp2, hp3, hp4, hp5⟩ := en1.own i d hi
              refine ⟨a, [v1, v2], rfl, SqT.of (m1.sub _ _ hf), rfl, v1, [v2], rfl, .ref p, hp1, tE_of ge m1 en1 r1 fun dk M2 vk F2 Ad2 H2 g2 ge2 m2 en2 x2 r2 => ?_⟩
              split at r2
              · rename_i d' hu
                obtain ⟨q, hq1, hq2, hq3, hq4, hq5⟩ := en2.own i d hi
                rw [hp1] at hq1
                cases hq1
                refine set_of m2 (xd1.mono g2.fle g2.pre) x2 hq5 hu fun o' ro => ?_
                obtain ⟨ge3, m3, en3⟩ := wr_own ge2 m2 en2 hi hp1 ro
                refine ⟨v2, [], rfl, ?_⟩
                split at r2
                · rename_i hh
                  obtain ⟨v0, hv0⟩ := en3.has hh
                  refine ⟨v0, hv0, tE_of ge3 m3 en3 r2 fun dl M4 vl F4 Ad4 H4 g4 ge4 m4 en4 x4 r4 => ?_⟩
                  obtain ⟨b, e, e', c1, c2, c3, c4, c5⟩ := store_ok ge4 m4 en4 r4
                  rw [hv0] at c1; cases c1
                  exact set_of m4 (((xd2.mono g2.fle g2.pre)).mono g4.fle g4.pre) x4 c4 c3 fun o2 ro2 => ⟨rfl, c5 o2 ro2⟩
                · exact r2.elim
              · exact r2.elim
      · exact r1.elim
end
end MP

set_option maxRecDepth 100000
set_option maxHeartbeats 1000000
namespace MP
open PySem PySem.Spec PyProof.Rows L2
section
variable {X : Cx} {W : WX} {K : PySem.W.Frag} {DR : DRel} {N0 : Ent} {F H : Hp} {Ad : List Addr} {M : List D} {env : EnvM} {σ : St} {Q : VK} {pos : Pos}
/-! ### sum, in -/
def bSum (ds : List D) (M : List D) : R := match ds with
  | [d] => (match view M d with
    | .lst xs => (match intsOf xs with
      | some ns => .ok (.int ns.sum) M
      | none => .stuck)
    | _ => .stuck)
  | _ => .stuck
theorem call_sumS (hc : X.calm = true) : CallS X (DE X.K) (.builtin "sum") bSum := by
  intro pins s σ H F Ad M E xs us ds Q I m rv x r
  unfold bSum at r
  split at r
  · rename_i d
    obtain ⟨v, rfl, hx⟩ := x.one
    have ax := DB.view m hx
    split at r
    · rename_i ys e; rw [e] at ax; obtain ⟨a, vs, rfl, h1, h2⟩ := ax.lst m
      split at r
      · rename_i t e2
        exact cr_sum hc pins s σ H _ us Q I rv ⟨a, t, rfl, by rw [← h2.ints e2]; exact SqL.of h1, RP.here r m .int⟩
      · exact r.elim
    · exact r.elim
  · exact r.elim
theorem bSum_ints {ns : List Int} {M : List D} : bSum [.lst (ns.map D.int)] M = .ok (.int ns.sum) M := by
  show (match intsOf (ns.map D.int) with | some ns => R.ok (D.int ns.sum) M | none => .stuck) = _
  rw [ints_map]
/-- flat values -/
def flD : D → Option V
  | .non => some .non | .bl b => some (.bl b) | .int i => some (.int i) | .str s => some (.str s) | _ => none
def flL : List D → Option (List V)
  | [] => some []
  | d :: ds => match flD d, flL ds with | some v, some vs => some (v :: vs) | _, _ => none
theorem flD_v {d : D} {v u : V} (h : Den K F Ad u d) (e : flD d = some v) : u = v ∧ flatV v = true := by
  cases d with
  | non => cases e; cases h; exact ⟨rfl, rfl⟩
  | bl b => cases e; cases h; exact ⟨rfl, rfl⟩
  | int i => cases e; cases h; exact ⟨rfl, rfl⟩
  | str s => cases e; cases h; exact ⟨rfl, rfl⟩
  | _ => cases e
theorem flL_v : ∀ {ds : List D} {us vs : List V}, DenL K F Ad us ds → flL ds = some vs → us = vs ∧ vs.all flatV = true
  | [], _, _, .nil, e => by cases e; exact ⟨rfl, rfl⟩
  | d :: ds, _, _, .cons h1 h2, e => by
    unfold flL at e
    split at e
    · rename_i v vs e1 e2
      cases e
      obtain ⟨rfl, f1⟩ := flD_v h1 e1
      obtain ⟨rfl, f2⟩ := flL_v h2 e2
      exact ⟨rfl, by rw [List.all_cons, f1, f2]; rfl⟩
    · cases e
def seqD : D → Option (List D)
  | .lst xs => some xs | .tup xs => some xs | .ktp xs => some xs | _ => none
def oInF (neg : Bool) (x y : D) (M : List D) : R := match flD (view M x), seqD (view M y) with
  | some v, some ys => (match flL ys with
    | some vs => .ok (.bl (if neg then !inV v vs else inV v vs)) M
    | none => .stuck)
  | _, _ => .stuck
theorem inF_ {neg : Bool} {f : Value → Value → Sem Value} (h : OpR X f (rIn X.K neg)) : Op2 X (DE X.K) f (oInF neg) := by
  intro pins s σ H F Ad M E x y v u dx dy Q I m rx ry hx hy r
  have ax := DB.view m hx
  have ay := DB.view m hy
  unfold oInF at r
  revert r ax ay
  generalize view M dx = ex
  generalize view M dy = ey
  intro r ax ay
  split at r
  · rename_i vx ys e1 e2
    split at r
    · rename_i vs e3
      have fx : x = vx ∧ flatV vx = true := by
        cases ex with
        | non => cases e1; exact ⟨ax.non, rfl⟩
        | bl b => cases e1; exact ⟨ax.bl, rfl⟩
        | int i => cases e1; exact ⟨ax.int, rfl⟩
        | str z => cases e1; exact ⟨ax.str, rfl⟩
        | _ => cases e1
      obtain ⟨rfl, fx⟩ := fx
      cases ey with
      | lst xs =>
        cases e2
        obtain ⟨a, ws, rfl, h1, h2⟩ := ay.lst m
        obtain ⟨rfl, fs⟩ := flL_v h2 e3
        exact h pins s σ H _ _ v u Q I rx ry ⟨a, ws, rfl, .inl (SqL.of h1), fx, fs, RP.here r m .bl⟩
      | tup xs =>
        cases e2
        obtain ⟨a, ws, rfl, h1, h2⟩ := ay.tup m
        obtain ⟨rfl, fs⟩ := flL_v h2 e3
        exact h pins s σ H _ _ v u Q I rx ry ⟨a, ws, rfl, .inr (SqT.of h1), fx, fs, RP.here r m .bl⟩
      | ktp xs =>
        cases e2
        obtain ⟨a, ws, rfl, h1, h2⟩ := ay.ktp m
        obtain ⟨rfl, fs⟩ := flL_v h2 e3
        exact h pins s σ H _ _ v u Q I rx ry ⟨a, ws, rfl, .inr h1, fx, fs, RP.here r m .bl⟩
      | _ => cases e2
    · exact r.elim
  · exact r.elim
theorem op2_inF : Op2 X (DE X.K) (compareOp .In) (oInF false) := inF_ op_in_seq
theorem op2_ninF : Op2 X (DE X.K) (compareOp .NotIn) (oInF true) := inF_ op_notIn_seq
end
end MP

set_option maxRecDepth 100000
set_option maxHeartbeats 1000000
namespace MP
open PySem PySem.Spec PyProof.Rows L2
/-! ### repr of any plain value -/
def bReprA (ds : List D) (M : List D) : R := match ds with
  | [d] => (match view M d with
    | .non => .ok (.str "None") M
    | .bl b => .ok (.str (if b then "True" else "False")) M
    | .int i => if i.natAbs.log2 < 1920 then .ok (.str (toString i)) M else .stuck
    | .str x => if (reprText x).length ≤ sizeLine then .ok (.str (reprText x)) M else .stuck
    | _ => bRepr [d] M)
  | _ => .stuck
theorem call_reprA {X : Cx} {k : Nat} (hr : MP.Room k X.A) : CallS X (DE X.K) (.builtin "repr") bReprA := by
  intro pins s σ H F Ad M E xs us ds Q I m rv x r
  unfold bReprA at r
  split at r
  · rename_i d
    obtain ⟨v, rfl, hx⟩ := x.one
    have ax := DB.view m hx
    obtain ⟨u, rfl, ru⟩ := vals1 rv
    split at r
    · rename_i e; rw [e] at ax
      rw [ax.non] at ru
      obtain rfl : u = Value.none := ru
      exact PySem.P.repr_of_none ⟨.str _, H, I.tok _, ⟨_, rfl⟩, RP.here r m .str⟩
    · rename_i b e; rw [e] at ax
      rw [ax.bl] at ru
      obtain rfl : u = Value.bool b := ru
      exact PySem.P.repr_of_bool ⟨.str _, H, I.tok _, ⟨_, rfl⟩, RP.here r m .str⟩
    · rename_i i e; rw [e] at ax
      rw [ax.int] at ru
      obtain ⟨t, rfl⟩ := (show ∃ t, u = Value.int i t from ru)
      split at r
      · rename_i hl
        exact PySem.P.repr_of_int hl ⟨.str _, H, I.tok _, ⟨_, rfl⟩, RP.here r m .str⟩
      · exact r.elim
    · rename_i z e; rw [e] at ax
      rw [ax.str] at ru
      obtain ⟨t, rfl⟩ := (show ∃ t, u = Value.str z t from ru)
      split at r
      · rename_i hl
        exact PySem.P.repr_of_str ⟨.str _, H, I.tok _, ⟨_, rfl⟩, RP.here r m .str⟩ hl
      · exact r.elim
    · exact call_reprS hr pins s σ H F Ad M E [v] [u] [d] Q I m rv x r
  · exact r.elim
theorem bReprA_ref {d : D} {M : List D} {s : Str} (h : isRef d = true) (e : bRepr [d] M = .ok (.str s) M) : bReprA [d] M = .ok (.str s) M := by
  cases d <;> first | (cases h; done) | exact e
theorem bReprA_non {M : List D} : bReprA [.non] M = .ok (.str "None") M := rfl
theorem bReprA_int {i : Int} {M : List D} (h : i.natAbs.log2 < 1920) : bReprA [.int i] M = .ok (.str (toString i)) M := by
  show (if i.natAbs.log2 < 1920 then R.ok (D.str (toString i)) M else .stuck) = _
  rw [if_pos h]
end MP

set_option maxRecDepth 100000
set_option maxHeartbeats 1000000
namespace MP
open PySem PySem.Spec PyProof.Rows L2
section
variable {X : Cx} {K : PySem.W.Frag} {F H : Hp} {Ad : List Addr} {M : List D}
/-! ### tuples of ints, >= -/
def geI (ns ms : List Int) : Bool := Ob.lexAt (fun j => decide (ns.getD j 0 = ms.getD j 0)) (fun j => decide (ms.getD j 0 ≤ ns.getD j 0)) (decide (ns.length ≥ ms.length)) 0 (min ns.length ms.length)
def rGeI (K : PySem.W.Frag) : R2 := fun x y H Q => ∃ (a b : Addr) (ns ms : List Int), x = .ref a ∧ y = .ref b ∧ SqT K H a (ns.map V.int) ∧ SqT K H b (ms.map V.int) ∧ Q (.bl (geI ns ms)) H
theorem op_geI (hu : X.A.units < cLine) : OpR X (compareOp .GtE) (rGeI X.K) := by
  rintro pins s σ H x y v u Q I rx ry ⟨a, b, ns, ms, rfl, rfl, ha, hb, q⟩
  cases rx
  cases ry
  obtain ⟨xs, r1, p1, _⟩ := I.tuple ha
  obtain ⟨ys, r2, p2, _⟩ := I.tuple hb
  have i1 : IntsAre xs ns := Vals.ints r1
  have i2 : IntsAre ys ms := Vals.ints r2
  have z1 : xs.toArray.size = ns.length := List.size_toArray.trans i1.length
  have z2 : ys.toArray.size = ms.length := List.size_toArray.trans i2.length
  have g1 : ∀ j (h : j < xs.toArray.size), ∃ t, xs.toArray[j] = .int (ns.getD j 0) t := fun j h => PyProof.Rows.IntsAre.int_at i1 _ _ (by simp at h; simp [h])
  have g2 : ∀ j (h : j < ys.toArray.size), ∃ t, ys.toArray[j] = .int (ms.getD j 0) t := fun j h => PyProof.Rows.IntsAre.int_at i2 _ _ (by simp at h; simp [h])
  have R := Ob.RcOp.tuples_ge (A := X.A) (s := s) (e := fun j => decide (ns.getD j 0 = ms.getD j 0)) (r := fun j => decide (ms.getD j 0 ≤ ns.getD j 0)) p1 p2 hu
    (fun j h1 h2 => by
      obtain ⟨t, e⟩ := g1 j h1
      obtain ⟨t', e'⟩ := g2 j h2
      rw [e, e', show decide (ns.getD j 0 = ms.getD j 0) = (ns.getD j 0 == ms.getD j 0) from by rw [Bool.eq_iff_iff]; simp]
      exact SeqAt.EqAt.int_int _ _ _ _)
    (fun j h1 h2 _ => by
      obtain ⟨t, e⟩ := g1 j h1
      obtain ⟨t', e'⟩ := g2 j h2
      rw [e, e']
      exact Ob.RcOp.ge_int _ _ _ _)
  rw [z1, z2] at R
  exact R X.prog X.w X.xe (EP X pins σ Q) ⟨.bl _, H, I, rfl, q⟩
def oGeT (x y : D) (M : List D) : R := match view M x, view M y with
  | .tup a, .tup b => (match intsOf a, intsOf b with
    | some ns, some ms => .ok (.bl (geI ns ms)) M
    | _, _ => .stuck)
  | _, _ => .stuck
theorem op2_geT (hu : X.A.units < cLine) : Op2 X (DE X.K) (compareOp .GtE) oGeT := by
  intro pins s σ H F Ad M E x y v u dx dy Q I m rx ry hx hy r
  have ax := DB.view m hx
  have ay := DB.view m hy
  unfold oGeT at r
  revert r ax ay
  generalize view M dx = ex
  generalize view M dy = ey
  intro r ax ay
  split at r
  · split at r
    · rename_i ns ms e1 e2
      obtain ⟨p, vs, rfl, h1, d1⟩ := ax.tup m
      obtain ⟨q, ws, rfl, h2, d2⟩ := ay.tup m
      rw [d1.ints e1] at h1
      rw [d2.ints e2] at h2
      exact op_geI hu pins s σ H _ _ v u Q I rx ry ⟨p, q, ns, ms, rfl, rfl, SqT.of h1, SqT.of h2, RP.here r m .bl⟩
    · exact r.elim
  · exact r.elim
theorem geI_2 {a b c d : Int} : geI [a, b] [c, d] = decide (c < a ∨ (a = c ∧ d ≤ b)) := by
  show (if decide (a = c) = true then (if decide (b = d) = true then true else decide (d ≤ b)) else decide (c ≤ a)) = _
  by_cases e : a = c
  · subst e
    by_cases e2 : b = d
    · subst e2; simp
    · simp [e2]
  · simp [e]; omega
theorem oGeT_2 {a b c d : Int} : oGeT (.tup [.int a, .int b]) (.tup [.int c, .int d]) M = .ok (.bl (decide (c < a ∨ (a = c ∧ d ≤ b)))) M := by
  rw [← geI_2]; rfl
end
end MP

set_option maxRecDepth 100000
set_option maxHeartbeats 1000000
namespace MP
open PySem PySem.Spec PyProof.Rows L2
section
variable {X : Cx} {K : PySem.W.Frag} {F H : Hp} {Ad : List Addr} {M : List D}
/-! ### any -/
def bAny (ds : List D) (M : List D) : R := match ds with
  | [d] => (match view M d with
    | .lst xs => (match boolsOf xs with
      | some bs => .ok (.bl (bs.any id)) M
      | none => .stuck)
    | _ => .stuck)
  | _ => .stuck
theorem call_anyS (hc : X.calm = true) : CallS X (DE X.K) (.builtin "any") bAny := by
  intro pins s σ H F Ad M E xs us ds Q I m rv x r
  unfold bAny at r
  split at r
  · rename_i d
    obtain ⟨v, rfl, hx⟩ := x.one
    have ax := DB.view m hx
    split at r
    · rename_i ys e
      rw [e] at ax
      obtain ⟨a, vs, rfl, h1, h2⟩ := ax.lst m
      split at r
      · rename_i bs e2
        exact cr_any hc pins s σ H _ us Q I rv ⟨a, bs, rfl, by rw [← h2.bools e2]; exact SqL.of h1, RP.here r m .bl⟩
      · exact r.elim
    · exact r.elim
  · exact r.elim
theorem bAny_bools {ns : List Bool} {M : List D} : bAny [.lst (ns.map D.bl)] M = .ok (.bl (ns.any id)) M := by
  show (match boolsOf (ns.map D.bl) with | some bs => R.ok (D.bl (bs.any id)) M | none => .stuck) = _
  rw [bools_map]
end
end MP

set_option maxRecDepth 100000
set_option maxHeartbeats 1000000
namespace HP
open PySem L2
/-! ### hauls -/
def hauls (n : Nat) : List (Nat × Nat) := (List.range (n - 1)).flatMap fun i => (List.range (n - (i + 1))).map fun k => (i, i + 1 + k)
theorem mem_hauls {n i j : Nat} : (i, j) ∈ hauls n ↔ i < j ∧ j < n := by
  simp only [hauls, List.mem_flatMap, List.mem_map, List.mem_range, Prod.mk.injEq]
  constructor
  · rintro ⟨a, h1, k, h2, rfl, rfl⟩; omega
  · rintro ⟨h1, h2⟩; exact ⟨i, by omega, j - (i + 1), by omega, rfl, by omega⟩
theorem hauls_lt {n : Nat} {h : Nat × Nat} (m : h ∈ hauls n) : h.1 < h.2 ∧ h.2 < n := mem_hauls.mp m
theorem nodup_flat {α β : Type} {f : α → List β} : ∀ {l : List α}, l.Nodup → (∀ a ∈ l, (f a).Nodup) → (∀ a ∈ l, ∀ b ∈ l, a ≠ b → ∀ x, x ∈ f a → x ∉ f b) → (l.flatMap f).Nodup
  | [], _, _, _ => by simp
  | a :: l, h, h1, h2 => by
    rw [List.flatMap_cons, List.nodup_append]
    rw [List.nodup_cons] at h
    refine ⟨h1 a (by simp), nodup_flat h.2 (fun b hb => h1 b (by simp [hb])) (fun b hb c hc => h2 b (by simp [hb]) c (by simp [hc])), fun x hx y hy e => ?_⟩
    subst e
    obtain ⟨b, hb, hxb⟩ := List.mem_flatMap.mp hy
    exact h2 a (by simp) b (by simp [hb]) (fun e => h.1 (e ▸ hb)) x hx hxb
theorem hauls_nodup (n : Nat) : (hauls n).Nodup := by
  refine nodup_flat List.nodup_range (fun a _ => ?_) fun a _ b _ ne x hx hy => ?_
  · refine List.Pairwise.map _ (fun x y ne e => ?_) List.nodup_range
    simp at e; exact ne e
  · obtain ⟨k, _, rfl⟩ := List.mem_map.mp hx
    obtain ⟨l, _, e⟩ := List.mem_map.mp hy
    simp at e; exact ne e.1.symm
theorem hauls_len (n : Nat) (h : n ≤ 10) : (hauls n).length ≤ 45 := by
  match n, h with
  | 0, _ | 1, _ | 2, _ | 3, _ | 4, _ | 5, _ | 6, _ | 7, _ | 8, _ | 9, _ | 10, _ => decide
/-! ### costs, none being no end -/
def leO (a b : Option Int) : Prop := ∀ y, b = some y → ∃ x, a = some x ∧ x ≤ y
theorem leO.refl (a : Option Int) : leO a a := fun y h => ⟨y, h, Int.le_refl y⟩
theorem leO.trans {a b c : Option Int} (h : leO a b) (k : leO b c) : leO a c := fun y e => by
  obtain ⟨x, e1, l1⟩ := k y e
  obtain ⟨z, e2, l2⟩ := h x e1
  exact ⟨z, e2, by omega⟩
theorem leO.anti {a b : Option Int} (h : leO a b) (k : leO b a) : a = b := by
  cases b with
  | some y =>
    obtain ⟨x, e1, l1⟩ := h y rfl
    subst e1
    obtain ⟨z, e2, l2⟩ := k x rfl
    cases e2
    congr 1; omega
  | none =>
    cases a with
    | none => rfl
    | some x => obtain ⟨z, e2, _⟩ := k x rfl; cases e2
theorem leO.none {a : Option Int} : leO a none := fun _ h => nomatch h
theorem leO.some_ {x y : Int} (h : x ≤ y) : leO (some x) (some y) := fun z e => by cases e; exact ⟨x, rfl, h⟩
def addO : Option Int → Option Int → Option Int
  | some x, some y => some (x + y)
  | _, _ => none
def minO : Option Int → Option Int → Option Int
  | none, b => b
  | a, none => a
  | some x, some y => some (min x y)
theorem minO_l {a b : Option Int} : leO (minO a b) a := fun y e => by
  subst e
  cases b with
  | none => exact ⟨y, rfl, Int.le_refl y⟩
  | some z => exact ⟨min y z, rfl, Int.min_le_left y z⟩
theorem minO_r {a b : Option Int} : leO (minO a b) b := fun y e => by
  subst e
  cases a with
  | none => exact ⟨y, rfl, Int.le_refl y⟩
  | some z => exact ⟨min z y, rfl, Int.min_le_right z y⟩
theorem le_minO {t a b : Option Int} (h : leO t a) (k : leO t b) : leO t (minO a b) := fun y e => by
  cases a with
  | none => exact k y e
  | some x =>
    cases b with
    | none => exact h y e
    | some z =>
      cases e
      obtain ⟨p, e1, l1⟩ := h x rfl
      obtain ⟨q, e2, l2⟩ := k z rfl
      rw [e1] at e2
      cases e2
      exact ⟨p, e1, by omega⟩
theorem addO_mono {a b c d : Option Int} (h : leO a c) (k : leO b d) : leO (addO a b) (addO c d) := fun y e => by
  cases c with
  | none => cases e
  | some x =>
    cases d with
    | none => cases e
    | some z =>
      cases e
      obtain ⟨p, e1, l1⟩ := h x rfl
      obtain ⟨q, e2, l2⟩ := k z rfl
      subst e1 e2
      exact ⟨p + q, rfl, by omega⟩
abbrev Tab := Nat → Nat → Option Int
def At (n i j : Nat) : Prop := i < j ∧ j < n
structure Keeps (w : Str) (n : Nat) (f : Tab) : Prop where
  long : w ≠ "parts" → ∀ i j k l, k ≤ i → i < j → j ≤ l → l < n → leO (f i j) (f k l)
  parts : w ≠ "long" → ∀ i j k, i < j → j < k → k < n → leO (f i k) (addO (f i j) (f j k))
def Below (n : Nat) (f g : Tab) : Prop := ∀ i j, At n i j → leO (f i j) (g i j)
/-- c is the greatest table below g that keeps the rules -/
structure IsCl (w : Str) (n : Nat) (g c : Tab) : Prop where
  below : Below n c g
  keeps : Keeps w n c
  top : ∀ t, Keeps w n t → Below n t g → Below n t c
theorem IsCl.uniq {w : Str} {n : Nat} {g c d : Tab} (h : IsCl w n g c) (k : IsCl w n g d) : ∀ i j, At n i j → c i j = d i j := fun i j v =>
  (k.top c h.keeps h.below i j v).anti (h.top d k.keeps k.below i j v)
theorem IsCl.self {w : Str} {n : Nat} {c : Tab} (h : Keeps w n c) : IsCl w n c c := ⟨fun _ _ _ => leO.refl _, h, fun _ _ b => b⟩
theorem IsCl.congr {w : Str} {n : Nat} {g g' c : Tab} (h : IsCl w n g c) (e : ∀ i j, At n i j → g i j = g' i j) : IsCl w n g' c :=
  ⟨fun i j v => by rw [← e i j v]; exact h.below i j v, h.keeps, fun t k b => h.top t k fun i j v => by rw [e i j v]; exact b i j v⟩
theorem Keeps.congr {w : Str} {n : Nat} {f f' : Tab} (h : Keeps w n f) (e : ∀ i j, At n i j → f i j = f' i j) : Keeps w n f' :=
  ⟨fun hw i j k l h1 h2 h3 h4 => by rw [← e i j ⟨h2, by omega⟩, ← e k l ⟨by omega, h4⟩]; exact h.long hw i j k l h1 h2 h3 h4,
   fun hw i j k h1 h2 h3 => by rw [← e i k ⟨by omega, h3⟩, ← e i j ⟨h1, by omega⟩, ← e j k ⟨h2, h3⟩]; exact h.parts hw i j k h1 h2 h3⟩
def NN (n : Nat) (g : Tab) : Prop := ∀ i j v, At n i j → g i j = some v → 0 ≤ v
theorem IsCl.nn {w : Str} {n : Nat} {g c : Tab} (h : IsCl w n g c) (hg : NN n g) : NN n c := fun i j v a e => by
  have k0 : Keeps w n (fun _ _ => some 0) := ⟨fun _ _ _ _ _ _ _ _ _ => leO.refl _, fun _ _ _ _ _ _ _ => leO.refl _⟩
  obtain ⟨x, e1, l1⟩ := h.top _ k0 (fun i j a y e => ⟨0, rfl, hg i j y a e⟩) i j a v e
  cases e1; exact l1
/-! ### ways -/
def fits (w : Str) (a b s : Nat) : Prop := if w = "parts" then a = s else a ≤ s ∧ s < b
instance {w : Str} {a b s : Nat} : Decidable (fits w a b s) := by unfold fits; exact inferInstance
inductive Way (w : Str) (n : Nat) (g : Tab) (i : Nat) : Nat → Int → List (Nat × Nat) → Prop
  | nil : Way w n g i i 0 []
  | snoc {s c cs a b p} : Way w n g i s c cs → At n a b → g a b = some p → fits w a b s → Way w n g i b (c + p) (cs ++ [(a, b)])
theorem fits_lt {w : Str} {n a b s : Nat} (v : At n a b) (h : fits w a b s) : s < b := by
  unfold fits at h
  split at h
  · subst h; exact v.1
  · exact h.2
section
variable {w : Str} {n : Nat} {g : Tab} {i e : Nat} {c : Int} {cs : List (Nat × Nat)}
theorem Way.ge (h : Way w n g i e c cs) : i ≤ e := by
  induction h with
  | nil => exact Nat.le_refl _
  | snoc _ v _ f ih => have := fits_lt v f; omega
theorem Way.nn (hg : NN n g) (h : Way w n g i e c cs) : 0 ≤ c := by
  induction h with
  | nil => exact Int.le_refl _
  | snoc _ v hp f ih => have := hg _ _ _ v hp; omega
theorem Way.lt (h : Way w n g i e c cs) (hi : i < n) : e < n := by
  cases h with
  | nil => exact hi
  | snoc _ v _ _ => exact v.2
/-- parts: ways put together -/
theorem Way.app (hw : w = "parts") {j f : Nat} {d : Int} {ds : List (Nat × Nat)} (h : Way w n g i j c cs) (k : Way w n g j f d ds) : Way w n g i f (c + d) (cs ++ ds) := by
  induction k with
  | nil => simpa using h
  | snoc _ v hp f ih =>
    have := Way.snoc ih v hp f
    rw [Int.add_assoc, List.append_assoc] at this
    exact this
/-- both: a way from j leads on from any way that comes to j or behind it -/
theorem Way.shift (hw : w ≠ "parts") (hg : NN n g) {j e f : Nat} {d : Int} {ds : List (Nat × Nat)} (h : Way w n g i e c cs) (hj : j ≤ e) (k : Way w n g j f d ds) : ∃ f' d' ds', f ≤ f' ∧ d' ≤ c + d ∧ Way w n g i f' d' ds' := by
  induction k with
  | nil => exact ⟨e, c, cs, hj, by omega, h⟩
  | @snoc s x xs a b p k' v hp fi ih =>
    obtain ⟨f', d', ds', l1, l2, q⟩ := ih
    have hpn := hg a b p v hp
    by_cases hb : b ≤ f'
    · exact ⟨f', d', ds', hb, by omega, q⟩
    · have fi2 : fits w a b f' := by
        unfold fits at fi ⊢
        rw [if_neg hw] at fi ⊢
        omega
      exact ⟨b, d' + p, _, Nat.le_refl _, by omega, q.snoc v hp fi2⟩
/-- what keeps the rules is below the cost of each way -/
theorem Way.top {t : Tab} (ht : Keeps w n t) (hl : w ≠ "long") (b : Below n t g) (hw : w ≠ "parts") (h : Way w n g i e c cs) : ∀ j, i < j → j ≤ e → leO (t i j) (some c) := by
  induction h with
  | nil => intro j h1 h2; omega
  | @snoc s x xs a b' p k v hp fi ih =>
    intro j h1 h2
    have hpt := b a b' v
    rw [hp] at hpt
    unfold fits at fi
    rw [if_neg hw] at fi
    have hx : ∀ j, s < j → j ≤ b' → leO (t s j) (some p) := fun j h1 h2 => (ht.long hw s j a b' fi.1 h1 h2 v.2).trans hpt
    have gs := k.ge
    by_cases hs : j ≤ s
    · by_cases p0 : 0 ≤ p
      · exact (ih j h1 hs).trans (leO.some_ (by omega))
      · -- a price below 0: by the whole haul
        have h3 : leO (t i b') (some (x + p)) := by
          rcases Nat.lt_or_ge i s with z | z
          · have := ht.parts hl i s b' z fi.2 v.2
            exact this.trans (addO_mono (ih s z (Nat.le_refl _)) (hx b' fi.2 (Nat.le_refl _)))
          · omega
        exact (ht.long hw i j i b' (Nat.le_refl _) h1 h2 v.2).trans h3
    · rcases Nat.lt_or_ge i s with z | z
      · exact (ht.parts hl i s j z (by omega) (by have := v.2; omega)).trans (addO_mono (ih s z (Nat.le_refl _)) (hx j (by omega) h2))
      · have e : i = s := by omega
        subst e
        cases k with
        | nil => simpa using hx j h1 h2
        | snoc k2 v2 _ f2 => have := k2.ge; have := fits_lt v2 f2; omega
theorem Way.belowP {t : Tab} (ht : Keeps w n t) (b : Below n t g) (hw : w = "parts") (h : Way w n g i e c cs) : i < e → leO (t i e) (some c) := by
  induction h with
  | nil => intro h; omega
  | @snoc s x xs a b' p k v hp fi ih =>
    intro h1
    have hpt := b a b' v
    rw [hp] at hpt
    unfold fits at fi
    rw [if_pos hw] at fi
    subst fi
    rcases Nat.lt_or_ge i a with z | z
    · exact (ht.parts (by subst hw; decide) i a b' z v.1 v.2).trans (addO_mono (ih z) hpt)
    · have e : i = a := by have := k.ge; omega
      subst e
      cases k with
      | nil => simpa using hpt
      | snoc k2 v2 _ f2 => have := k2.ge; have := fits_lt v2 f2; omega
end
/-- where a cover may end -/
def endsOk (w : Str) (e j : Nat) : Prop := if w = "parts" then e = j else j ≤ e
def Cover (w : Str) (n : Nat) (g : Tab) (i j : Nat) (c : Int) (cs : List (Nat × Nat)) : Prop :=
  if w = "long" then ∃ k l, k ≤ i ∧ j ≤ l ∧ At n k l ∧ g k l = some c ∧ cs = [(k, l)] else ∃ e, Way w n g i e c cs ∧ endsOk w e j
abbrev Wy := Int × List (Nat × Nat)
/-- the cheapest cover of each haul -/
structure CovOk (w : Str) (n : Nat) (g : Tab) (cov : Nat → Nat → Option Wy) : Prop where
  sound : ∀ i j c cs, At n i j → cov i j = some (c, cs) → Cover w n g i j c cs
  opt : ∀ i j c cs, At n i j → Cover w n g i j c cs → ∃ c' cs', cov i j = some (c', cs') ∧ c' ≤ c
def costO (o : Option Wy) : Option Int := o.map (·.1)
def words : List Str := ["both", "long", "parts"]
theorem CovOk.cl {w : Str} {n : Nat} {g : Tab} (hg : NN n g) {cov : Nat → Nat → Option Wy} (h : CovOk w n g cov) : IsCl w n g (fun i j => costO (cov i j)) := by
  have le_of : ∀ {i j c cs y}, At n i j → Cover w n g i j c cs → c ≤ y → ∃ x, costO (cov i j) = some x ∧ x ≤ y := fun {i j c cs y} a q ly => by
    obtain ⟨c', cs', e, l⟩ := h.opt i j c cs a q
    rw [e]; exact ⟨c', rfl, by omega⟩
  have get : ∀ {i j y}, At n i j → costO (cov i j) = some y → ∃ cs, Cover w n g i j y cs := fun {i j y} a e => by
    cases q : cov i j with
    | none => rw [q] at e; cases e
    | some p => rw [q] at e; cases e; exact ⟨p.2, h.sound i j p.1 p.2 a q⟩
  have one : ∀ {i j y}, At n i j → g i j = some y → Cover w n g i j y [(i, j)] := fun {i j y} a e => by
    unfold Cover
    split
    · exact ⟨i, j, Nat.le_refl _, Nat.le_refl _, a, e, rfl⟩
    · have f : fits w i j i := by unfold fits; split <;> have := a.1 <;> omega
      have := Way.snoc (Way.nil (w := w) (n := n) (g := g) (i := i)) a e f
      exact ⟨j, by simpa using this, by unfold endsOk; split <;> simp⟩
  refine ⟨fun i j a y e => le_of a (one a e) (Int.le_refl _), ⟨fun hp i j k l h1 h2 h3 h4 y e => ?_, fun hl i j k h1 h2 h3 y e => ?_⟩, fun t kt bt i j a y e => ?_⟩
  · obtain ⟨cs, q⟩ := get ⟨by omega, h4⟩ e
    have a : At n i j := ⟨h2, by omega⟩
    unfold Cover at q
    split at q
    · rename_i hl
      obtain ⟨p, r, e1, e2, e3, e4, _⟩ := q
      exact le_of a (cs := [(p, r)]) (by unfold Cover; rw [if_pos hl]; exact ⟨p, r, by omega, by omega, e3, e4, rfl⟩) (Int.le_refl _)
    · rename_i hl
      obtain ⟨f, wy, ef⟩ := q
      unfold endsOk at ef
      rw [if_neg hp] at ef
      obtain ⟨f', d', ds', z1, z2, z3⟩ := Way.shift hp hg (Way.nil (i := i)) h1 wy
      exact le_of a (cs := ds') (by unfold Cover; rw [if_neg hl]; exact ⟨f', z3, by unfold endsOk; rw [if_neg hp]; omega⟩) (by omega)
  · cases q1 : costO (cov i j) with
    | none => rw [q1] at e; cases e
    | some y1 =>
      cases q2 : costO (cov j k) with
      | none => rw [q1, q2] at e; cases e
      | some y2 =>
        rw [q1, q2] at e
        cases e
        obtain ⟨cs, s1⟩ := get ⟨h1, by omega⟩ q1
        obtain ⟨ds, s2⟩ := get ⟨h2, h3⟩ q2
        have a : At n i k := ⟨by omega, h3⟩
        unfold Cover at s1 s2
        rw [if_neg hl] at s1 s2
        obtain ⟨e1, w1, f1⟩ := s1
        obtain ⟨e2, w2, f2⟩ := s2
        by_cases hp : w = "parts"
        · unfold endsOk at f1 f2
          rw [if_pos hp] at f1 f2
          subst f1 f2
          exact le_of a (cs := cs ++ ds) (by unfold Cover; rw [if_neg hl]; exact ⟨_, w1.app hp w2, by unfold endsOk; rw [if_pos hp]⟩) (Int.le_refl _)
        · unfold endsOk at f1 f2
          rw [if_neg hp] at f1 f2
          obtain ⟨f', d', ds', z1, z2, z3⟩ := Way.shift hp hg w1 f1 w2
          exact le_of a (cs := ds') (by unfold Cover; rw [if_neg hl]; exact ⟨f', z3, by unfold endsOk; rw [if_neg hp]; omega⟩) z2
  · obtain ⟨cs, q⟩ := get a e
    unfold Cover at q
    split at q
    · rename_i hl
      obtain ⟨p, r, e1, e2, e3, e4, _⟩ := q
      have := (kt.long (by rw [hl]; decide) i j p r e1 a.1 e2 e3.2).trans (bt p r e3)
      rw [e4] at this
      exact this y rfl
    · rename_i hl
      obtain ⟨f, wy, ef⟩ := q
      unfold endsOk at ef
      by_cases hp : w = "parts"
      · rw [if_pos hp] at ef
        subst ef
        exact Way.belowP kt bt hp wy a.1 y rfl
      · rw [if_neg hp] at ef
        exact Way.top kt hl bt hp wy j a.1 ef y rfl
end HP

set_option maxRecDepth 100000
set_option maxHeartbeats 1000000
namespace HP
open PySem L2
/-! ### lowering, again and again -/
structure PassOk (w : Str) (n : Nat) (f f' : Tab) : Prop where
  low : Below n f' f
  top : ∀ t, Keeps w n t → Below n t f → Below n t f'
  lng : w ≠ "parts" → ∀ i j k l, k ≤ i → i < j → j ≤ l → l < n → leO (f' i j) (f k l)
  prt : w ≠ "long" → ∀ i j k, i < j → j < k → k < n → leO (f' i k) (addO (f i j) (f j k))
inductive Ch (w : Str) (n : Nat) (g : Tab) : Nat → Tab → Prop
  | zero : Ch w n g 0 g
  | succ {t f f'} : Ch w n g t f → PassOk w n f f' → Ch w n g (t + 1) f'
section
variable {w : Str} {n : Nat} {g f : Tab} {t i e : Nat} {c : Int} {cs : List (Nat × Nat)}
theorem Ch.low (h : Ch w n g t f) : Below n f g := by
  induction h with
  | zero => exact fun _ _ _ => leO.refl _
  | succ _ p ih => exact fun i j a => (p.low i j a).trans (ih i j a)
theorem Ch.top (h : Ch w n g t f) : ∀ u, Keeps w n u → Below n u g → Below n u f := by
  induction h with
  | zero => exact fun _ _ b => b
  | succ _ p ih => exact fun u k b => p.top u k (ih u k b)
theorem Ch.lng (h : Ch w n g t f) (ht : 1 ≤ t) (hw : w ≠ "parts") {i j k l : Nat} (h1 : k ≤ i) (h2 : i < j) (h3 : j ≤ l) (h4 : l < n) : leO (f i j) (g k l) := by
  cases h with
  | zero => omega
  | succ q p => exact (p.lng hw i j k l h1 h2 h3 h4).trans (q.low k l ⟨by omega, h4⟩)
theorem Way.len (h : Way w n g i e c cs) : i + cs.length ≤ e := by
  induction h with
  | nil => simp
  | snoc _ v _ f ih => have := fits_lt v f; simp; omega
theorem Way.ne (h : Way w n g i e c cs) (hi : i < e) : 1 ≤ cs.length := by
  cases h with
  | nil => omega
  | snoc => simp
theorem Ch.both (hg : NN n g) (hl : w ≠ "long") (hw : w ≠ "parts") (k : Way w n g i e c cs) : ∀ {t f}, Ch w n g t f → cs.length ≤ t → ∀ j, i < j → j ≤ e → leO (f i j) (some c) := by
  induction k with
  | nil => intro t f _ _ j h1 h2; omega
  | @snoc s x xs a b p k v hp fi ih =>
    intro t f h hlen j h1 h2
    have pn := hg a b p v hp
    have fi2 : a ≤ s ∧ s < b := by unfold fits at fi; rw [if_neg hw] at fi; exact fi
    simp at hlen
    have hx : ∀ {t f}, Ch w n g t f → 1 ≤ t → ∀ j, s < j → j ≤ b → leO (f s j) (some p) := fun h h0 j h1 h2 => by
      have := h.lng h0 hw fi2.1 h1 h2 v.2
      rw [hp] at this; exact this
    by_cases hs : j ≤ s
    · exact (ih h (by omega) j h1 hs).trans (leO.some_ (by omega))
    · rcases Nat.lt_or_ge i s with z | z
      · have l1 := k.ne z
        cases h with
        | zero => omega
        | succ q pp =>
          exact (pp.prt hl i s j z (by omega) (by have := v.2; omega)).trans (addO_mono (ih q (by omega) s z (Nat.le_refl _)) (hx q (by omega) j (by omega) h2))
      · have es : i = s := by have := k.ge; omega
        subst es
        cases k with
        | nil => simpa using hx h (by omega) j h1 h2
        | snoc k2 v2 _ f2 => have := k2.ge; have := fits_lt v2 f2; omega
theorem Ch.parts (hw : w = "parts") (k : Way w n g i e c cs) : ∀ {t f}, Ch w n g t f → cs.length ≤ t → i < e → leO (f i e) (some c) := by
  induction k with
  | nil => intro t f _ _ h; omega
  | @snoc s x xs a b p k v hp fi ih =>
    intro t f h hlen h1
    have fi2 : a = s := by unfold fits at fi; rw [if_pos hw] at fi; exact fi
    subst fi2
    simp at hlen
    have hx : ∀ {t f}, Ch w n g t f → leO (f a b) (some p) := fun h => by
      have := h.low a b v
      rw [hp] at this; exact this
    rcases Nat.lt_or_ge i a with z | z
    · have l1 := k.ne z
      cases h with
      | zero => omega
      | succ q pp => exact (pp.prt (by rw [hw]; decide) i a b z v.1 v.2).trans (addO_mono (ih q (by omega) z) (hx q))
    · have es : i = a := by have := k.ge; omega
      subst es
      cases k with
      | nil => simpa using hx h
      | snoc k2 v2 _ f2 => have := k2.ge; have := fits_lt v2 f2; omega
/-- so many passes come to the greatest table -/
theorem Ch.cl (hg : NN n g) {cov : Nat → Nat → Option Wy} (hc : CovOk w n g cov) (h : Ch w n g t f) (ht : n ≤ t) : IsCl w n g f := by
  have c0 := hc.cl hg
  have le : ∀ i j, At n i j → leO (f i j) (costO (cov i j)) := fun i j a y e => by
    cases q : cov i j with
    | none => rw [q] at e; cases e
    | some p =>
      rw [q] at e
      cases e
      have s := hc.sound i j p.1 p.2 a q
      unfold Cover at s
      split at s
      · rename_i hl
        obtain ⟨k, l, e1, e2, e3, e4, _⟩ := s
        have := h.lng (by have := a.1; have := a.2; omega) (by rw [hl]; decide) e1 a.1 e2 e3.2
        rw [e4] at this
        exact this _ rfl
      · rename_i hl
        obtain ⟨f1, wy, ef⟩ := s
        have len := wy.len
        have lt := wy.lt (by have := a.1; have := a.2; omega)
        unfold endsOk at ef
        by_cases hp : w = "parts"
        · rw [if_pos hp] at ef
          subst ef
          exact Ch.parts hp wy h (by omega) a.1 _ rfl
        · rw [if_neg hp] at ef
          exact Ch.both hg hl hp wy h (by omega) j a.1 ef _ rfl
  have ee : ∀ i j, At n i j → costO (cov i j) = f i j := fun i j a => (h.top _ c0.keeps c0.below i j a).anti (le i j a)
  exact ⟨h.low, c0.keeps.congr ee, h.top⟩
/-- nothing changes any more -/
theorem Ch.stop (h : Ch w n g t f) {f' : Tab} (p : PassOk w n f f') (e : ∀ i j, At n i j → f' i j = f i j) : IsCl w n g f := by
  refine ⟨h.low, ⟨fun hw i j k l h1 h2 h3 h4 => ?_, fun hw i j k h1 h2 h3 => ?_⟩, h.top⟩
  · rw [← e i j ⟨h2, by omega⟩]; exact p.lng hw i j k l h1 h2 h3 h4
  · rw [← e i k ⟨by omega, h3⟩]; exact p.prt hw i j k h1 h2 h3
end
/-! one pass, by its steps -/
def up2 (f : Tab) (i j : Nat) (v : Option Int) : Tab := fun a b => if a = i ∧ b = j then v else f a b
theorem up2_same {f : Tab} {i j : Nat} {v : Option Int} : up2 f i j v i j = v := by simp [up2]
theorem up2_ne {f : Tab} {i j a b : Nat} {v : Option Int} (h : ¬ (a = i ∧ b = j)) : up2 f i j v a b = f a b := by simp [up2, h]
/-- between: lower than f, not lower than what keeps the rules -/
structure Mid (w : Str) (n : Nat) (f h : Tab) : Prop where
  low : Below n h f
  top : ∀ t, Keeps w n t → Below n t f → Below n t h
section
variable {w : Str} {n : Nat} {f h : Tab}
theorem Mid.refl : Mid w n f f := ⟨fun _ _ _ => leO.refl _, fun _ _ b => b⟩
theorem Mid.trans {k : Tab} (a : Mid w n f h) (b : Mid w n h k) : Mid w n f k := ⟨fun i j v => (b.low i j v).trans (a.low i j v), fun t q r => b.top t q (a.top t q r)⟩
theorem up_low {i j : Nat} {v : Option Int} : Below n (up2 h i j (minO (h i j) v)) h := fun a b _ => by
  by_cases e : a = i ∧ b = j
  · obtain ⟨rfl, rfl⟩ := e; rw [up2_same]; exact minO_l
  · rw [up2_ne e]; exact leO.refl _
theorem Mid.lng (hw : w ≠ "parts") {i j k l : Nat} (h1 : k ≤ i) (h2 : i < j) (h3 : j ≤ l) (h4 : l < n) : Mid w n h (up2 h i j (minO (h i j) (h k l))) :=
  ⟨up_low, fun t q b a c v => by
    by_cases e : a = i ∧ c = j
    · obtain ⟨rfl, rfl⟩ := e
      rw [up2_same]
      exact le_minO (b a c v) ((q.long hw a c k l h1 h2 h3 h4).trans (b k l ⟨by omega, h4⟩))
    · rw [up2_ne e]; exact b a c v⟩
theorem Mid.prt (hw : w ≠ "long") {i j k : Nat} (h1 : i < j) (h2 : j < k) (h3 : k < n) : Mid w n h (up2 h i k (minO (h i k) (addO (h i j) (h j k)))) :=
  ⟨up_low, fun t q b a c v => by
    by_cases e : a = i ∧ c = k
    · obtain ⟨rfl, rfl⟩ := e
      rw [up2_same]
      exact le_minO (b a c v) ((q.parts hw a j c h1 h2 h3).trans (addO_mono (b a j ⟨h1, by omega⟩) (b j c ⟨h2, h3⟩)))
    · rw [up2_ne e]; exact b a c v⟩
end
end HP

set_option maxRecDepth 100000
set_option maxHeartbeats 1000000
namespace HP
open PySem L2
/-! ### the law's pass as a fold -/
def lngStep (i j : Nat) (h : Tab) (a : Nat × Nat) : Tab := if a.1 ≤ i ∧ j ≤ a.2 then up2 h i j (minO (h i j) (h a.1 a.2)) else h
def prtStep (i j : Nat) (h : Tab) (k : Nat) : Tab := up2 h i j (minO (h i j) (addO (h i (i + 1 + k)) (h (i + 1 + k) j)))
def rideL (w : Str) (n : Nat) (h : Tab) (r : Nat × Nat) : Tab := if w ≠ "parts" then (hauls n).foldl (lngStep r.1 r.2) h else h
def rideP (w : Str) (h : Tab) (r : Nat × Nat) : Tab := if w ≠ "long" then (List.range (r.2 - (r.1 + 1))).foldl (prtStep r.1 r.2) h else h
def passRide (w : Str) (n : Nat) (h : Tab) (r : Nat × Nat) : Tab := rideP w (rideL w n h r) r
def passT (w : Str) (n : Nat) (f : Tab) : Tab := (hauls n).foldl (passRide w n) f
theorem foldl_inv {α β : Type} {s : β → α → β} (P : List α → β → Prop) : ∀ {xs : List α} {b : β}, P [] b → (∀ pre x post c, xs = pre ++ x :: post → P pre c → P (pre ++ [x]) (s c x)) → P xs (xs.foldl s b) := by
  intro xs b h0 h
  have key : ∀ (post pre : List α) (c : β), xs = pre ++ post → P pre c → P xs (post.foldl s c) := by
    intro post
    induction post with
    | nil => intro pre c e p; rw [e, List.append_nil]; exact p
    | cons x post ih => intro pre c e p; exact ih (pre ++ [x]) (s c x) (by simp [e]) (h pre x post c e p)
  exact key xs [] b rfl h0
section
variable {w : Str} {n : Nat} {f h : Tab} {i j : Nat}
theorem lngStep_mid (hw : w ≠ "parts") (v : At n i j) {a : Nat × Nat} (ha : a ∈ hauls n) : Mid w n h (lngStep i j h a) := by
  unfold lngStep
  split
  · rename_i q
    exact Mid.lng hw q.1 v.1 q.2 (hauls_lt ha).2
  · exact Mid.refl
theorem prtStep_mid (hw : w ≠ "long") (v : At n i j) {k : Nat} (hk : k < j - (i + 1)) : Mid w n h (prtStep i j h k) :=
  Mid.prt hw (by omega) (by omega) v.2
theorem rideL_ok (v : At n i j) : Mid w n h (rideL w n h (i, j)) ∧ (w ≠ "parts" → ∀ k l, k ≤ i → j ≤ l → l < n → leO (rideL w n h (i, j) i j) (h k l)) := by
  unfold rideL
  split
  · rename_i hw
    have := foldl_inv (s := lngStep i j) (xs := hauls n) (b := h) (fun pre c => Mid w n h c ∧ ∀ a ∈ pre, a.1 ≤ i → j ≤ a.2 → leO (c i j) (h a.1 a.2)) ⟨Mid.refl, fun a ha => nomatch ha⟩ (by
      rintro pre x post c e ⟨m, d⟩
      have hx : x ∈ hauls n := by rw [e]; simp
      have ms := lngStep_mid (h := c) hw v hx
      refine ⟨m.trans ms, fun a ha h1 h2 => ?_⟩
      rcases List.mem_append.mp ha with z | z
      · exact (ms.low i j v).trans (d a z h1 h2)
      · simp at z
        subst z
        unfold lngStep
        rw [if_pos ⟨h1, h2⟩, up2_same]
        exact minO_r.trans (m.low a.1 a.2 (hauls_lt hx)))
    exact ⟨this.1, fun _ k l h1 h2 h3 => this.2 (k, l) (mem_hauls.mpr ⟨by have := v.1; omega, h3⟩) h1 h2⟩
  · rename_i hw
    exact ⟨Mid.refl, fun z => absurd z hw⟩
theorem rideP_ok (v : At n i j) : Mid w n h (rideP w h (i, j)) ∧ (w ≠ "long" → ∀ m, i < m → m < j → leO (rideP w h (i, j) i j) (addO (h i m) (h m j))) := by
  unfold rideP
  split
  · rename_i hw
    have := foldl_inv (s := prtStep i j) (xs := List.range (j - (i + 1))) (b := h) (fun pre c => Mid w n h c ∧ ∀ k ∈ pre, leO (c i j) (addO (h i (i + 1 + k)) (h (i + 1 + k) j))) ⟨Mid.refl, fun a ha => nomatch ha⟩ (by
      rintro pre x post c e ⟨m, d⟩
      have hx : x < j - (i + 1) := by
        have : x ∈ List.range (j - (i + 1)) := by rw [e]; simp
        simpa using this
      have ms := prtStep_mid (h := c) hw v hx
      refine ⟨m.trans ms, fun k hk => ?_⟩
      rcases List.mem_append.mp hk with z | z
      · exact (ms.low i j v).trans (d k z)
      · simp at z
        subst z
        unfold prtStep
        rw [up2_same]
        exact minO_r.trans (addO_mono (m.low _ _ ⟨by omega, by have := v.2; omega⟩) (m.low _ _ ⟨by omega, v.2⟩)))
    exact ⟨this.1, fun _ m h1 h2 => by
      have := this.2 (m - (i + 1)) (by simp; omega)
      rw [show i + 1 + (m - (i + 1)) = m by omega] at this
      exact this⟩
  · rename_i hw
    exact ⟨Mid.refl, fun z => absurd z hw⟩
theorem passT_ok : PassOk w n f (passT w n f) := by
  have := foldl_inv (s := passRide w n) (xs := hauls n) (b := f) (fun pre c => Mid w n f c ∧ ∀ r ∈ pre, (w ≠ "parts" → ∀ k l, k ≤ r.1 → r.2 ≤ l → l < n → leO (c r.1 r.2) (f k l)) ∧ (w ≠ "long" → ∀ m, r.1 < m → m < r.2 → leO (c r.1 r.2) (addO (f r.1 m) (f m r.2)))) ⟨Mid.refl, fun a ha => nomatch ha⟩ (by
    rintro pre ⟨i, j⟩ post c e ⟨m, d⟩
    have v : At n i j := hauls_lt (h := (i, j)) (by rw [e]; simp)
    obtain ⟨l1, l2⟩ := rideL_ok (w := w) (h := c) v
    obtain ⟨p1, p2⟩ := rideP_ok (w := w) (h := rideL w n c (i, j)) v
    refine ⟨(m.trans l1).trans p1, fun r hr => ?_⟩
    rcases List.mem_append.mp hr with z | z
    · have vr : At n r.1 r.2 := hauls_lt (h := r) (by rw [e]; simp [z])
      have lo := (p1.low _ _ vr).trans (l1.low _ _ vr)
      exact ⟨fun hw k l h1 h2 h3 => lo.trans ((d r z).1 hw k l h1 h2 h3), fun hw m h1 h2 => lo.trans ((d r z).2 hw m h1 h2)⟩
    · simp at z
      subst z
      have l0 := m.trans l1
      refine ⟨fun hw k l h1 h2 h3 => ?_, fun hw k h1 h2 => ?_⟩
      · exact (p1.low _ _ v).trans ((l2 hw k l h1 h2 h3).trans (m.low k l ⟨by have := v.1; dsimp only at h1 h2; omega, h3⟩))
      · have e1 : At n i k := ⟨h1, by have := v.2; dsimp only at h2; omega⟩
        have e2 : At n k j := ⟨h2, v.2⟩
        exact (p2 hw k h1 h2).trans (addO_mono (l0.low _ _ e1) (l0.low _ _ e2)))
  exact ⟨this.1.low, this.1.top, fun hw i j k l h1 h2 h3 h4 => (this.2 (i, j) (mem_hauls.mpr ⟨h2, by omega⟩)).1 hw k l h1 h3 h4,
    fun hw i j k h1 h2 h3 => (this.2 (i, k) (mem_hauls.mpr ⟨by omega, h3⟩)).2 hw j h1 h2⟩
end
end HP

set_option maxRecDepth 100000
set_option maxHeartbeats 1000000
namespace MP
open PySem L2
section
variable {f g fa fb fc fk fv a b c : EF} {l l1 l2 : LF} {env : EnvM} {M : List D} {p q : SF} {i j n : Nat} {d x y : D}
@[simp] theorem view_non : view M .non = .non := rfl
@[simp] theorem view_bl {z} : view M (.bl z) = .bl z := rfl
@[simp] theorem view_str {z} : view M (.str z) = .str z := rfl
@[simp] theorem view_intD {z} : view M (.int z) = .int z := rfl
@[simp] theorem view_tup {z} : view M (.tup z) = .tup z := rfl
@[simp] theorem view_ktp {z} : view M (.ktp z) = .ktp z := rfl
@[simp] theorem view_lst {z} : view M (.lst z) = .lst z := rfl
@[simp] theorem view_dT {z} : view M (.dT z) = .dT z := rfl
@[simp] theorem view_dK {z} : view M (.dK z) = .dK z := rfl
@[simp] theorem eDcT_eq {gd ft fe vs} : eDcT l gd ft fk fe vs env M = (l env M).bind fun ds M1 => dcompT gd ft fk fe (wipeE env vs) ds [] M1 := rfl
@[simp] theorem guD_true {r : R} : guD true r = r := rfl
@[simp] theorem eGet1_eq {fo} : eGet1 fo fk env M = (fo env M).bind fun x M1 => guD (dictD (view M1 x)) ((fk env M1).bind fun y M2 => getR .non (getD (view M2 x) y) M2) := rfl
@[simp] theorem eGet2_eq {fo fd} : eGet2 fo fk fd env M = (fo env M).bind fun x M1 => guD (dictD (view M1 x)) ((fk env M1).bind fun y M2 => (fd env M2).bind fun z M3 => getR z (getD (view M3 x) y) M3) := rfl
@[simp] theorem dictD_dK {z} : dictD (.dK z) = true := rfl
@[simp] theorem dictD_dT {z} : dictD (.dT z) = true := rfl
@[simp] theorem getD_dKi {kvs} {z : Int} : getD (.dK kvs) (.int z) = some (valK kvs (.inl z)) := rfl
@[simp] theorem getD_dKs {kvs} {z : Str} : getD (.dK kvs) (.str z) = some (valK kvs (.inr z)) := rfl
@[simp] theorem getR_some : getR d (some (some x)) M = .ok x M := rfl
@[simp] theorem getR_none : getR d (some none) M = .ok d M := rfl
@[simp] theorem bParO_eq : bParO i j fa fb env M = (fa env M).bindS env fun d M1 => (fb env M1).bindS env fun d2 M2 => setR ((gN i d env).bind (oN j d2)) M2 := rfl
@[simp] theorem bPar3_eq {k} : bPar3 i j k fa fb fc env M = (fa env M).bindS env fun d M1 => (fb env M1).bindS env fun d2 M2 => (fc env M2).bindS env fun d3 M3 => setR (gAll [i, j, k] [d, d2, d3] env) M3 := rfl
def dispR (k : Option Key) (y : D) (M : List D) : R := match k with
  | some k => .ok (.dK [(k, y)]) M
  | none => .stuck
@[simp] theorem dispR_some {k} : dispR (some k) y M = .ok (.dK [(k, y)]) M := rfl
@[simp] theorem eDisp1_eq : eDisp1 fk fv env M = (fk env M).bind fun x M1 => (fv env M1).bind fun y M2 => dispR (keyD x) y M2 := rfl
@[simp] theorem keyD_int {z : Int} : keyD (.int z) = some (.inl z) := rfl
@[simp] theorem keyD_str {z : Str} : keyD (.str z) = some (.inr z) := rfl
def starR (o : Option (List D)) (r : RL) : RL := match o with
  | some ds => r.bindL fun ys M2 => .ok (ds ++ ys) M2
  | none => .stuck
@[simp] theorem starR_some {ds r} : starR (some ds) r = r.bindL fun ys M2 => .ok (ds ++ ys) M2 := rfl
@[simp] theorem lStar_eq : lStar f l env M = (f env M).bindL fun x M1 => starR (starD (view M1 x)) (l env M1) := rfl
@[simp] theorem starD_tup {ds} : starD (.tup ds) = some ds := rfl
@[simp] theorem eCallQ_eq {c n np nk ix dd} : eCallQ c n np nk ix dd l1 l2 env M = (l1 env M).bind fun xs M1 => (l2 env M1).bind fun ys M2 => apQ c n np nk ix dd xs ys M2 := rfl
theorem apQ_of {c : List D → List D → R} {n np nk ix dd xs ys zs} (h : xs.length = np ∧ ys.length = nk ∧ (pickL ix (xs ++ ys ++ dd)).length = n) (e : pickL ix (xs ++ ys ++ dd) = zs) : apQ c n np nk ix dd xs ys M = c zs M := by
  subst e; unfold apQ; rw [if_pos h]
@[simp] theorem apQ_11 {c : List D → List D → R} : apQ c 2 1 1 [0, 1] [] [x] [y] M = c [x, y] M := apQ_of ⟨rfl, rfl, rfl⟩ rfl
@[simp] theorem apQ_02 {c : List D → List D → R} : apQ c 2 0 2 [1, 0] [] [] [x, y] M = c [y, x] M := apQ_of ⟨rfl, rfl, rfl⟩ rfl
@[simp] theorem isN_str {z} : (D.str z).isN = false := rfl
@[simp] theorem isN_bl {z} : (D.bl z).isN = false := rfl
@[simp] theorem isN_lst {z} : (D.lst z).isN = false := rfl
@[simp] theorem isN_dT {z} : (D.dT z).isN = false := rfl
@[simp] theorem isN_ins {z w} : (D.ins z w).isN = false := rfl
@[simp] theorem oEq_str {z w : Str} : oEq (.str z) (.str w) M = .ok (.bl (z == w)) M := rfl
@[simp] theorem oNe_str {z w : Str} : oNe (.str z) (.str w) M = .ok (.bl (!(z == w))) M := rfl
@[simp] theorem forK_cont {gd ds} : forK gd p ds (.cont env M) = forL gd p ds env M := rfl
@[simp] theorem forK_brk {gd ds} : forK gd p ds (.brk env M) = .next env M := rfl
@[simp] theorem endE_exc {x} : endE (.exc x env M) = .exc x M := rfl
/-! loops over encoded lists -/
theorem forL_pre {α : Type} {gd : D → EnvM → Option EnvM} {b : SF} {enc : α → D} {xs : List α} (P : List α → EnvM → List D → Prop)
    (h : ∀ pre x post env M, xs = pre ++ x :: post → P pre env M → ∃ env1, gd (enc x) env = some env1 ∧ ∃ env2 M2, (b env1 M = .next env2 M2 ∨ b env1 M = .cont env2 M2) ∧ P (pre ++ [x]) env2 M2) {env : EnvM} {M : List D} (h0 : P [] env M) :
    ∃ env2 M2, forL gd b (xs.map enc) env M = .next env2 M2 ∧ P xs env2 M2 := by
  have key : ∀ (post pre : List α) (env : EnvM) (M : List D), xs = pre ++ post → P pre env M → ∃ env2 M2, forL gd b (post.map enc) env M = .next env2 M2 ∧ P xs env2 M2 := by
    intro post
    induction post with
    | nil => intro pre env M e p; exact ⟨env, M, rfl, by rw [e, List.append_nil]; exact p⟩
    | cons x post ih =>
      intro pre env M e p
      obtain ⟨env1, h1, env2, M2, h2, h3⟩ := h pre x post env M e p
      obtain ⟨env3, M3, h4, h5⟩ := ih (pre ++ [x]) env2 M2 (by simp [e]) h3
      refine ⟨env3, M3, ?_, h5⟩
      rw [List.map_cons, forL_cons h1]
      rcases h2 with h2 | h2 <;> rw [h2] <;> exact h4
  exact key xs [] env M rfl h0
/-- a comprehension, element by element -/
theorem compL_map {α : Type} {gd : D → EnvM → Option EnvM} {ft fe : EF} {env0 : EnvM} {enc g : α → D} {M : List D} : ∀ {xs : List α} {acc : List D}, acc.length + xs.length ≤ sizeLine →
    (∀ x ∈ xs, ∃ env1, gd (enc x) env0 = some env1 ∧ ft env1 M = .ok (.bl true) M ∧ fe env1 M = .ok (g x) M) → compL gd ft fe env0 (xs.map enc) acc M = .ok (.lst (acc ++ xs.map g)) M
  | [], acc, _, _ => by simp [compL]
  | x :: xs, acc, hl, h => by
    obtain ⟨env1, h1, h2, h3⟩ := h x (by simp)
    simp at hl
    rw [List.map_cons]
    unfold compL
    rw [h1]
    dsimp only
    rw [h2]
    dsimp only
    rw [h3]
    dsimp only
    rw [if_pos (by omega), compL_map (by simp; omega) fun y hy => h y (by simp [hy])]
    simp
theorem compL_filter {α : Type} {gd : D → EnvM → Option EnvM} {ft fe : EF} {env0 : EnvM} {enc g : α → D} {p : α → Bool} {M : List D} : ∀ {xs : List α} {acc : List D}, acc.length + xs.length ≤ sizeLine →
    (∀ x ∈ xs, ∃ env1, gd (enc x) env0 = some env1 ∧ ft env1 M = .ok (.bl (p x)) M ∧ (p x = true → fe env1 M = .ok (g x) M)) → compL gd ft fe env0 (xs.map enc) acc M = .ok (.lst (acc ++ (xs.filter p).map g)) M
  | [], acc, _, _ => by simp [compL]
  | x :: xs, acc, hl, h => by
    obtain ⟨env1, h1, h2, h3⟩ := h x (by simp)
    simp at hl
    rw [List.map_cons]
    unfold compL
    rw [h1]
    dsimp only
    rw [h2]
    cases q : p x with
    | true =>
      dsimp only
      rw [h3 q]
      dsimp only
      rw [if_pos (by omega), compL_filter (by simp; omega) fun y hy => h y (by simp [hy])]
      simp [q]
    | false =>
      dsimp only
      rw [compL_filter (by omega) fun y hy => h y (by simp [hy])]
      simp [q]
end
/-! tables -/
theorem valK_map {κ α : Type} [DecidableEq κ] {key : α → κ} {v : α → D} : ∀ {xs : List α} {x : α}, x ∈ xs → (∀ a ∈ xs, ∀ b ∈ xs, key a = key b → a = b) → valK (xs.map fun a => (key a, v a)) (key x) = some (v x)
  | a :: xs, x, h, inj => by
    by_cases e : key a = key x
    · have := inj a (by simp) x h e
      subst this
      simp [valK]
    · have hx : x ∈ xs := by
        rcases List.mem_cons.mp h with z | z
        · exact absurd (by rw [z]) e
        · exact z
      have := valK_map (v := v) hx fun a ha b hb => inj a (by simp [ha]) b (by simp [hb])
      simp only [valK, List.map_cons, List.find?_cons] at this ⊢
      rw [show decide (key a = key x) = false from decide_eq_false e]
      exact this
theorem dcompT_map {α : Type} {gd : D → EnvM → Option EnvM} {ft fk fe : EF} {env0 : EnvM} {enc v : α → D} {kd : α → List D} {key : α → List Key} {M : List D} : ∀ {xs : List α} {acc : List (List Key × D)}, acc.length + xs.length ≤ sizeLine →
    (∀ x ∈ xs, ∃ env1, gd (enc x) env0 = some env1 ∧ ft env1 M = .ok (.bl true) M ∧ fk env1 M = .ok (.tup (kd x)) M ∧ keysD (kd x) = some (key x) ∧ fe env1 M = .ok (v x) M) → (xs.map key).Nodup → (∀ x ∈ xs, ∀ p ∈ acc, p.1 ≠ key x) →
    dcompT gd ft fk fe env0 (xs.map enc) acc M = .ok (.dT (acc ++ xs.map fun x => (key x, v x))) M
  | [], acc, _, _, _, _ => by simp [dcompT]
  | x :: xs, acc, hl, h, hn, ha => by
    obtain ⟨env1, h1, h2, h3, h4, h5⟩ := h x (by simp)
    simp at hl
    rw [List.map_cons, List.nodup_cons] at hn
    have nk : insK acc (key x) (v x) = acc ++ [(key x, v x)] := by
      unfold insK
      rw [if_neg]
      intro z
      obtain ⟨p, hp, e⟩ := List.any_eq_true.mp z
      exact ha x (by simp) p hp (of_decide_eq_true e)
    rw [List.map_cons]
    unfold dcompT
    rw [h1]
    dsimp only
    rw [h2]
    dsimp only
    rw [h3]
    dsimp only
    rw [h4]
    dsimp only
    rw [h5]
    dsimp only
    rw [if_pos (by omega), nk, dcompT_map (by simp; omega) (fun y hy => h y (by simp [hy])) hn.2 fun y hy p hp => ?_]
    · simp
    · rcases List.mem_append.mp hp with z | z
      · exact ha y (by simp [hy]) p z
      · simp at z
        subst z
        intro e
        exact hn.1 (List.mem_map.mpr ⟨y, hy, e.symm⟩)
end MP
namespace HP
open MP PySem L2
abbrev hD (i j : Nat) : D := .tup [.int i, .int j]
abbrev hDp (h : Nat × Nat) : D := hD h.1 h.2
abbrev hK (i j : Nat) : List Key := [.inl (i : Int), .inl (j : Int)]
abbrev hKp (h : Nat × Nat) : List Key := hK h.1 h.2
def tab (n : Nat) (f : Nat → Nat → D) : List (List Key × D) := (hauls n).map fun h => (hKp h, f h.1 h.2)
abbrev tabD (n : Nat) (f : Nat → Nat → D) : D := .dT (tab n f)
def od : Option Int → D
  | none => .non
  | some v => .int v
@[simp] theorem od_none : od none = .non := rfl
@[simp] theorem od_some {v} : od (some v) = .int v := rfl
theorem hK_inj {a b : Nat × Nat} (h : hKp a = hKp b) : a = b := by
  obtain ⟨a1, a2⟩ := a
  obtain ⟨b1, b2⟩ := b
  simp at h
  exact Prod.ext (by show a1 = b1; omega) (by show a2 = b2; omega)
@[simp] theorem keysD_h {i j : Int} : keysD [.int i, .int j] = some [.inl i, .inl j] := rfl
theorem val_tab {n i j : Nat} {f : Nat → Nat → D} (h : At n i j) : valK (tab n f) (hK i j) = some (f i j) :=
  valK_map (key := hKp) (v := fun h => f h.1 h.2) (x := (i, j)) (mem_hauls.mpr h) fun _ _ _ _ => hK_inj
theorem ix_tab {n i j : Nat} {f : Nat → Nat → D} {M : List D} (h : At n i j) : oIx (tabD n f) (.tup [.int i, .int j]) M = .ok (f i j) M := by
  show (match keysD [D.int i, D.int j] with | some k => (match valK (tab n f) k with | some d => R.ok d M | none => .stuck) | none => .stuck) = _
  rw [keysD_h]
  dsimp only
  have := val_tab (f := f) h
  rw [this]
theorem ins_map {κ α : Type} [DecidableEq κ] {key : α → κ} {v : α → D} {xs : List α} {x : α} {y : D} (h : x ∈ xs) (inj : ∀ a ∈ xs, ∀ b ∈ xs, key a = key b → a = b) : insK (xs.map fun a => (key a, v a)) (key x) y = xs.map fun a => (key a, if key a = key x then y else v a) := by
  unfold insK
  rw [if_pos (List.any_eq_true.mpr ⟨(key x, v x), List.mem_map.mpr ⟨x, h, rfl⟩, by simp⟩), List.map_map]
  refine List.map_congr_left fun a _ => ?_
  show (if key a = key x then (key a, y) else (key a, v a)) = _
  split <;> rfl
def upD (f : Nat → Nat → D) (i j : Nat) (v : D) : Nat → Nat → D := fun a b => if a = i ∧ b = j then v else f a b
theorem ins_tab {n i j : Nat} {f : Nat → Nat → D} {v : D} (h : At n i j) : insK (tab n f) (hK i j) v = tab n (upD f i j v) := by
  have := ins_map (key := hKp) (v := fun h => f h.1 h.2) (y := v) (x := (i, j)) (mem_hauls.mpr h) fun _ _ _ _ => hK_inj
  refine this.trans (List.map_congr_left fun a _ => ?_)
  obtain ⟨p, q⟩ := a
  show _ = (hKp (p, q), upD f i j v p q)
  unfold upD
  by_cases e : p = i ∧ q = j
  · rw [if_pos e, if_pos (by rw [e.1, e.2])]
  · rw [if_neg e, if_neg (fun z => e (by have := hK_inj (a := (p, q)) (b := (i, j)) z; simpa using this))]
theorem tab_congr {n : Nat} {f g : Nat → Nat → D} (h : ∀ i j, At n i j → f i j = g i j) : tab n f = tab n g :=
  List.map_congr_left fun a ha => by
    show (hKp a, f a.1 a.2) = (hKp a, g a.1 a.2)
    rw [h a.1 a.2 (hauls_lt ha)]
theorem tab_len {n : Nat} {f : Nat → Nat → D} : (tab n f).length = (hauls n).length := by simp [tab]
theorem keys_tab {n : Nat} {f : Nat → Nat → D} : keysT (tab n f) = (hauls n).map hDp := by
  unfold keysT tab
  rw [List.map_map]
  rfl
theorem items_tab {n : Nat} {f : Nat → Nat → D} : itemsT (tab n f) = (hauls n).map fun h => .tup [hDp h, f h.1 h.2] := by
  unfold itemsT tab
  rw [List.map_map]
  rfl
theorem hKs_nodup (n : Nat) : ((hauls n).map hKp).Nodup := List.Pairwise.map _ (fun _ _ ne e => ne (hK_inj e)) (hauls_nodup n)
theorem len_le {n : Nat} (h : n ≤ 10) {k : Nat} (hk : 45 ≤ k) : (hauls n).length ≤ k := Nat.le_trans (hauls_len n h) hk
theorem hash_tab {n : Nat} {f : Nat → Nat → D} (h : n ≤ 10) : hashOk ((tab n f).map (·.1)) = true := by
  have e : (tab n f).map (·.1) = (hauls n).map hKp := by unfold tab; rw [List.map_map]; rfl
  rw [e]
  match n, h with
  | 0, _ | 1, _ | 2, _ | 3, _ | 4, _ | 5, _ | 6, _ | 7, _ | 8, _ | 9, _ | 10, _ => decide +kernel
/-- a table, filled haul by haul -/
theorem ins_new {n : Nat} {f : Nat → Nat → D} {pre post : List (Nat × Nat)} {x : Nat × Nat} {v : D} (e : hauls n = pre ++ x :: post) : insK (pre.map fun h => (hKp h, f h.1 h.2)) (hKp x) v = (pre.map fun h => (hKp h, f h.1 h.2)) ++ [(hKp x, v)] := by
  unfold insK
  rw [if_neg]
  intro z
  obtain ⟨p, hp, q⟩ := List.any_eq_true.mp z
  obtain ⟨a, ha, rfl⟩ := List.mem_map.mp hp
  have hh : a = x := hK_inj (of_decide_eq_true q)
  subst hh
  have nd := hauls_nodup n
  rw [e, List.nodup_append] at nd
  exact nd.2.2 a ha a (by simp) rfl
theorem sz45 {k : Nat} (h : k ≤ 1000) : k ≤ sizeLine := Nat.le_trans h (by decide)
end HP

set_option maxRecDepth 100000
set_option maxHeartbeats 1000000
namespace HP
open MP PySem L2
/-! ### plain data: repr and == -/
def sOk (s : Str) : Bool := s.cps.all (· < 0x110000)
def pl : Nat → D → Bool
  | _, .non => true
  | _, .bl _ => true
  | _, .int i => decide (i.natAbs.log2 < 1920)
  | _, .str s => sOk s
  | k + 1, .tup xs => xs.all (pl k)
  | k + 1, .lst xs => xs.all (pl k)
  | _, _ => false
def wt : Nat → D → Nat
  | _, .int _ => 1921
  | _, .str s => (reprText s).length
  | k + 1, .tup xs => (xs.map (wt k)).sum + 2 * xs.length + 3
  | k + 1, .lst xs => (xs.map (wt k)).sum + 2 * xs.length + 3
  | _, _ => 5
theorem pl_all {k : Nat} (ih : ∀ d, pl k d = true → ∃ p, toPy d = some p ∧ d.pd = some p ∧ p.canLay0 = true ∧ p.depth ≤ k ∧ p.showable = true ∧ p.hasDict = false ∧ rsz p ≤ wt k d) :
    ∀ xs : List D, xs.all (pl k) = true → ∃ ps, toPyL xs = some ps ∧ D.pdL xs = some ps ∧ PyData.canLayAll0 ps = true ∧ PyData.depthAll ps ≤ k ∧ PyData.showableAll ps = true ∧ PyData.hasDictAll ps = false ∧ rszL ps ≤ (xs.map (wt k)).sum ∧ ps.length = xs.length
  | [], _ => ⟨[], rfl, rfl, rfl, Nat.zero_le _, rfl, rfl, Nat.le_refl _, rfl⟩
  | x :: xs, h => by
    rw [List.all_cons, Bool.and_eq_true] at h
    obtain ⟨p, a1, a2, a3, a4, a5, a6, a7⟩ := ih x h.1
    obtain ⟨ps, b1, b2, b3, b4, b5, b6, b7, b8⟩ := pl_all ih xs h.2
    refine ⟨p :: ps, by simp only [toPyL, a1, b1], by simp only [D.pdL, a2, b2], by simp only [PyData.canLayAll0, a3, b3]; rfl, ?_, by simp only [PyData.showableAll, a5, b5]; rfl, by simp only [PyData.hasDictAll, a6, b6]; rfl, ?_, by simp [b8]⟩
    · simp only [PyData.depthAll]; exact Nat.max_le.mpr ⟨a4, b4⟩
    · simp only [rszL, List.map_cons, List.sum_cons]; omega
theorem pl_ok : ∀ (k : Nat) (d : D), pl k d = true → ∃ p, toPy d = some p ∧ d.pd = some p ∧ p.canLay0 = true ∧ p.depth ≤ k ∧ p.showable = true ∧ p.hasDict = false ∧ rsz p ≤ wt k d
  | k, .non, _ => ⟨.none, rfl, rfl, rfl, Nat.zero_le _, rfl, rfl, by cases k <;> simp [rsz, wt]⟩
  | k, .bl b, _ => ⟨.bool b, rfl, rfl, rfl, Nat.zero_le _, rfl, rfl, by cases k <;> simp [rsz, wt]⟩
  | k, .int i, h => ⟨.int i, rfl, rfl, rfl, Nat.zero_le _, by cases k <;> (simp only [pl] at h; simp only [PyData.showable]; exact h), rfl, by cases k <;> simp [rsz, wt]⟩
  | k, .str s, h => ⟨.str s, rfl, rfl, by cases k <;> (simp only [pl] at h; simp only [PyData.canLay0]; exact h), Nat.zero_le _, rfl, rfl, by cases k <;> simp [rsz, wt]⟩
  | 0, .tup xs, h => by simp [pl] at h
  | 0, .lst xs, h => by simp [pl] at h
  | k + 1, .tup xs, h => by
    simp only [pl] at h
    obtain ⟨ps, b1, b2, b3, b4, b5, b6, b7, b8⟩ := pl_all (pl_ok k) xs h
    exact ⟨.tuple ps, by simp only [toPy, b1], by simp only [D.pd, b2]; rfl, by simp only [PyData.canLay0]; exact b3, by simp only [PyData.depth]; omega, by simp only [PyData.showable]; exact b5, by simp only [PyData.hasDict]; exact b6, by simp only [rsz, wt]; omega⟩
  | k + 1, .lst xs, h => by
    simp only [pl] at h
    obtain ⟨ps, b1, b2, b3, b4, b5, b6, b7, b8⟩ := pl_all (pl_ok k) xs h
    exact ⟨.list ps, by simp only [toPy, b1], by simp only [D.pd, b2]; rfl, by simp only [PyData.canLay0]; exact b3, by simp only [PyData.depth]; omega, by simp only [PyData.showable]; exact b5, by simp only [PyData.hasDict]; exact b6, by simp only [rsz, wt]; omega⟩
  | 0, .ktp _, h => by simp [pl] at h
  | _ + 1, .ktp _, h => by simp [pl] at h
  | 0, .dK _, h => by simp [pl] at h
  | _ + 1, .dK _, h => by simp [pl] at h
  | 0, .dT _, h => by simp [pl] at h
  | _ + 1, .dT _, h => by simp [pl] at h
  | 0, .ins _ _, h => by simp [pl] at h
  | _ + 1, .ins _ _, h => by simp [pl] at h
  | 0, .cel _, h => by simp [pl] at h
  | _ + 1, .cel _, h => by simp [pl] at h
  | 0, .scr _, h => by simp [pl] at h
  | _ + 1, .scr _, h => by simp [pl] at h
theorem repr_ok {k : Nat} {d : D} (h : pl k d = true) (hk : k ≤ 60) (hr : isRef d = true) (hw : wt k d ≤ 10000000) : ∃ s, ∀ M, bRepr [d] M = .ok (.str s) M := by
  obtain ⟨p, a1, _, _, a4, a5, a6, a7⟩ := pl_ok k d h
  refine ⟨p.shown, fun M => ?_⟩
  have sz : rsz p ≤ sizeLine := Nat.le_trans (Nat.le_trans a7 hw) (by decide)
  have ro : rOk p = true := by
    unfold rOk
    rw [a5, a6, decide_eq_true (Nat.le_trans a4 hk), decide_eq_true sz]; rfl
  have vw : view M d = d := by cases d <;> first | rfl | cases hr
  show (if isRef (view M d) = true then (match toPy (view M d) with | some p => if rOk p = true then R.ok (.str p.shown) M else .stuck | none => .stuck) else .stuck) = _
  rw [vw, if_pos hr, a1]
  dsimp only
  rw [if_pos ro]
/-- the same without bools: == is equality -/
def nb : Nat → D → Bool
  | _, .bl _ => false
  | k + 1, .tup xs => xs.all (nb k)
  | k + 1, .lst xs => xs.all (nb k)
  | _, _ => true
theorem eqv_ok : ∀ (k : Nat) {d e : D} {p q : PyData}, pl k d = true → pl k e = true → nb k d = true → nb k e = true → d.pd = some p → e.pd = some q → (PyData.eqv p q = true ↔ d = e) := by
  intro k
  induction k with
  | zero =>
    intro d e p q h1 h2 h3 h4 h5 h6
    cases d <;> simp [pl, nb] at h1 h3 <;> cases e <;> simp [pl, nb] at h2 h4 <;> simp [D.pd] at h5 h6 <;> subst h5 h6 <;> simp [PyData.eqv]
  | succ k ih =>
    have lists : ∀ (xs ys : List D) (ps qs : List PyData), xs.all (pl k) = true → ys.all (pl k) = true → xs.all (nb k) = true → ys.all (nb k) = true → D.pdL xs = some ps → D.pdL ys = some qs → (PyData.eqvAll ps qs = true ↔ xs = ys) := by
      intro xs
      induction xs with
      | nil =>
        intro ys ps qs _ _ _ _ h5 h6
        simp [D.pdL] at h5
        subst h5
        cases ys with
        | nil => simp [D.pdL] at h6; subst h6; simp [PyData.eqvAll]
        | cons y ys =>
          simp only [D.pdL] at h6
          split at h6
          · cases h6; simp [PyData.eqvAll]
          · cases h6
      | cons x xs ih2 =>
        intro ys ps qs h1 h2 h3 h4 h5 h6
        rw [List.all_cons, Bool.and_eq_true] at h1 h3
        simp only [D.pdL] at h5
        split at h5
        · rename_i p ps' e1 e2
          cases h5
          cases ys with
          | nil => simp [D.pdL] at h6; subst h6; simp [PyData.eqvAll]
          | cons y ys =>
            rw [List.all_cons, Bool.and_eq_true] at h2 h4
            simp only [D.pdL] at h6
            split at h6
            · rename_i q qs' e3 e4
              cases h6
              simp only [PyData.eqvAll, Bool.and_eq_true, ih h1.1 h2.1 h3.1 h4.1 e1 e3, ih2 ys ps' qs' h1.2 h2.2 h3.2 h4.2 e2 e4, List.cons.injEq]
            · cases h6
        · cases h5
    intro d e p q h1 h2 h3 h4 h5 h6
    cases d with
    | tup xs =>
      simp only [pl, nb] at h1 h3
      simp only [D.pd] at h5
      cases q1 : D.pdL xs with
      | none => rw [q1] at h5; cases h5
      | some ps =>
        rw [q1] at h5; cases h5
        cases e with
        | tup ys =>
          simp only [pl, nb] at h2 h4
          simp only [D.pd] at h6
          cases q2 : D.pdL ys with
          | none => rw [q2] at h6; cases h6
          | some qs => rw [q2] at h6; cases h6; simp only [PyData.eqv, lists xs ys ps qs h1 h2 h3 h4 q1 q2, D.tup.injEq]
        | lst ys =>
          simp only [D.pd] at h6
          cases q2 : D.pdL ys with
          | none => rw [q2] at h6; cases h6
          | some qs => rw [q2] at h6; cases h6; simp [PyData.eqv]
        | _ => first | (simp [pl, nb] at h2 h4; done) | (simp [D.pd] at h6; subst h6; simp [PyData.eqv]) | simp [nb] at h4
    | lst xs =>
      simp only [pl, nb] at h1 h3
      simp only [D.pd] at h5
      cases q1 : D.pdL xs with
      | none => rw [q1] at h5; cases h5
      | some ps =>
        rw [q1] at h5; cases h5
        cases e with
        | lst ys =>
          simp only [pl, nb] at h2 h4
          simp only [D.pd] at h6
          cases q2 : D.pdL ys with
          | none => rw [q2] at h6; cases h6
          | some qs => rw [q2] at h6; cases h6; simp only [PyData.eqv, lists xs ys ps qs h1 h2 h3 h4 q1 q2, D.lst.injEq]
        | tup ys =>
          simp only [D.pd] at h6
          cases q2 : D.pdL ys with
          | none => rw [q2] at h6; cases h6
          | some qs => rw [q2] at h6; cases h6; simp [PyData.eqv]
        | _ => first | (simp [pl, nb] at h2 h4; done) | (simp [D.pd] at h6; subst h6; simp [PyData.eqv]) | simp [nb] at h4
    | bl b => simp [nb] at h3
    | ktp _ => simp [pl] at h1
    | dK _ => simp [pl] at h1
    | dT _ => simp [pl] at h1
    | ins _ _ => simp [pl] at h1
    | cel _ => simp [pl] at h1
    | scr _ => simp [pl] at h1
    | non =>
      simp [D.pd] at h5
      subst h5
      cases e with
      | tup ys => simp only [D.pd] at h6; cases q2 : D.pdL ys <;> rw [q2] at h6 <;> cases h6; simp [PyData.eqv]
      | lst ys => simp only [D.pd] at h6; cases q2 : D.pdL ys <;> rw [q2] at h6 <;> cases h6; simp [PyData.eqv]
      | _ => first | (simp [pl, nb] at h2 h4; done) | (simp [D.pd] at h6; subst h6; simp [PyData.eqv]) | simp [nb] at h4
    | int i =>
      simp [D.pd] at h5
      subst h5
      cases e with
      | tup ys => simp only [D.pd] at h6; cases q2 : D.pdL ys <;> rw [q2] at h6 <;> cases h6; simp [PyData.eqv]
      | lst ys => simp only [D.pd] at h6; cases q2 : D.pdL ys <;> rw [q2] at h6 <;> cases h6; simp [PyData.eqv]
      | _ => first | (simp [pl, nb] at h2 h4; done) | (simp [D.pd] at h6; subst h6; simp [PyData.eqv]) | simp [nb] at h4
    | str s =>
      simp [D.pd] at h5
      subst h5
      cases e with
      | tup ys => simp only [D.pd] at h6; cases q2 : D.pdL ys <;> rw [q2] at h6 <;> cases h6; simp [PyData.eqv]
      | lst ys => simp only [D.pd] at h6; cases q2 : D.pdL ys <;> rw [q2] at h6 <;> cases h6; simp [PyData.eqv]
      | _ => first | (simp [pl, nb] at h2 h4; done) | (simp [D.pd] at h6; subst h6; simp [PyData.eqv]) | simp [nb] at h4
end HP

set_option maxRecDepth 100000
set_option maxHeartbeats 1000000
namespace HP
open MP
open PySem PySem.Spec PyProof.Rows L2
def N__law_dip : List Str := [("_law_jar_here" : Str), ("_law_many" : Str), ("_law_digit" : Str), ("_law_seed" : Str)]
def b__law_dip : SF := (bSeq (bSub 0 (eC (.int 2)) (e2 oAdd (e2 oIx (eVB 0) (eC (.int 2))) (eC (.int 1)))) (bSeq (bIf (e2 oGt (e2 oIx (eVB 0) (eC (.int 0))) (eC (.int 0))) (bSeq (bSet 2 (e2 oMod (eCall bInt (lCons (e2 oIx (eVB 0) (eC (.int 0))) lNil)) (eVB 1))) (bSeq (bSub 0 (eC (.int 0)) (e2 oDiv (eCall bInt (lCons (e2 oIx (eVB 0) (eC (.int 0))) lNil)) (eVB 1))) (bRet (eV 2)))) bNext) (bSeq (bSet 3 (eCall bInt (lCons (e2 oIx (eVB 0) (eC (.int 1))) lNil))) (bSeq (bSub 0 (eC (.int 1)) (e2 oMod (eCall bInt (lCons (e2 oAdd (e2 oAdd (e2 oMul (eVB 3) (eC (.int 48271))) (e2 oMul (e2 oIx (eVB 0) (eC (.int 2))) (eC (.int 40503)))) (eC (.int 17))) lNil)) (eC (.int 2147483629)))) (bRet (e2 oMod (eCall bInt (lCons (e2 oDiv (e2 oIx (eVB 0) (eC (.int 1))) (eC (.int 4096))) lNil)) (eVB 1)))))))
def c__law_dip (ds M : List D) : R := endE (b__law_dip (env0 N__law_dip.length ds) M)
def N__law_pick : List Str := [("_law_jar_here" : Str), ("_law_menu" : Str), ("_law_at" : Str)]
def b__law_pick : SF := (bSeq (bSet 2 (eCall (apC c__law_dip 2 []) (lCons (eV 0) (lCons (eCall bLen (lCons (eVB 1) lNil)) lNil)))) (bRet (e2 oIx (eVB 1) (eVB 2))))
def c__law_pick (ds M : List D) : R := endE (b__law_pick (env0 N__law_pick.length ds) M)
def N__law_word : List Str := [("_law_jar_here" : Str)]
def b__law_word : SF := (bRet (eCall (apC c__law_pick 2 []) (lCons (eV 0) (lCons (eLst (lCons (eC (.str "both")) (lCons (eC (.str "both")) (lCons (eC (.str "long")) (lCons (eC (.str "parts")) lNil))))) lNil))))
def c__law_word (ds M : List D) : R := endE (b__law_word (env0 N__law_word.length ds) M)
def N__law_rides : List Str := [("_law_many" : Str), ("_law_found" : Str), ("_law_begin" : Str), ("_law_end" : Str)]
def b__law_rides_1 : EF := (eTup (lCons (eV 2) (lCons (eV 3) lNil)))
def b__law_rides_2 : SF := (bSet 1 (e2 oAdd (eVB 1) (eComp (iRng2 (e2 oAdd (eVB 2) (eC (.int 1))) (eV 0)) (gN 3) (eC (.bl true)) b__law_rides_1 [3])))
def b__law_rides : SF := (bSeq (bSet 1 (eLst lNil)) (bSeq (bFor (iRng1 (e2 oSub (eVB 0) (eC (.int 1)))) (gN 2) b__law_rides_2) (bRet (eV 1))))
def c__law_rides (ds M : List D) : R := endE (b__law_rides (env0 N__law_rides.length ds) M)
def N__law_spans : List Str := [("_law_jar_here" : Str), ("_law_many" : Str), ("_law_most" : Str), ("_law_found" : Str), ("_law_ride" : Str), ("_law_low" : Str), ("_law_high" : Str)]
def b__law_spans_1 : SF := (bIf (e2 oGt (eCall (apC c__law_dip 2 []) (lCons (eV 0) (lCons (eC (.int 3)) lNil))) (eC (.int 0))) (bSeq (bSet 5 (eIf (e2 oEq (eCall (apC c__law_dip 2 []) (lCons (eV 0) (lCons (eC (.int 2)) lNil))) (eC (.int 0))) (eCall (apC c__law_dip 2 []) (lCons (eV 0) (lCons (e2 oAdd (eVB 2) (eC (.int 1))) lNil))) (eC (.int 0)))) (bSeq (bSet 6 (eIf (e2 oEq (eCall (apC c__law_dip 2 []) (lCons (eV 0) (lCons (eC (.int 3)) lNil))) (eC (.int 0))) (eC .non) (e2 oAdd (eVB 5) (eCall (apC c__law_dip 2 []) (lCons (eV 0) (lCons (e2 oAdd (eVB 2) (eC (.int 1))) lNil)))))) (bApp 3 (eTup (lCons (eV 4) (lCons (eV 5) (lCons (eV 6) lNil))))))) bNext)
def b__law_spans : SF := (bSeq (bOwn 3 (eLst lNil)) (bSeq (bFor (iSeq (eCall (apC c__law_rides 1 []) (lCons (eV 1) lNil))) (gN 4) b__law_spans_1) (bRet (eCall bTup (lCons (eVB 3) lNil)))))
def c__law_spans (ds M : List D) : R := endE (b__law_spans (env0 N__law_spans.length ds) M)
def N__law_lows : List Str := [("_law_many" : Str), ("_law_spans_here" : Str), ("_law_low" : Str), ("_law_high" : Str), ("_law_ride" : Str), ("_law_least" : Str), ("_law_greatest" : Str)]
def b__law_lows_1 : SF := (bSubT 2 3 (eV 4) (eV 4) (eTup (lCons (eC (.int 0)) (lCons (eC .non) lNil))))
def b__law_lows_2 : SF := (bSubT 2 3 (eV 4) (eV 4) (eTup (lCons (eV 5) (lCons (eV 6) lNil))))
def b__law_lows : SF := (bSeq (bParOO 2 3 (eNew (.dT [])) (eNew (.dT []))) (bSeq (bFor (iSeq (eCall (apC c__law_rides 1 []) (lCons (eV 0) lNil))) (gN 4) b__law_lows_1) (bSeq (bFor (iSeq (eV 1)) (gT [4, 5, 6]) b__law_lows_2) (bSeq (bShare 2) (bSeq (bShare 3) (bRet (eTup (lCons (eV 2) (lCons (eV 3) lNil)))))))))
def c__law_lows (ds M : List D) : R := endE (b__law_lows (env0 N__law_lows.length ds) M)
def N_is_integer : List Str := [("value" : Str)]
def b_is_integer : SF := (bRet (eAnd (e1 (oIsi (isT "int" [])) (eVB 0)) (eNot (e1 (oIsi (isT "bool" [])) (eVB 0)))))
def c_is_integer (ds M : List D) : R := endE (b_is_integer (env0 N_is_integer.length ds) M)
def N_is_within : List Str := [("value" : Str), ("low" : Str), ("high" : Str)]
def b_is_within : SF := (bRet (eAnd (eCall (apC c_is_integer 1 []) (lCons (eV 0) lNil)) (eChain oLe oLe (eVB 1) (eVB 0) (eVB 2))))
def c_is_within (ds M : List D) : R := endE (b_is_within (env0 N_is_within.length ds) M)
def N_check_stops : List Str := [("stops" : Str)]
def b_check_stops : SF := (bIf (eNot (eCall (apC c_is_within 3 []) (lCons (eV 0) (lCons (eC (.int 2)) (lCons (eC (.int 10)) lNil))))) bStuck bNext)
def c_check_stops (ds M : List D) : R := endE (b_check_stops (env0 N_check_stops.length ds) M)
def N_is_haul : List Str := [("value" : Str), ("stops" : Str), ("stop" : Str)]
def b_is_haul_1 : EF := (eCall (apC c_is_integer 1 []) (lCons (eV 2) lNil))
def b_is_haul : SF := (bSeq (bIf (eOr (eNot (e1 (oIsi (isT "tuple" [])) (eVB 0))) (eOr (e2 oNe (eCall bLen (lCons (eVB 0) lNil)) (eC (.int 2))) (eNot (eCall bAll (lCons (eComp (iSeq (eV 0)) (gN 2) (eC (.bl true)) b_is_haul_1 [2]) lNil))))) (bRet (eC (.bl false))) bNext) (bRet (eChain3 oLe oLt oLt (eC (.int 0)) (e2 oIx (eVB 0) (eC (.int 0))) (e2 oIx (eVB 0) (eC (.int 1))) (eVB 1))))
def c_is_haul (ds M : List D) : R := endE (b_is_haul (env0 N_is_haul.length ds) M)
def N_is_price : List Str := [("value" : Str)]
def b_is_price : SF := (bRet (eCall (apC c_is_within 3 []) (lCons (eV 0) (lCons (eC (.int 0)) (lCons (eC (.int 1000000000000)) lNil)))))
def c_is_price (ds M : List D) : R := endE (b_is_price (env0 N_is_price.length ds) M)
def N_is_range : List Str := [("value" : Str), ("stops" : Str)]
def b_is_range : SF := (bSeq (bIf (eOr (eNot (e1 (oIsi (isT "tuple" [])) (eVB 0))) (eOr (e2 oNe (eCall bLen (lCons (eVB 0) lNil)) (eC (.int 3))) (eOr (eNot (eCall (apC c_is_haul 2 []) (lCons (e2 oIx (eVB 0) (eC (.int 0))) (lCons (eV 1) lNil)))) (eNot (eCall (apC c_is_price 1 []) (lCons (e2 oIx (eVB 0) (eC (.int 1))) lNil)))))) (bRet (eC (.bl false))) bNext) (bRet (eOr (e2 oIs (e2 oIx (eVB 0) (eC (.int 2))) (eC .non)) (eAnd (eCall (apC c_is_price 1 []) (lCons (e2 oIx (eVB 0) (eC (.int 2))) lNil)) (e2 oLe (e2 oIx (eVB 0) (eC (.int 1))) (e2 oIx (eVB 0) (eC (.int 2))))))))
def c_is_range (ds M : List D) : R := endE (b_is_range (env0 N_is_range.length ds) M)
def N_Bounds___init__ : List Str := [("self" : Str), ("stops" : Str), ("ranges" : Str), ("index" : Str), ("one" : Str)]
def b_Bounds___init___1 : SF := (bIf (eOr (eNot (eCall (apC c_is_range 2 []) (lCons (eV 4) (lCons (eV 1) lNil)))) (eAnd (e2 oGt (eVB 3) (eC (.int 0))) (e2 oGeT (e2 oIx (e2 oIx (eVB 2) (e2 oSub (eVB 3) (eC (.int 1)))) (eC (.int 0))) (e2 oIx (eVB 4) (eC (.int 0)))))) bStuck bNext)
def b_Bounds___init__ : SF := (bSeq (bExpr (eCall (apC c_check_stops 1 []) (lCons (eV 1) lNil))) (bSeq (bIf (eNot (e1 (oIsi (isT "tuple" [])) (eVB 2))) bStuck bNext) (bSeq (bFor (iEnu (eV 2)) (gT [3, 4]) b_Bounds___init___1) (bFld 0 "Bounds" "all" (eTup (lCons (eV 1) (lCons (eV 2) lNil)))))))
def c_Bounds___init__ (ds M : List D) : R := endI (b_Bounds___init__ (env0I N_Bounds___init__.length "Bounds" ds) M)
def N__law_inner : List Str := [("_law_ride" : Str), ("_law_around" : Str)]
def b__law_inner : SF := (bRet (eAnd (e2 oLe (e2 oIx (eVB 1) (eC (.int 0))) (e2 oIx (eVB 0) (eC (.int 0)))) (e2 oLe (e2 oIx (eVB 0) (eC (.int 1))) (e2 oIx (eVB 1) (eC (.int 1))))))
def c__law_inner (ds M : List D) : R := endE (b__law_inner (env0 N__law_inner.length ds) M)
def N__law_less : List Str := [("_law_cost" : Str), ("_law_more" : Str)]
def b__law_less : SF := (bSeq (bIf (eOr (e2 oIs (eVB 0) (eC .non)) (e2 oIs (eVB 1) (eC .non))) (bRet (eIf (e2 oIs (eVB 0) (eC .non)) (eV 1) (eV 0))) bNext) (bRet (eCall bMin (lCons (eVB 0) (lCons (eVB 1) lNil)))))
def c__law_less (ds M : List D) : R := endE (b__law_less (env0 N__law_less.length ds) M)
def N__law_pass : List Str := [("_law_many" : Str), ("_law_found" : Str), ("_law_word_here" : Str), ("_law_rides_here" : Str), ("_law_later" : Str), ("_law_ride" : Str), ("_law_around" : Str), ("_law_middle" : Str), ("_law_ahead" : Str), ("_law_behind" : Str)]
def b__law_pass_1 : SF := (bIf (eCall (apC c__law_inner 2 []) (lCons (eV 5) (lCons (eV 6) lNil))) (bSub 4 (eV 5) (eCall (apC c__law_less 2 []) (lCons (e2 oIx (eVB 4) (eVB 5)) (lCons (e2 oIx (eVB 4) (eVB 6)) lNil)))) bNext)
def b__law_pass_2 : SF := (bSeq (bPar 8 9 (e2 oIx (eVB 4) (eTup (lCons (e2 oIx (eVB 5) (eC (.int 0))) (lCons (eV 7) lNil)))) (e2 oIx (eVB 4) (eTup (lCons (eV 7) (lCons (e2 oIx (eVB 5) (eC (.int 1))) lNil))))) (bIf (eAnd (e2 oIsnt (eVB 8) (eC .non)) (e2 oIsnt (eVB 9) (eC .non))) (bSub 4 (eV 5) (eCall (apC c__law_less 2 []) (lCons (e2 oIx (eVB 4) (eVB 5)) (lCons (e2 oAdd (eVB 8) (eVB 9)) lNil)))) bNext))
def b__law_pass_3 : SF := (bSeq (bIf (e2 oNe (eVB 2) (eC (.str "parts"))) (bFor (iSeq (eV 3)) (gN 6) b__law_pass_1) bNext) (bIf (e2 oNe (eVB 2) (eC (.str "long"))) (bFor (iRng2 (e2 oAdd (e2 oIx (eVB 5) (eC (.int 0))) (eC (.int 1))) (e2 oIx (eVB 5) (eC (.int 1)))) (gN 7) b__law_pass_2) bNext))
def b__law_pass : SF := (bSeq (bParO 3 4 (eCall (apC c__law_rides 1 []) (lCons (eV 0) lNil)) (eCall bDictT (lCons (eVB 1) lNil))) (bSeq (bFor (iSeq (eV 3)) (gN 5) b__law_pass_3) (bSeq (bShare 4) (bRet (eV 4)))))
def c__law_pass (ds M : List D) : R := endE (b__law_pass (env0 N__law_pass.length ds) M)
def N__law_settled : List Str := [("_law_many" : Str), ("_law_table" : Str), ("_law_word_here" : Str), ("_law_found" : Str), ("_law_lap" : Str), ("_law_later" : Str)]
def b__law_settled_1 : SF := (bSeq (bSet 5 (eCall (apC c__law_pass 3 []) (lCons (eV 0) (lCons (eV 3) (lCons (eV 2) lNil))))) (bSeq (bIf (e2 oEqT (eVB 5) (eVB 3)) (bRet (eV 3)) bNext) (bSet 3 (eV 5))))
def b__law_settled : SF := (bSeq (bSet 3 (eV 1)) (bSeq (bFor (iRng1 (e2 oMul (e2 oMul (eC (.int 4)) (eVB 0)) (eVB 0))) (gN 4) b__law_settled_1) (bRet (eV 3))))
def c__law_settled (ds M : List D) : R := endE (b__law_settled (env0 N__law_settled.length ds) M)
def N_check_bounds : List Str := [("value" : Str)]
def b_check_bounds : SF := (bIf (eNot (e1 (oIsi (isC "Bounds" [])) (eVB 0))) bStuck bNext)
def c_check_bounds (ds M : List D) : R := endE (b_check_bounds (env0 N_check_bounds.length ds) M)
def N_check_haul : List Str := [("haul" : Str), ("stops" : Str)]
def b_check_haul : SF := (bIf (eNot (eCall (apC c_is_haul 2 []) (lCons (eV 0) (lCons (eV 1) lNil)))) bStuck bNext)
def c_check_haul (ds M : List D) : R := endE (b_check_haul (env0 N_check_haul.length ds) M)
def N_Bounds_stops : List Str := [("self" : Str)]
def b_Bounds_stops : SF := (bRet (e2 oIx (e1 (fldR "Bounds" "all") (eVB 0)) (eC (.int 0))))
def c_Bounds_stops (ds M : List D) : R := endE (b_Bounds_stops (env0 N_Bounds_stops.length ds) M)
def N_is_rules : List Str := [("value" : Str)]
def b_is_rules : SF := (bRet (eAnd (e1 (oIsi (isT "str" [])) (eVB 0)) (e2 oIn (eVB 0) (eC (.ktp ([("both" : Str), ("long" : Str), ("parts" : Str)].map D.str))))))
def c_is_rules (ds M : List D) : R := endE (b_is_rules (env0 N_is_rules.length ds) M)
def N_check_rules : List Str := [("rules" : Str)]
def b_check_rules : SF := (bIf (eNot (eCall (apC c_is_rules 1 []) (lCons (eV 0) lNil))) bStuck bNext)
def c_check_rules (ds M : List D) : R := endE (b_check_rules (env0 N_check_rules.length ds) M)
def N_hauls_of : List Str := [("stops" : Str), ("found" : Str), ("begin" : Str), ("end" : Str)]
def b_hauls_of_1 : EF := (eTup (lCons (eV 2) (lCons (eV 3) lNil)))
def b_hauls_of_2 : SF := (bSet 1 (e2 oAdd (eVB 1) (eComp (iRng2 (e2 oAdd (eVB 2) (eC (.int 1))) (eV 0)) (gN 3) (eC (.bl true)) b_hauls_of_1 [3])))
def b_hauls_of : SF := (bSeq (bSet 1 (eLst lNil)) (bSeq (bFor (iRng1 (e2 oSub (eVB 0) (eC (.int 1)))) (gN 2) b_hauls_of_2) (bRet (eV 1))))
def c_hauls_of (ds M : List D) : R := endE (b_hauls_of (env0 N_hauls_of.length ds) M)
def N_lies_within : List Str := [("one" : Str), ("other" : Str)]
def b_lies_within : SF := (bRet (eAnd (e2 oLe (e2 oIx (eVB 1) (eC (.int 0))) (e2 oIx (eVB 0) (eC (.int 0)))) (e2 oLe (e2 oIx (eVB 0) (eC (.int 1))) (e2 oIx (eVB 1) (eC (.int 1))))))
def c_lies_within (ds M : List D) : R := endE (b_lies_within (env0 N_lies_within.length ds) M)
def N_better : List Str := [("one" : Str), ("other" : Str)]
def b_better : SF := (bSeq (bIf (eOr (e2 oIs (eVB 0) (eC .non)) (e2 oIs (eVB 1) (eC .non))) (bRet (eIf (e2 oIs (eVB 0) (eC .non)) (eV 1) (eV 0))) bNext) (bRet (eIf (e2 oLt (eTup (lCons (e2 oIx (eVB 1) (eC (.int 0))) (lCons (eCall bLen (lCons (e2 oIx (eVB 1) (eC (.int 1))) lNil)) lNil))) (eTup (lCons (e2 oIx (eVB 0) (eC (.int 0))) (lCons (eCall bLen (lCons (e2 oIx (eVB 0) (eC (.int 1))) lNil)) lNil)))) (eV 1) (eV 0))))
def c_better (ds M : List D) : R := endE (b_better (env0 N_better.length ds) M)
def N_best_of : List Str := [("ways" : Str), ("found" : Str), ("way" : Str)]
def b_best_of_1 : SF := (bSet 1 (eCall (apC c_better 2 []) (lCons (eV 1) (lCons (eV 2) lNil))))
def b_best_of : SF := (bSeq (bSet 1 (eC .non)) (bSeq (bFor (iSeq (eV 0)) (gN 2) b_best_of_1) (bRet (eV 1))))
def c_best_of (ds M : List D) : R := endE (b_best_of (env0 N_best_of.length ds) M)
def N_ways_from : List Str := [("begin" : Str), ("stops" : Str), ("greatest" : Str), ("rules" : Str), ("found" : Str), ("stop" : Str), ("way" : Str), ("haul" : Str), ("price" : Str), ("fits_on" : Str)]
def b_ways_from_1 : SF := (bSeq (bSet 9 (eIf (e2 oEq (eVB 3) (eC (.str "parts"))) (e2 oEq (e2 oIx (eVB 7) (eC (.int 0))) (eVB 5)) (eChain oLe oLt (e2 oIx (eVB 7) (eC (.int 0))) (eVB 5) (e2 oIx (eVB 7) (eC (.int 1)))))) (bIf (eAnd (e2 oIsnt (eVB 6) (eC .non)) (eAnd (e2 oIsnt (eVB 8) (eC .non)) (eV 9))) (bSub 4 (e2 oIx (eVB 7) (eC (.int 1))) (eCall (apC c_better 2 []) (lCons (eGet1 (eVB 4) (e2 oIx (eVB 7) (eC (.int 1)))) (lCons (eTup (lCons (e2 oAdd (e2 oIx (eVB 6) (eC (.int 0))) (eVB 8)) (lCons (eTup (lStar (e2 oIx (eVB 6) (eC (.int 1))) (lCons (eV 7) lNil))) lNil))) lNil)))) bNext))
def b_ways_from_2 : SF := (bSeq (bSet 6 (eGet1 (eVB 4) (eV 5))) (bFor (iItm (eV 2)) (gT [7, 8]) b_ways_from_1))
def b_ways_from : SF := (bSeq (bOwn 4 (eDisp1 (eV 0) (eTup (lCons (eC (.int 0)) (lCons (eTup lNil) lNil))))) (bSeq (bFor (iRng2 (eV 0) (eV 1)) (gN 5) b_ways_from_2) (bSeq (bShare 4) (bRet (eV 4)))))
def c_ways_from (ds M : List D) : R := endE (b_ways_from (env0 N_ways_from.length ds) M)
def N_covers_of : List Str := [("stops" : Str), ("greatest" : Str), ("rules" : Str), ("found" : Str), ("haul" : Str), ("around" : Str), ("begin" : Str), ("ways" : Str), ("end" : Str), ("other" : Str), ("way" : Str), ("stop" : Str)]
def b_covers_of_1 : EF := (eTup (lCons (e2 oIx (eVB 1) (eVB 9)) (lCons (eTup (lCons (eV 9) lNil)) lNil)))
def b_covers_of_2 : EF := (eCall (apC c_lies_within 2 []) (lCons (eV 4) (lCons (eV 9) lNil)))
def b_covers_of_3 : EF := (eV 10)
def b_covers_of_4 : EF := (e2 oIsnt (e2 oIx (eVB 10) (eC (.int 0))) (eC .non))
def b_covers_of_5 : SF := (bSeq (bOwn 5 (eComp (iSeq (eV 1)) (gN 9) b_covers_of_2 b_covers_of_1 [9])) (bSeq (bShare 5) (bSub 3 (eV 4) (eCall (apC c_best_of 1 []) (lCons (eComp (iSeq (eV 5)) (gN 10) b_covers_of_4 b_covers_of_3 [10]) lNil)))))
def b_covers_of_6 : EF := (eGet1 (eVB 7) (eV 11))
def b_covers_of_7 : SF := (bSub 3 (eTup (lCons (eV 6) (lCons (eV 8) lNil))) (eIf (e2 oEq (eVB 2) (eC (.str "parts"))) (eGet1 (eVB 7) (eV 8)) (eCall (apC c_best_of 1 []) (lCons (eComp (iRng2 (eV 8) (eV 0)) (gN 11) (eC (.bl true)) b_covers_of_6 [11]) lNil))))
def b_covers_of_8 : SF := (bSeq (bSet 7 (eCall (apC c_ways_from 4 []) (lCons (eV 6) (lCons (eV 0) (lCons (eV 1) (lCons (eV 2) lNil)))))) (bFor (iRng2 (e2 oAdd (eVB 6) (eC (.int 1))) (eV 0)) (gN 8) b_covers_of_7))
def b_covers_of : SF := (bSeq (bOwn 3 (eNew (.dT []))) (bSeq (bIf (e2 oEq (eVB 2) (eC (.str "long"))) (bSeq (bFor (iSeq (eCall (apC c_hauls_of 1 []) (lCons (eV 0) lNil))) (gN 4) b_covers_of_5) (bSeq (bShare 3) (bRet (eV 3)))) bNext) (bSeq (bFor (iRng1 (e2 oSub (eVB 0) (eC (.int 1)))) (gN 6) b_covers_of_8) (bSeq (bShare 3) (bRet (eV 3))))))
def c_covers_of (ds M : List D) : R := endE (b_covers_of (env0 N_covers_of.length ds) M)
def N_costs_of : List Str := [("covers" : Str), ("haul" : Str), ("way" : Str)]
def b_costs_of_1 : EF := (eV 1)
def b_costs_of_2 : EF := (eIf (e2 oIs (eVB 2) (eC .non)) (eC .non) (e2 oIx (eVB 2) (eC (.int 0))))
def b_costs_of : SF := (bRet (eDcT (iItm (eV 0)) (gT [1, 2]) (eC (.bl true)) b_costs_of_1 b_costs_of_2 [1, 2]))
def c_costs_of (ds M : List D) : R := endE (b_costs_of (env0 N_costs_of.length ds) M)
def N_Found___init__ : List Str := [("self" : Str), ("stops" : Str), ("least" : Str), ("greatest" : Str), ("rules" : Str)]
def b_Found___init__ : SF := (bSeq (bFld 0 "Found" "line" (eV 1)) (bSeq (bFld 0 "Found" "kind" (eV 4)) (bSeq (bFld 0 "Found" "least" (eV 2)) (bSeq (bFld 0 "Found" "covers" (eCall (apC c_covers_of 3 []) (lCons (eV 1) (lCons (eV 3) (lCons (eV 4) lNil))))) (bFld 0 "Found" "most" (eCall (apC c_costs_of 1 []) (lCons (e1 (fldR "Found" "covers") (eVB 0)) lNil)))))))
def c_Found___init__ (ds M : List D) : R := endI (b_Found___init__ (env0I N_Found___init__.length "Found" ds) M)
def N_Bounds_ranges : List Str := [("self" : Str)]
def b_Bounds_ranges : SF := (bRet (e2 oIx (e1 (fldR "Bounds" "all") (eVB 0)) (eC (.int 1))))
def c_Bounds_ranges (ds M : List D) : R := endE (b_Bounds_ranges (env0 N_Bounds_ranges.length ds) M)
def N_Bounds_leasts : List Str := [("self" : Str), ("told_here" : Str), ("haul" : Str), ("least" : Str), ("greatest" : Str)]
def b_Bounds_leasts_1 : EF := (eV 2)
def b_Bounds_leasts_2 : EF := (eV 3)
def b_Bounds_leasts_3 : EF := (eV 2)
def b_Bounds_leasts_4 : EF := (eGet2 (eVB 1) (eV 2) (eC (.int 0)))
def b_Bounds_leasts : SF := (bSeq (bSet 1 (eDcT (iSeq (e1 (propR "Bounds" c_Bounds_ranges) (eV 0))) (gT [2, 3, 4]) (eC (.bl true)) b_Bounds_leasts_1 b_Bounds_leasts_2 [2, 3, 4])) (bRet (eDcT (iSeq (eCall (apC c_hauls_of 1 []) (lCons (e1 (propR "Bounds" c_Bounds_stops) (eV 0)) lNil))) (gN 2) (eC (.bl true)) b_Bounds_leasts_3 b_Bounds_leasts_4 [2])))
def c_Bounds_leasts (ds M : List D) : R := endE (b_Bounds_leasts (env0 N_Bounds_leasts.length ds) M)
def N_Bounds_greatests : List Str := [("self" : Str), ("told_here" : Str), ("haul" : Str), ("least" : Str), ("greatest" : Str)]
def b_Bounds_greatests_1 : EF := (eV 2)
def b_Bounds_greatests_2 : EF := (eV 4)
def b_Bounds_greatests_3 : EF := (eV 2)
def b_Bounds_greatests_4 : EF := (eGet1 (eVB 1) (eV 2))
def b_Bounds_greatests : SF := (bSeq (bSet 1 (eDcT (iSeq (e1 (propR "Bounds" c_Bounds_ranges) (eV 0))) (gT [2, 3, 4]) (eC (.bl true)) b_Bounds_greatests_1 b_Bounds_greatests_2 [2, 3, 4])) (bRet (eDcT (iSeq (eCall (apC c_hauls_of 1 []) (lCons (e1 (propR "Bounds" c_Bounds_stops) (eV 0)) lNil))) (gN 2) (eC (.bl true)) b_Bounds_greatests_3 b_Bounds_greatests_4 [2])))
def c_Bounds_greatests (ds M : List D) : R := endE (b_Bounds_greatests (env0 N_Bounds_greatests.length ds) M)
def N_found_in : List Str := [("bounds" : Str), ("rules" : Str)]
def b_found_in : SF := (bRet (eCall (apC c_Found___init__ 4 []) (lCons (e1 (propR "Bounds" c_Bounds_stops) (eV 0)) (lCons (eMeth "Bounds" "leasts" c_Bounds_leasts 1 [] (eV 0) lNil) (lCons (eMeth "Bounds" "greatests" c_Bounds_greatests 1 [] (eV 0) lNil) (lCons (eV 1) lNil))))))
def c_found_in (ds M : List D) : R := endE (b_found_in (env0 N_found_in.length ds) M)
def N_cover : List Str := [("bounds" : Str), ("haul" : Str), ("rules" : Str)]
def b_cover : SF := (bSeq (bExpr (eCall (apC c_check_bounds 1 []) (lCons (eV 0) lNil))) (bSeq (bExpr (eCall (apC c_check_haul 2 []) (lCons (eV 1) (lCons (e1 (propR "Bounds" c_Bounds_stops) (eV 0)) lNil)))) (bSeq (bExpr (eCall (apC c_check_rules 1 []) (lCons (eV 2) lNil))) (bRet (e2 oIx (e1 (fldR "Found" "covers") (eCall (apC c_found_in 2 []) (lCons (eV 0) (lCons (eV 2) lNil)))) (eVB 1))))))
def c_cover (ds M : List D) : R := endE (b_cover (env0 N_cover.length ds) M)
def N__law_is_cover : List Str := [("_law_thing" : Str), ("_law_ride" : Str), ("_law_word_here" : Str), ("_law_at" : Str), ("_law_k" : Str), ("_law_begin" : Str), ("_law_end" : Str)]
def b__law_is_cover_1 : SF := (bSeq (bSetT [5, 6] (e2 oIx (eVB 0) (eVB 4))) (bSeq (bIf (eOr (eAnd (e2 oEq (eVB 2) (eC (.str "parts"))) (e2 oNe (eVB 5) (eVB 3))) (eOr (e2 oGt (eVB 5) (eVB 3)) (eAnd (e2 oLe (eVB 6) (eVB 3)) (e2 oGt (eVB 4) (eC (.int 0)))))) (bRet (eC (.bl false))) bNext) (bSeq (bIf (eAnd (e2 oEq (eVB 2) (eC (.str "both"))) (e2 oNe (e2 oGe (eVB 6) (e2 oIx (eVB 1) (eC (.int 1)))) (e2 oEq (eVB 4) (e2 oSub (eCall bLen (lCons (eVB 0) lNil)) (eC (.int 1)))))) (bRet (eC (.bl false))) bNext) (bSet 3 (eV 6)))))
def b__law_is_cover : SF := (bSeq (bIf (eOr (eNot (e1 (oIsi (isT "tuple" [])) (eVB 0))) (e2 oEq (eVB 0) (eTup lNil))) (bRet (eC (.bl false))) bNext) (bSeq (bIf (e2 oEq (eVB 2) (eC (.str "long"))) (bRet (eAnd (e2 oEq (eCall bLen (lCons (eVB 0) lNil)) (eC (.int 1))) (eCall (apC c__law_inner 2 []) (lCons (eV 1) (lCons (e2 oIx (eVB 0) (eC (.int 0))) lNil))))) bNext) (bSeq (bSet 3 (e2 oIx (eVB 1) (eC (.int 0)))) (bSeq (bFor (iRng1 (eCall bLen (lCons (eVB 0) lNil))) (gN 4) b__law_is_cover_1) (bRet (eIf (e2 oEq (eVB 2) (eC (.str "both"))) (e2 oGe (eVB 3) (e2 oIx (eVB 1) (eC (.int 1)))) (e2 oEq (eVB 3) (e2 oIx (eVB 1) (eC (.int 1))))))))))
def c__law_is_cover (ds M : List D) : R := endE (b__law_is_cover (env0 N__law_is_cover.length ds) M)
def N__law_right : List Str := [("_law_jar_here" : Str), ("_law_many" : Str), ("_law_word_here" : Str), ("_law_spans_here" : Str), ("_law_high" : Str), ("_law_frame" : Str), ("_law_due" : Str), ("_law_ride" : Str), ("_law_said" : Str), ("_law_one" : Str)]
def b__law_right_1 : EF := (e2 oIx (eVB 4) (eVB 9))
def b__law_right_2 : EF := (e2 oIx (eVB 4) (eVB 9))
def b__law_right_3 : SF := (bSeq (bSet 8 (eCallQ c_cover 3 2 1 [0, 1, 2] [] (lCons (eV 5) (lCons (eV 7) lNil)) (lCons (eV 2) lNil))) (bSeq (bIf (e2 oNe (eCall bReprA (lCons (eCallQ c_cover 3 0 3 [2, 1, 0] [] lNil (lCons (eV 2) (lCons (eV 7) (lCons (eV 5) lNil)))) lNil)) (eCall bReprA (lCons (eVB 8) lNil))) (bRet (eC (.bl false))) bNext) (bSeq (bIf (e2 oIs (e2 oIx (eVB 6) (eVB 7)) (eC .non)) (bSeq (bIf (e2 oIsnt (eVB 8) (eC .non)) (bRet (eC (.bl false))) bNext) bCont) bNext) (bSeq (bIf (eOr (eNot (e1 (oIsi (isT "tuple" [])) (eVB 8))) (eOr (e2 oNe (eCall bLen (lCons (eVB 8) lNil)) (eC (.int 2))) (e2 oNe (eCall bReprA (lCons (e2 oIx (eVB 8) (eC (.int 0))) lNil)) (eCall bReprA (lCons (e2 oIx (eVB 6) (eVB 7)) lNil))))) (bRet (eC (.bl false))) bNext) (bSeq (bIf (eOr (eNot (eCall (apC c__law_is_cover 3 []) (lCons (e2 oIx (eVB 8) (eC (.int 1))) (lCons (eV 7) (lCons (eV 2) lNil))))) (e2 (oInF false) (eC .non) (eComp (iSeq (e2 oIx (eVB 8) (eC (.int 1)))) (gN 9) (eC (.bl true)) b__law_right_1 [9]))) (bRet (eC (.bl false))) bNext) (bIf (e2 oNe (eCall bSum (lCons (eComp (iSeq (e2 oIx (eVB 8) (eC (.int 1)))) (gN 9) (eC (.bl true)) b__law_right_2 [9]) lNil)) (e2 oIx (eVB 8) (eC (.int 0)))) (bRet (eC (.bl false))) bNext))))))
def b__law_right : SF := (bSeq (bPar 1 2 (e2 oAdd (eC (.int 2)) (eCall (apC c__law_dip 2 []) (lCons (eV 0) (lCons (eC (.int 6)) lNil)))) (eCall (apC c__law_word 1 []) (lCons (eV 0) lNil))) (bSeq (bSet 3 (eCall (apC c__law_spans 3 []) (lCons (eV 0) (lCons (eV 1) (lCons (eCall (apC c__law_pick 2 []) (lCons (eV 0) (lCons (eLst (lCons (eC (.int 2)) (lCons (eC (.int 9)) (lCons (e2 oPow (eC (.int 10)) (eC (.int 10))) lNil)))) lNil))) lNil))))) (bSeq (bSet 4 (e2 oIx (eCall (apC c__law_lows 2 []) (lCons (eV 1) (lCons (eV 3) lNil))) (eC (.int 1)))) (bSeq (bPar 5 6 (eCall (apC c_Bounds___init__ 2 []) (lCons (eV 1) (lCons (eV 3) lNil))) (eCall (apC c__law_settled 3 []) (lCons (eV 1) (lCons (eV 4) (lCons (eV 2) lNil))))) (bSeq (bFor (iSeq (eCall (apC c__law_rides 1 []) (lCons (eV 1) lNil))) (gN 7) b__law_right_3) (bRet (eOr (e2 oNe (eVB 2) (eC (.str "both"))) (e2 oEq (eCall bReprA (lCons (eCall (apC c_cover 3 [.str "both"]) (lCons (eV 5) (lCons (eTup (lCons (eC (.int 0)) (lCons (eC (.int 1)) lNil))) lNil))) lNil)) (eCall bReprA (lCons (eCallQ c_cover 3 2 1 [0, 1, 2] [] (lCons (eV 5) (lCons (eTup (lCons (eC (.int 0)) (lCons (eC (.int 1)) lNil))) lNil)) (lCons (eC (.str "both")) lNil)) lNil))))))))))
def c__law_right (ds M : List D) : R := endE (b__law_right (env0 N__law_right.length ds) M)
def N__law_jar : List Str := [("_law_script" : Str), ("_law_k" : Str), ("_law_mixed" : Str), ("_law_cell" : Str), ("_law_own" : Str), ("_law_digits" : Str)]
def b__law_jar_1 : SF := (bSet 2 (e2 oMod (eCall bInt (lCons (e2 oAdd (e2 oMul (eVB 2) (eC (.int 617))) (eVB 3)) lNil)) (eC (.int 1000000007))))
def b__law_jar : SF := (bSeq (bSet 2 (e2 oAdd (e2 oMul (e2 oMul (eC (.int 6007)) (e2 oAdd (eVB 1) (eC (.int 4)))) (e2 oAdd (eVB 1) (eC (.int 3)))) (e2 oMul (eC (.int 17)) (eCall bLen (lCons (eVB 0) lNil))))) (bSeq (bFor (iSeq (eSl oSlE (eVB 0) (eC .non) (eInt (eC (.int 4))))) (gN 3) b__law_jar_1) (bSeq (bSet 4 (eIf (e2 oLt (eVB 1) (eCall bLen (lCons (eVB 0) lNil))) (e2 oIx (eVB 0) (eVB 1)) (eC (.int 0)))) (bSeq (bSet 5 (eIf (eOr (e2 oLt (eVB 4) (eC (.int 0))) (e2 oGe (eVB 4) (e2 oPow (eC (.int 10)) (eC (.int 18))))) (eCall bAbs (lCons (eVB 4) lNil)) (eC (.int 0)))) (bRet (eCell (eLst (lCons (eV 5) (lCons (e2 oMod (eCall bInt (lCons (e2 oAdd (e2 oAdd (e2 oMul (eVB 2) (eC (.int 7907))) (e2 oMul (eVB 4) (eC (.int 65537)))) (e2 oMul (eC (.int 104729)) (e2 oAdd (eVB 1) (eC (.int 1))))) lNil)) (eC (.int 2147483587))) (lCons (eC (.int 0)) lNil))))))))))
def c__law_jar (ds M : List D) : R := endE (b__law_jar (env0 N__law_jar.length ds) M)
def N_law : List Str := [("_law_script" : Str), ("_law_k" : Str)]
def b_law_1 : EF := (eCall (apC c__law_right 1 []) (lCons (eCall (apC c__law_jar 2 []) (lCons (eV 0) (lCons (eV 1) lNil))) lNil))
def b_law : SF := (bRet (eCall bAll (lCons (eComp (iRng1 (eCall bMax (lCons (eC (.int 2)) (lCons (eCall bMin (lCons (eCall bLen (lCons (eVB 0) lNil)) (lCons (eC (.int 4)) lNil))) lNil)))) (gN 1) (eC (.bl true)) b_law_1 [1]) lNil)))
def c_law (ds M : List D) : R := endE (b_law (env0 N_law.length ds) M)
end HP

set_option maxRecDepth 100000
set_option maxHeartbeats 1000000
namespace HP
open MP PySem L2
/-! ### the jar -/
def jr (a b c : Int) : D := .lst [.int a, .int b, .int c]
def JarAt (M : List D) (n : Nat) : Prop := ∃ a b c : Int, 0 ≤ a ∧ 0 ≤ b ∧ M[n]? = some (jr a b c)
@[simp] theorem atI3_0 {a b c : D} : atI [a, b, c] 0 = some a := rfl
@[simp] theorem atI3_1 {a b c : D} : atI [a, b, c] 1 = some b := rfl
@[simp] theorem atI3_2 {a b c : D} : atI [a, b, c] 2 = some c := rfl
theorem st_0 {a b c v : Int} : stSub (.int 0) (.int v) (jr a b c) = some (jr v b c) := rfl
theorem st_1 {a b c v : Int} : stSub (.int 1) (.int v) (jr a b c) = some (jr a v c) := rfl
theorem st_2 {a b c v : Int} : stSub (.int 2) (.int v) (jr a b c) = some (jr a b v) := rfl
@[simp] theorem has_c {d : D} {r : EnvM} : has 0 (.shr d :: r) = true := rfl
theorem store_0 {n : Nat} {r : EnvM} {u d d'} {M : List D} (hm : M[n]? = some d) (hu : u d = some d') : store 0 u (.shr (.cel n) :: r) M = .next (.shr (.cel n) :: r) (M.set n d') := store_cel rfl hm hu
theorem dip_ok {M : List D} {n : Nat} {m : Int} (hj : JarAt M n) (hm : 0 < m) (hm2 : m < 2 ^ 200) :
    ∃ v M', c__law_dip [.cel n, .int m] M = .ok (.int v) M' ∧ 0 ≤ v ∧ v < m ∧ JarAt M' n := by
  obtain ⟨a, b, c, ha, hb, hM⟩ := hj
  have hlt : n < M.length := (List.getElem?_eq_some_iff.mp hM).1
  have e0 : env0 N__law_dip.length [.cel n, .int m] = [.shr (.cel n), .shr (.int m), .no, .no] := rfl
  have c1 : ∀ i, CMulB i 48271 := fun i => cmul_r (by decide)
  have c2 : ∀ i, CMulB i 40503 := fun i => cmul_r (by decide)
  have c3 : ∀ i, CDivW i 4096 := fun i => cdiv_s (by decide) (by decide)
  have c4 : ∀ i, CDivW i m := fun i => cdiv_s hm hm2
  have i0 := oIx_celL (i := 2) hM
  have hM1 : (M.set n (jr a b (c + 1)))[n]? = some (jr a b (c + 1)) := by simp [hlt]
  have s1 := fun (r : EnvM) => store_0 (r := r) hM (st_2 (v := c + 1))
  unfold c__law_dip
  rw [e0]
  by_cases h0 : 0 < a
  · refine ⟨a % m, M.set n (jr (a / m) b (c + 1)), ?_, Int.emod_nonneg _ (by omega), Int.emod_lt_of_pos _ hm, ⟨a / m, b, c + 1, Int.ediv_nonneg ha (by omega), hb, by simp [hlt]⟩⟩
    have s2 := fun (r : EnvM) => store_0 (r := r) hM1 (st_0 (v := a / m))
    simp [b__law_dip, i0, s1, s2, oIx_celL hM1, h0, hm, c4]
  · refine ⟨(b * 48271 + (c + 1) * 40503 + 17) % 2147483629 / 4096 % m, M.set n (jr a ((b * 48271 + (c + 1) * 40503 + 17) % 2147483629) (c + 1)), ?_, Int.emod_nonneg _ (by omega), Int.emod_lt_of_pos _ hm, ⟨a, (b * 48271 + (c + 1) * 40503 + 17) % 2147483629, c + 1, ha, Int.emod_nonneg _ (by decide), by simp [hlt]⟩⟩
    have s2 := fun (r : EnvM) => store_0 (r := r) hM1 (st_1 (v := (b * 48271 + (c + 1) * 40503 + 17) % 2147483629))
    have hM2 : (M.set n (jr a ((b * 48271 + (c + 1) * 40503 + 17) % 2147483629) (c + 1)))[n]? = some (jr a ((b * 48271 + (c + 1) * 40503 + 17) % 2147483629) (c + 1)) := by simp [hlt]
    simp [b__law_dip, i0, s1, s2, oIx_celL hM1, oIx_celL hM2, h0, hm, c1, c2, c3, c4]

theorem jar_ok {ns : List Int} {k : Nat} (hk : k ≤ 4) (hl : ns.length ≤ 63) (M : List D) : ∃ d s : Int, 0 ≤ d ∧ 0 ≤ s ∧ c__law_jar [.scr ns, .int k] M = .ok (.cel M.length) (M ++ [jr d s 0]) := by
  have e0 : env0 N__law_jar.length [.scr ns, .int k] = [.shr (.scr ns), .shr (.int k), .no, .no, .no, .no] := rfl
  unfold c__law_jar
  rw [e0]
  have c1 : CMulB 6007 ((k : Int) + 4) := cmul_l (by decide)
  have c2 : ∀ i, CMulB i ((k : Int) + 3) := fun i => cmul_r (by omega)
  have c3 : ∀ i, CMulB 17 i := fun i => cmul_l (by decide)
  have c4 : ∀ i, CMulB i 617 := fun i => cmul_r (by decide)
  have c5 : ∀ i, CMulB i 7907 := fun i => cmul_r (by decide)
  have c6 : ∀ i, CMulB i 65537 := fun i => cmul_r (by decide)
  have c7 : ∀ i, CMulB 104729 i := fun i => cmul_l (by decide)
  have p1 : CPow 10 18 := by decide
  obtain ⟨m0, hm0⟩ : ∃ m0 : Int, m0 = 6007 * ((k : Int) + 4) * ((k : Int) + 3) + 17 * (ns.length : Int) := ⟨_, rfl⟩
  obtain ⟨env2, M2, e1, m, x3, f3, rfl, rfl⟩ := forL_inv (gd := gN 3) (b := b__law_jar_1) (ds := cutD (ns.map D.int) none (some 4))
    (fun i env M' => ∃ m x3, MP.B.free x3 ∧ env = [.shr (.scr ns), .shr (.int k), .shr (.int m), x3, .no, .no] ∧ M' = M)
    (by
      rintro i d env M' hd ⟨m, x3, f3, rfl, rfl⟩
      have hm := List.mem_of_getElem? hd
      unfold cutD at hm
      obtain ⟨v, _, rfl⟩ := List.mem_map.mp (List.mem_of_mem_drop (List.mem_of_mem_take hm))
      exact ⟨[.shr (.scr ns), .shr (.int k), .shr (.int m), .shr (.int v), .no, .no], by simp [f3], [.shr (.scr ns), .shr (.int k), .shr (.int ((m * 617 + v) % 1000000007)), .shr (.int v), .no, .no], M', by simp [b__law_jar_1, c4], _, _, free_shr, rfl, rfl⟩)
    (env := [.shr (.scr ns), .shr (.int k), .shr (.int m0), .no, .no, .no]) (M := M) ⟨m0, .no, trivial, rfl, rfl⟩
  obtain ⟨own, ho⟩ : ∃ own : Int, own = if h : k < ns.length then ns[k] else 0 := ⟨_, rfl⟩
  have hs : (0 : Int) < 2147483587 := by decide
  have eOwn : (eIf (MP.e2 oLt (eVB 1) (eCall bLen (lCons (eVB 0) lNil))) (MP.e2 oIx (eVB 0) (eVB 1)) (eC (.int 0))) [.shr (.scr ns), .shr (.int k), .shr (.int m), x3, .no, .no] M2 = .ok (.int own) M2 := by
    by_cases h : k < ns.length
    · have hh : (k : Int) < (ns.length : Int) := by omega
      have ha : atI ns (k : Int) = some ns[k] := atI_nat (by simp [h])
      rw [ho, dif_pos h]
      simp [h, oIx_scr ha]
    · rw [ho, dif_neg h]
      simp [h]
  have hab : (0 : Int) ≤ (if own < 0 then -own else own) := by split <;> omega
  have sl : ∀ M, oSlE (.scr ns) none (some 4) M = .ok (.lst (cutD (ns.map D.int) none (some 4))) M := fun M => rfl
  have es : ∀ {env : EnvM} {M : List D}, env[0]? = some (.shr (.scr ns)) → (eSl oSlE (eVB 0) (eC .non) (eInt (eC (.int 4)))) env M = .ok (.lst (cutD (ns.map D.int) none (some 4))) M := fun {env M} h => by
    show ((eVB 0) env M).bind _ = _
    rw [eVB_eq, h]; rfl
  have es2 := es (env := [.shr (.scr ns), .shr (.int k), .shr (.int m0), .no, .no, .no]) (M := M2) rfl
  by_cases hd : own < 0 ∨ 1000000000000000000 ≤ own
  · refine ⟨(if own < 0 then -own else own), (m * 7907 + own * 65537 + 104729 * ((k : Int) + 1)) % 2147483587, hab, Int.emod_nonneg _ (by decide), ?_⟩
    simp [b__law_jar, -eIf_eq, c1, c2, c3, c5, c6, c7, p1, ← hm0, es2, e1, f3]
    rw [eOwn]
    rcases hd with hd | hd
    · simp [hd, c5, c6, c7, jr]
    · have hn : ¬ own < 0 := by omega
      simp [hd, hn, p1, c5, c6, c7, jr]
  · refine ⟨0, (m * 7907 + own * 65537 + 104729 * ((k : Int) + 1)) % 2147483587, Int.le_refl _, Int.emod_nonneg _ (by decide), ?_⟩
    have h1 : ¬ own < 0 := fun h => hd (.inl h)
    have h2 : ¬ 1000000000000000000 ≤ own := fun h => hd (.inr h)
    simp [b__law_jar, -eIf_eq, c1, c2, c3, c5, c6, c7, p1, ← hm0, es2, e1, f3]
    rw [eOwn]
    simp [h1, h2, p1, c5, c6, c7, jr]

/-- one of several -/
theorem pick_ok {M : List D} {n : Nat} {ms : List D} (hj : JarAt M n) (h1 : ms ≠ []) (h2 : ms.length < 1000) :
    ∃ v M', c__law_pick [.cel n, .lst ms] M = .ok v M' ∧ v ∈ ms ∧ JarAt M' n := by
  have hl : 0 < ms.length := List.length_pos_iff.mpr h1
  obtain ⟨v, M', e, h3, h4, h5⟩ := dip_ok (m := (ms.length : Int)) hj (by omega) (by omega)
  have e0 : env0 N__law_pick.length [.cel n, .lst ms] = [.shr (.cel n), .shr (.lst ms), .no] := rfl
  obtain ⟨k, rfl⟩ : ∃ k : Nat, v = (k : Int) := ⟨v.toNat, by omega⟩
  have hk : k < ms.length := by omega
  have e2 : atI ms ((k : Nat) : Int) = some ms[k] := atI_nat (by simp [hk])
  refine ⟨ms[k], M', ?_, List.getElem_mem _, h5⟩
  unfold c__law_pick
  rw [e0]
  simp [b__law_pick, e, e2]
end HP

set_option maxRecDepth 100000
set_option maxHeartbeats 1000000
namespace HP
open MP PySem L2
theorem inRn {n : Nat} (h : n ≤ 1000000) : inR (n : Int) := inR_of (by omega) (by omega)
theorem inRn1 {n : Nat} (h : n ≤ 1000000) : inR ((n : Int) + 1) := inR_of (by omega) (by omega)
theorem inRnm {n : Nat} (h : n ≤ 1000000) : inR ((n : Int) - 1) := inR_of (by omega) (by omega)
theorem rng0 {n : Nat} : rngD 0 n = (List.range n).map fun (k : Nat) => D.int (k : Int) := by
  unfold rngD
  refine List.map_congr_left fun k _ => ?_
  rw [Int.zero_add]
theorem rngn {a n : Nat} : rngD (a : Int) n = (List.range n).map fun (k : Nat) => D.int ((a + k : Nat) : Int) := by
  unfold rngD
  refine List.map_congr_left fun k _ => ?_
  rw [Int.natCast_add]
section
variable {M : List D} {n a b : Nat}
theorem rngL1_m (h : n ≤ 1000000) : rngL1 (.int ((n : Int) - 1)) M = .ok ((List.range (n - 1)).map fun (k : Nat) => D.int (k : Int)) M := by
  rw [rngL1_int (inRnm h), rng0]
  congr 3
  omega
theorem rngL1_n (h : n ≤ 1000000) : rngL1 (.int (n : Int)) M = .ok ((List.range n).map fun (k : Nat) => D.int (k : Int)) M := by
  rw [rngL1_int (inRn h), rng0]
  congr 3
theorem rngL2_1 (h : a ≤ 1000000) (h2 : b ≤ 1000000) : rngL2 (.int ((a : Int) + 1)) (.int (b : Int)) M = .ok ((List.range (b - (a + 1))).map fun (k : Nat) => D.int ((a + 1 + k : Nat) : Int)) M := by
  rw [rngL2_int (inRn1 h) (inRn h2), show (a : Int) + 1 = ((a + 1 : Nat) : Int) from rfl, rngn]
  congr 3
  omega
theorem rngL2_n (h : a ≤ 1000000) (h2 : b ≤ 1000000) : rngL2 (.int (a : Int)) (.int (b : Int)) M = .ok ((List.range (b - a)).map fun (k : Nat) => D.int ((a + k : Nat) : Int)) M := by
  rw [rngL2_int (inRn h) (inRn h2), rngn]
  congr 3
  omega
end
def row (n i : Nat) : List (Nat × Nat) := (List.range (n - (i + 1))).map fun k => (i, i + 1 + k)
theorem hauls_eq {n : Nat} : hauls n = (List.range (n - 1)).flatMap (row n) := rfl
theorem row_len {n i : Nat} : (row n i).length = n - (i + 1) := by simp [row]
theorem flat_len {n : Nat} : ∀ {xs : List Nat}, (xs.flatMap (row n)).length ≤ xs.length * n
  | [] => by simp
  | x :: xs => by
    rw [List.flatMap_cons, List.length_append, row_len, List.length_cons, Nat.succ_mul]
    have := flat_len (n := n) (xs := xs)
    omega
theorem pre_range {n x : Nat} {pre post : List Nat} (e : List.range n = pre ++ x :: post) : pre = List.range x ∧ x < n := by
  have hl : pre.length < n := by have := congrArg List.length e; simp at this; omega
  have hx : (List.range n)[pre.length]? = some x := by rw [e]; simp
  rw [List.getElem?_range hl] at hx
  have hx : pre.length = x := by simpa using hx
  refine ⟨?_, by omega⟩
  have h1 : (List.range n).take pre.length = pre := by rw [e]; simp
  rw [List.take_range] at h1
  rw [← h1, hx]
  congr 1
  omega
theorem hauls_of_ok {n : Nat} (hn : n ≤ 10) {M : List D} : c_hauls_of [.int (n : Int)] M = .ok (.lst ((hauls n).map hDp)) M := by
  have e0 : env0 N_hauls_of.length [.int (n : Int)] = [.shr (.int n), .no, .no, .no] := rfl
  obtain ⟨env2, M2, e1, x2, f2, rfl, rfl⟩ := forL_pre (gd := gN 2) (b := b_hauls_of_2) (enc := fun (k : Nat) => D.int (k : Int)) (xs := List.range (n - 1))
    (P := fun pre env M' => ∃ x2 : MP.B, x2.free ∧ env = [.shr (.int n), .shr (.lst ((pre.flatMap (row n)).map hDp)), x2, .no] ∧ M' = M) (by
      rintro pre x post env M' e ⟨x2, f2, rfl, rfl⟩
      obtain ⟨hp, hx⟩ := pre_range e
      refine ⟨_, by simp [f2]; rfl, _, _, .inl ?_, .shr (.int x), trivial, rfl, rfl⟩
      have cm := compL_map (gd := gN 3) (ft := eC (.bl true)) (fe := b_hauls_of_1) (env0 := [.shr (.int n), .shr (.lst ((pre.flatMap (row n)).map hDp)), .shr (.int x), .no]) (enc := fun (k : Nat) => D.int ((x + 1 + k : Nat) : Int)) (g := fun k => hD x (x + 1 + k)) (M := M') (xs := List.range (n - (x + 1))) (acc := [])
        (sz45 (by simp; omega)) fun k _ => ⟨_, by simp; rfl, rfl, by simp [b_hauls_of_1]⟩
      have fl := flat_len (n := n) (xs := pre)
      have pl : pre.length ≤ 10 := by rw [hp]; simp; omega
      have pm : pre.length * n ≤ 10 * 10 := Nat.mul_le_mul pl hn
      have ad := fun M => oAdd_lst (M := M) (xs := (pre.flatMap (row n)).map hDp) (ys := (List.range (n - (x + 1))).map fun k => hD x (x + 1 + k)) (by simp only [List.length_map, List.length_range]; omega)
      simp [b_hauls_of_2, rngL2_1 (show x ≤ 1000000 by omega) (show n ≤ 1000000 by omega), cm, ad, -Int.natCast_add, row, Function.comp_def])
    (env := [.shr (.int n), .shr (.lst []), .no, .no]) (M := M) ⟨.no, trivial, rfl, rfl⟩
  unfold c_hauls_of
  rw [e0]
  simp [b_hauls_of, rngL1_m (show n ≤ 1000000 by omega), e1, ← hauls_eq]
end HP

set_option maxRecDepth 100000
set_option maxHeartbeats 1000000
namespace HP
open MP PySem L2
section
variable {M : List D} {n i j k l : Nat} {f : Nat → Nat → D}
theorem rides_ok (hn : n ≤ 10) : c__law_rides [.int (n : Int)] M = .ok (.lst ((hauls n).map hDp)) M := hauls_of_ok hn
@[simp] theorem at0 {x : D} {xs : List D} : atI (x :: xs) 0 = some x := atI_nat (j := 0) rfl
@[simp] theorem at1 {x y : D} {xs : List D} : atI (x :: y :: xs) 1 = some y := atI_nat (j := 1) rfl
@[simp] theorem at2 {x y z : D} {xs : List D} : atI (x :: y :: z :: xs) 2 = some z := atI_nat (j := 2) rfl
theorem lies_ok : c_lies_within [hD i j, hD k l] M = .ok (.bl (decide (k ≤ i ∧ j ≤ l))) M := by
  have e0 : env0 N_lies_within.length [hD i j, hD k l] = [.shr (hD i j), .shr (hD k l)] := rfl
  unfold c_lies_within
  rw [e0]
  simp [b_lies_within]
  by_cases h : k ≤ i
  · simp [h]
  · simp [h]
theorem inner_ok : c__law_inner [hD i j, hD k l] M = .ok (.bl (decide (k ≤ i ∧ j ≤ l))) M := lies_ok
def deckRow (n : Nat) (f : Nat → Nat → D) (i : Nat) : D := .tup ((List.range (n - (i + 1))).map fun k => f i (i + 1 + k))
def deck (n : Nat) (f : Nat → Nat → D) : List D := (List.range (n - 1)).map (deckRow n f)
theorem deck_len : (deck n f).length = n - 1 := by simp [deck]
theorem deck_at (h : At n i j) : atI (deck n f) (i : Int) = some (deckRow n f i) := by
  refine atI_nat ?_
  have := h.1
  have := h.2
  unfold deck
  rw [List.getElem?_map, List.getElem?_range (by omega)]; rfl
theorem row_at (h : At n i j) : oIx (deckRow n f i) (.int ((j : Int) - (i : Int) - 1)) M = .ok (f i j) M := by
  have h1 := h.1
  have h2 := h.2
  have e : (j : Int) - (i : Int) - 1 = ((j - (i + 1) : Nat) : Int) := by omega
  unfold deckRow
  rw [oIx_tup, e, atI_nat (v := f i j)]
  · rfl
  · rw [List.getElem?_map, List.getElem?_range (by omega)]
    show some (f i (i + 1 + (j - (i + 1)))) = _
    congr 2; omega
theorem deck_congr {g : Nat → Nat → D} (h : ∀ i j, At n i j → f i j = g i j) : deck n f = deck n g := by
  unfold deck
  refine List.map_congr_left fun i hi => ?_
  unfold deckRow
  congr 1
  refine List.map_congr_left fun k hk => ?_
  rw [List.mem_range] at hi hk
  exact h _ _ ⟨by omega, by omega⟩
end
end HP

set_option maxRecDepth 100000
set_option maxHeartbeats 1000000
namespace HP
open MP PySem L2
def odT (f : Tab) : Nat → Nat → D := fun i j => od (f i j)
theorem odT_up {f : Tab} {i j : Nat} {v : Option Int} : upD (odT f) i j (od v) = odT (up2 f i j v) := by
  funext a b
  unfold upD odT up2
  split <;> rfl
section
variable {M : List D} {n i j k l : Nat} {f : Nat → Nat → D} {h : Tab} {w : Str}
theorem ix_odT (a : At n i j) : oIx (tabD n (odT h)) (.tup [.int i, .int j]) M = .ok (od (h i j)) M := ix_tab a
theorem sub_tab (hn : n ≤ 10) (a : At n i j) {v : D} : stSub (hD i j) v (tabD n f) = some (tabD n (upD f i j v)) := by
  show (match keysD [D.int i, D.int j] with | some q => if (tab n f).length < sizeLine then some (D.dT (insK (tab n f) q v)) else none | none => none) = _
  rw [keysD_h]
  dsimp only
  rw [if_pos (by rw [tab_len]; exact Nat.lt_of_le_of_lt (hauls_len n hn) (by decide))]
  have := ins_tab (f := f) (v := v) a
  rw [this]
@[simp] theorem isN_od {o : Option Int} : (od o).isN = o.isNone := by cases o <;> rfl
theorem mn2_min {x y : Int} : mn2 x y = min x y := by unfold mn2; split <;> omega
theorem mx2_max {x y : Int} : mx2 x y = max x y := by unfold mx2; split <;> omega
theorem less_ok {a b : Option Int} : c__law_less [od a, od b] M = .ok (od (minO a b)) M := by
  have e0 : env0 N__law_less.length [od a, od b] = [.shr (od a), .shr (od b)] := rfl
  unfold c__law_less
  rw [e0]
  cases a <;> cases b <;> simp [b__law_less, minO, mn2_min]
theorem pass_1 (hn : n ≤ 10) (v : At n i j) {a : Nat × Nat} (ha : a ∈ hauls n) {x0 x1 x2 x3 x7 x8 x9 : MP.B} :
    b__law_pass_1 [x0, x1, x2, x3, .own (tabD n (odT h)), .shr (hD i j), .shr (hDp a), x7, x8, x9] M = .next [x0, x1, x2, x3, .own (tabD n (odT (lngStep i j h a))), .shr (hD i j), .shr (hDp a), x7, x8, x9] M := by
  obtain ⟨k, l⟩ := a
  have va := hauls_lt ha
  have i1 := fun M => ix_odT (h := h) (M := M) v
  have i2 := fun M => ix_odT (h := h) (M := M) va
  have s1 := fun M => store_own (M := M) (i := 4) (env := [x0, x1, x2, x3, .own (tabD n (odT h)), .shr (hD i j), .shr (hD k l), x7, x8, x9]) rfl (sub_tab (f := odT h) hn v (v := od (minO (h i j) (h k l))))
  have hh : has 4 [x0, x1, x2, x3, .own (tabD n (odT h)), .shr (hD i j), .shr (hD k l), x7, x8, x9] = true := rfl
  simp only [odT_up] at s1
  by_cases q : k ≤ i ∧ j ≤ l
  · simp [b__law_pass_1, inner_ok, less_ok, i1, i2, s1, q, lngStep, hh]
  · simp [b__law_pass_1, inner_ok, q, lngStep]
theorem addO_od {a b : Option Int} (h : a.isSome = true ∧ b.isSome = true) : oAdd (od a) (od b) M = .ok (od (addO a b)) M := by
  cases a with
  | none => simp at h
  | some x =>
    cases b with
    | none => simp at h
    | some y => rfl
theorem minO_none {a : Option Int} : minO a none = a := by cases a <;> rfl
theorem up2_self {f : Tab} : up2 f i j (f i j) = f := by
  funext a b
  unfold up2
  split
  · rename_i h; rw [h.1, h.2]
  · rfl
theorem addO_none {a b : Option Int} (h : ¬ (a.isSome = true ∧ b.isSome = true)) : addO a b = none := by
  cases a <;> cases b <;> simp_all [addO]
theorem pass_2 (hn : n ≤ 10) (v : At n i j) (hk : k < j - (i + 1)) {x0 x1 x2 x3 x6 x8 x9 : MP.B} (f8 : x8.free) (f9 : x9.free) :
    ∃ y8 y9 : MP.B, y8.free ∧ y9.free ∧ b__law_pass_2 [x0, x1, x2, x3, .own (tabD n (odT h)), .shr (hD i j), x6, .shr (.int ((i + 1 + k : Nat) : Int)), x8, x9] M =
      .next [x0, x1, x2, x3, .own (tabD n (odT (prtStep i j h k))), .shr (hD i j), x6, .shr (.int ((i + 1 + k : Nat) : Int)), y8, y9] M := by
  obtain ⟨m, hm⟩ : ∃ m, m = i + 1 + k := ⟨_, rfl⟩
  rw [← hm]
  have v1 : At n i m := ⟨by omega, by have := v.2; omega⟩
  have v2 : At n m j := ⟨by omega, v.2⟩
  have i0 := fun M => ix_odT (h := h) (M := M) v
  have i1 := fun M => ix_odT (h := h) (M := M) v1
  have i2 := fun M => ix_odT (h := h) (M := M) v2
  refine ⟨.shr (od (h i m)), .shr (od (h m j)), trivial, trivial, ?_⟩
  by_cases q : (h i m).isSome = true ∧ (h m j).isSome = true
  · have ad := fun M => addO_od (M := M) q
    have s1 := fun M => store_own (M := M) (i := 4) (env := [x0, x1, x2, x3, .own (tabD n (odT h)), .shr (hD i j), x6, .shr (.int (m : Int)), .shr (od (h i m)), .shr (od (h m j))]) rfl (sub_tab (f := odT h) hn v (v := od (minO (h i j) (addO (h i m) (h m j)))))
    have hh : has 4 [x0, x1, x2, x3, .own (tabD n (odT h)), .shr (hD i j), x6, .shr (.int (m : Int)), .shr (od (h i m)), .shr (od (h m j))] = true := rfl
    simp only [odT_up] at s1
    have q1 : (h i m).isNone = false := by simpa using q.1
    have q2 : (h m j).isNone = false := by simpa using q.2
    simp [b__law_pass_2, i0, i1, i2, q1, q2, f8, f9, ad, less_ok, s1, hh, prtStep, ← hm]
  · have e : prtStep i j h k = h := by
      unfold prtStep
      rw [← hm, addO_none q, minO_none, up2_self]
    rw [e]
    cases q1 : h i m <;> cases q2 : h m j <;> simp [b__law_pass_2, i0, i1, i2, q1, q2, f8, f9] <;> simp_all
end
end HP

set_option maxRecDepth 100000
set_option maxHeartbeats 1000000
namespace HP
open MP PySem L2
abbrev ridesD (n : Nat) : D := .lst ((hauls n).map hDp)
section
variable {M : List D} {n i j k l : Nat} {h : Tab} {w : Str}
theorem pass_L (hn : n ≤ 10) (v : At n i j) {x0 x1 x2 x6 x7 x8 x9 : MP.B} (f6 : x6.free) :
    ∃ y6 : MP.B, y6.free ∧ forL (gN 6) b__law_pass_1 ((hauls n).map hDp) [x0, x1, x2, .shr (ridesD n), .own (tabD n (odT h)), .shr (hD i j), x6, x7, x8, x9] M = .next [x0, x1, x2, .shr (ridesD n), .own (tabD n (odT ((hauls n).foldl (lngStep i j) h))), .shr (hD i j), y6, x7, x8, x9] M := by
  obtain ⟨env2, M2, e1, y6, f6', rfl, rfl⟩ := forL_pre (gd := gN 6) (b := b__law_pass_1) (enc := hDp) (xs := hauls n)
    (P := fun pre env M' => ∃ y6 : MP.B, y6.free ∧ env = [x0, x1, x2, .shr (ridesD n), .own (tabD n (odT (pre.foldl (lngStep i j) h))), .shr (hD i j), y6, x7, x8, x9] ∧ M' = M) (by
      rintro pre x post env M' e ⟨y6, f6, rfl, rfl⟩
      have p1 := pass_1 (M := M') (h := pre.foldl (lngStep i j) h) hn v (a := x) (by rw [e]; simp) (x0 := x0) (x1 := x1) (x2 := x2) (x3 := .shr (ridesD n)) (x7 := x7) (x8 := x8) (x9 := x9)
      refine ⟨_, by simp [f6], _, _, .inl p1, .shr (hDp x), trivial, by simp, rfl⟩)
    (env := [x0, x1, x2, .shr (ridesD n), .own (tabD n (odT h)), .shr (hD i j), x6, x7, x8, x9]) (M := M) ⟨x6, f6, rfl, rfl⟩
  exact ⟨y6, f6', e1⟩
theorem pass_P (hn : n ≤ 10) (v : At n i j) {x0 x1 x2 x3 x6 x7 x8 x9 : MP.B} (f7 : x7.free) (f8 : x8.free) (f9 : x9.free) :
    ∃ y7 y8 y9 : MP.B, y7.free ∧ y8.free ∧ y9.free ∧ forL (gN 7) b__law_pass_2 ((List.range (j - (i + 1))).map fun (k : Nat) => D.int ((i + 1 + k : Nat) : Int)) [x0, x1, x2, x3, .own (tabD n (odT h)), .shr (hD i j), x6, x7, x8, x9] M =
      .next [x0, x1, x2, x3, .own (tabD n (odT ((List.range (j - (i + 1))).foldl (prtStep i j) h))), .shr (hD i j), x6, y7, y8, y9] M := by
  obtain ⟨env2, M2, e1, y7, y8, y9, f7', f8', f9', rfl, rfl⟩ := forL_pre (gd := gN 7) (b := b__law_pass_2) (enc := fun (k : Nat) => D.int ((i + 1 + k : Nat) : Int)) (xs := List.range (j - (i + 1)))
    (P := fun pre env M' => ∃ y7 y8 y9 : MP.B, y7.free ∧ y8.free ∧ y9.free ∧ env = [x0, x1, x2, x3, .own (tabD n (odT (pre.foldl (prtStep i j) h))), .shr (hD i j), x6, y7, y8, y9] ∧ M' = M) (by
      rintro pre x post env M' e ⟨y7, y8, y9, f7, f8, f9, rfl, rfl⟩
      have hx : x < j - (i + 1) := (pre_range e).2
      obtain ⟨z8, z9, g8, g9, e2⟩ := pass_2 (M := M') (h := pre.foldl (prtStep i j) h) hn v hx (x0 := x0) (x1 := x1) (x2 := x2) (x3 := x3) (x6 := x6) f8 f9
      refine ⟨_, by simp [f7, -Int.natCast_add], _, _, .inl e2, .shr (.int ((i + 1 + x : Nat) : Int)), z8, z9, trivial, g8, g9, by simp, rfl⟩)
    (env := [x0, x1, x2, x3, .own (tabD n (odT h)), .shr (hD i j), x6, x7, x8, x9]) (M := M) ⟨x7, x8, x9, f7, f8, f9, rfl, rfl⟩
  exact ⟨y7, y8, y9, f7', f8', f9', e1⟩
theorem strEq {a b : Str} : (a == b) = decide (a = b) := by
  rw [Bool.eq_iff_iff]; simp
theorem pass_3 (hn : n ≤ 10) (v : At n i j) {x0 x1 x6 x7 x8 x9 : MP.B} (f6 : x6.free) (f7 : x7.free) (f8 : x8.free) (f9 : x9.free) :
    ∃ y6 y7 y8 y9 : MP.B, y6.free ∧ y7.free ∧ y8.free ∧ y9.free ∧ b__law_pass_3 [x0, x1, .shr (.str w), .shr (ridesD n), .own (tabD n (odT h)), .shr (hD i j), x6, x7, x8, x9] M =
      .next [x0, x1, .shr (.str w), .shr (ridesD n), .own (tabD n (odT (passRide w n h (i, j)))), .shr (hD i j), y6, y7, y8, y9] M := by
  have hi : i ≤ 1000000 := by have := v.1; have := v.2; omega
  have hj : j ≤ 1000000 := by have := v.1; have := v.2; omega
  by_cases hp : w = "parts"
  · have hl : ¬ w = "long" := by rw [hp]; decide
    obtain ⟨y7, y8, y9, g7, g8, g9, e⟩ := pass_P (M := M) (h := h) hn v (x0 := x0) (x1 := x1) (x2 := .shr (.str w)) (x3 := .shr (ridesD n)) (x6 := x6) f7 f8 f9
    refine ⟨x6, y7, y8, y9, f6, g7, g8, g9, ?_⟩
    have e3 : passRide w n h (i, j) = (List.range (j - (i + 1))).foldl (prtStep i j) h := by
      unfold passRide rideP rideL
      rw [if_pos hl, if_neg (fun z => z hp)]
    rw [e3]
    simp [b__law_pass_3, strEq, hp, hl, rngL2_1 hi hj, -Int.natCast_add]
    rw [if_neg (by decide)]
    rw [← hp]
    exact e
  · obtain ⟨y6, g6, e1⟩ := pass_L (M := M) (h := h) hn v (x0 := x0) (x1 := x1) (x2 := .shr (.str w)) (x7 := x7) (x8 := x8) (x9 := x9) f6
    by_cases hl : w = "long"
    · refine ⟨y6, x7, x8, x9, g6, f7, f8, f9, ?_⟩
      have e3 : passRide w n h (i, j) = (hauls n).foldl (lngStep i j) h := by
        unfold passRide rideP rideL
        rw [if_neg (fun z => z hl), if_pos hp]
      rw [e3]
      simp [b__law_pass_3, strEq, hp, hl]
      rw [if_neg (by decide)]
      rw [← hl, e1]
      simp [hl]
    · obtain ⟨y7, y8, y9, g7, g8, g9, e⟩ := pass_P (M := M) (h := (hauls n).foldl (lngStep i j) h) hn v (x0 := x0) (x1 := x1) (x2 := .shr (.str w)) (x3 := .shr (ridesD n)) (x6 := y6) f7 f8 f9
      refine ⟨y6, y7, y8, y9, g6, g7, g8, g9, ?_⟩
      have e3 : passRide w n h (i, j) = (List.range (j - (i + 1))).foldl (prtStep i j) ((hauls n).foldl (lngStep i j) h) := by
        unfold passRide rideP rideL
        rw [if_pos hl, if_pos hp]
      rw [e3]
      simp [b__law_pass_3, strEq, hp, hl, rngL2_1 hi hj, -Int.natCast_add, e1]
      exact e
theorem pass_ok (hn : n ≤ 10) {f : Tab} : c__law_pass [.int (n : Int), tabD n (odT f), .str w] M = .ok (tabD n (odT (passT w n f))) M := by
  have e0 : env0 N__law_pass.length [.int (n : Int), tabD n (odT f), .str w] = [.shr (.int n), .shr (tabD n (odT f)), .shr (.str w), .no, .no, .no, .no, .no, .no, .no] := rfl
  obtain ⟨env2, M2, e1, y5, y6, y7, y8, y9, f5, f6, f7, f8, f9, rfl, rfl⟩ := forL_pre (gd := gN 5) (b := b__law_pass_3) (enc := hDp) (xs := hauls n)
    (P := fun pre env M' => ∃ y5 y6 y7 y8 y9 : MP.B, y5.free ∧ y6.free ∧ y7.free ∧ y8.free ∧ y9.free ∧ env = [.shr (.int n), .shr (tabD n (odT f)), .shr (.str w), .shr (ridesD n), .own (tabD n (odT (pre.foldl (passRide w n) f))), y5, y6, y7, y8, y9] ∧ M' = M) (by
      rintro pre x post env M' e ⟨y5, y6, y7, y8, y9, f5, f6, f7, f8, f9, rfl, rfl⟩
      have v : At n x.1 x.2 := hauls_lt (h := x) (by rw [e]; simp)
      obtain ⟨z6, z7, z8, z9, g6, g7, g8, g9, e2⟩ := pass_3 (M := M') (w := w) (h := pre.foldl (passRide w n) f) hn v (x0 := .shr (.int n)) (x1 := .shr (tabD n (odT f))) f6 f7 f8 f9
      refine ⟨_, by simp [f5], _, _, .inl e2, .shr (hDp x), z6, z7, z8, z9, trivial, g6, g7, g8, g9, by simp, rfl⟩)
    (env := [.shr (.int n), .shr (tabD n (odT f)), .shr (.str w), .shr (ridesD n), .own (tabD n (odT f)), .no, .no, .no, .no, .no]) (M := M) ⟨.no, .no, .no, .no, .no, trivial, trivial, trivial, trivial, trivial, rfl, rfl⟩
  have bd : ∀ M, bDictT [tabD n (odT f)] M = .ok (tabD n (odT f)) M := fun M => by
    show (if hashOk ((tab n (odT f)).map (·.1)) = true then R.ok (.dT (tab n (odT f))) M else .stuck) = _
    rw [if_pos (hash_tab hn)]
  have sh := bShare_own (M := M2) (i := 4) (env := [.shr (.int n), .shr (tabD n (odT f)), .shr (.str w), .shr (ridesD n), .own (tabD n (odT ((hauls n).foldl (passRide w n) f))), y5, y6, y7, y8, y9]) rfl
  unfold c__law_pass
  rw [e0]
  simp [b__law_pass, rides_ok hn, bd, e1, sh, passT]
end
end HP

set_option maxRecDepth 100000
set_option maxHeartbeats 1000000
namespace HP
open MP PySem L2
theorem eqS_od {x y : Option Int} : eqS (od x) (od y) = some (decide (x = y)) := by
  cases x with
  | none => cases y <;> rfl
  | some a =>
    cases y with
    | none => rfl
    | some b =>
      show some (a == b) = some (decide (some a = some b))
      congr 1
      rw [Bool.eq_iff_iff]; simp
theorem eqTL_tab {n : Nat} {a b : Tab} : ∀ {xs : List (Nat × Nat)}, (∀ h ∈ xs, h ∈ hauls n) → eqTL (tab n (odT b)) (xs.map fun h => (hKp h, odT a h.1 h.2)) = some (xs.all fun h => decide (a h.1 h.2 = b h.1 h.2))
  | [], _ => rfl
  | h :: xs, hm => by
    rw [List.map_cons]
    unfold eqTL
    have v := val_tab (f := odT b) (hauls_lt (hm h (by simp)))
    show (match valK (tab n (odT b)) (hK h.1 h.2) with | none => some false | some y => match eqS (odT a h.1 h.2) y with | some true => eqTL (tab n (odT b)) (xs.map fun h => (hKp h, odT a h.1 h.2)) | some false => some false | none => none) = _
    rw [v]
    dsimp only
    rw [show eqS (odT a h.1 h.2) (odT b h.1 h.2) = some (decide (a h.1 h.2 = b h.1 h.2)) from eqS_od]
    by_cases e : a h.1 h.2 = b h.1 h.2
    · rw [decide_eq_true e]
      dsimp only
      rw [eqTL_tab fun x hx => hm x (by simp [hx])]
      simp [e]
    · rw [decide_eq_false e]
      simp [e]
theorem eqT_tab {n : Nat} {a b : Tab} : eqT (tab n (odT a)) (tab n (odT b)) = some ((hauls n).all fun h => decide (a h.1 h.2 = b h.1 h.2)) := by
  unfold eqT
  rw [if_pos (by rw [tab_len, tab_len])]
  exact eqTL_tab fun _ h => h
section
variable {M : List D} {n : Nat} {g : Tab} {w : Str}
theorem settled_loop (hn : n ≤ 10) : ∀ (xs : List Nat) (t : Nat) (f : Tab), Ch w n g t f → ∃ f', (IsCl w n g f' ∨ Ch w n g (t + xs.length) f') ∧ ∀ (x1 x4 x5 : MP.B) (M : List D), x4.free → x5.free →
    (forL (gN 4) b__law_settled_1 (xs.map fun (k : Nat) => D.int (k : Int)) [.shr (.int n), x1, .shr (.str w), .shr (tabD n (odT f)), x4, x5] M = .ret (tabD n (odT f')) M ∨
      ∃ y4 y5, forL (gN 4) b__law_settled_1 (xs.map fun (k : Nat) => D.int (k : Int)) [.shr (.int n), x1, .shr (.str w), .shr (tabD n (odT f)), x4, x5] M = .next [.shr (.int n), x1, .shr (.str w), .shr (tabD n (odT f')), y4, y5] M)
  | [], t, f, h => ⟨f, .inr h, fun x1 x4 x5 M _ _ => .inr ⟨x4, x5, rfl⟩⟩
  | x :: xs, t, f, h => by
    have po : ∀ M, c__law_pass [.int (n : Int), tabD n (odT f), .str w] M = .ok (tabD n (odT (passT w n f))) M := fun M => pass_ok hn
    have eq : ∀ M, oEqT (tabD n (odT (passT w n f))) (tabD n (odT f)) M = .ok (.bl ((hauls n).all fun h => decide (passT w n f h.1 h.2 = f h.1 h.2))) M := fun M => by
      show (match eqT (tab n (odT (passT w n f))) (tab n (odT f)) with | some r => R.ok (.bl r) M | none => .stuck) = _
      rw [eqT_tab]
    by_cases q : ((hauls n).all fun h => decide (passT w n f h.1 h.2 = f h.1 h.2)) = true
    · refine ⟨f, .inl (h.stop passT_ok fun i j a => of_decide_eq_true (List.all_eq_true.mp q (i, j) (mem_hauls.mpr a))), fun x1 x4 x5 M f4 f5 => .inl ?_⟩
      rw [List.map_cons, forL_cons (env1 := [.shr (.int n), x1, .shr (.str w), .shr (tabD n (odT f)), .shr (.int (x : Int)), x5]) (by simp [f4])]
      have e : b__law_settled_1 [.shr (.int n), x1, .shr (.str w), .shr (tabD n (odT f)), .shr (.int (x : Int)), x5] M = .ret (tabD n (odT f)) M := by
        simp only [q] at eq
        simp [b__law_settled_1, po, f5, eq]
      rw [e]; rfl
    · obtain ⟨f', h1, h2⟩ := settled_loop hn xs (t + 1) (passT w n f) (h.succ passT_ok)
      refine ⟨f', by rw [List.length_cons, show t + (xs.length + 1) = t + 1 + xs.length by omega]; exact h1, fun x1 x4 x5 M f4 f5 => ?_⟩
      rw [List.map_cons, forL_cons (env1 := [.shr (.int n), x1, .shr (.str w), .shr (tabD n (odT f)), .shr (.int (x : Int)), x5]) (by simp [f4])]
      have e : b__law_settled_1 [.shr (.int n), x1, .shr (.str w), .shr (tabD n (odT f)), .shr (.int (x : Int)), x5] M = .next [.shr (.int n), x1, .shr (.str w), .shr (tabD n (odT (passT w n f))), .shr (.int (x : Int)), .shr (tabD n (odT (passT w n f)))] M := by
        simp only [Bool.not_eq_true] at q
        simp only [q] at eq
        simp [b__law_settled_1, po, f5, eq]
      rw [e, forK_next]
      exact h2 x1 (.shr (.int (x : Int))) (.shr (tabD n (odT (passT w n f)))) M trivial trivial
theorem law_settled_ok (hn : n ≤ 10) (h2 : 1 ≤ n) (hg : NN n g) (hc : ∃ cov, CovOk w n g cov) : ∃ f, IsCl w n g f ∧ ∀ M, c__law_settled [.int (n : Int), tabD n (odT g), .str w] M = .ok (tabD n (odT f)) M := by
  obtain ⟨cov, hc⟩ := hc
  obtain ⟨f, h1, h3⟩ := settled_loop (w := w) (g := g) hn (List.range (4 * n * n)) 0 g .zero
  refine ⟨f, ?_, fun M => ?_⟩
  · rcases h1 with h1 | h1
    · exact h1
    · refine h1.cl hg hc ?_
      rw [List.length_range]
      have : 4 * n * 1 ≤ 4 * n * n := Nat.mul_le_mul_left _ h2
      omega
  · have e0 : env0 N__law_settled.length [.int (n : Int), tabD n (odT g), .str w] = [.shr (.int n), .shr (tabD n (odT g)), .shr (.str w), .no, .no, .no] := rfl
    have c1 : CMulB 4 (n : Int) := cmul_l (by decide)
    have c2 : ∀ i, CMulB i (n : Int) := fun i => cmul_r (by omega)
    have m1 : 4 * n * n ≤ 4 * 10 * 10 := Nat.mul_le_mul (by omega) hn
    have r1 : rngL1 (.int (4 * (n : Int) * (n : Int))) M = .ok ((List.range (4 * n * n)).map fun (k : Nat) => D.int (k : Int)) M := by
      have := rngL1_n (M := M) (n := 4 * n * n) (by omega)
      rw [← this]
      congr 2
    unfold c__law_settled
    rw [e0]
    rcases h3 (.shr (tabD n (odT g))) .no .no M trivial trivial with e | ⟨y4, y5, e⟩
    · simp [b__law_settled, c1, c2, r1, e]
    · simp [b__law_settled, c1, c2, r1, e]
end
end HP

set_option maxRecDepth 100000
set_option maxHeartbeats 1000000
namespace HP
open MP PySem L2
theorem word_ok {M : List D} {n : Nat} (hj : JarAt M n) : ∃ w M', c__law_word [.cel n] M = .ok (.str w) M' ∧ w ∈ words ∧ JarAt M' n := by
  have e0 : env0 N__law_word.length [.cel n] = [.shr (.cel n)] := rfl
  obtain ⟨v, M', e, hv, hj'⟩ := pick_ok (ms := [.str "both", .str "both", .str "long", .str "parts"]) hj (by simp) (by simp)
  have : ∃ w, v = .str w ∧ w ∈ words := by
    simp at hv
    rcases hv with rfl | rfl | rfl
    · exact ⟨_, rfl, by simp [words]⟩
    · exact ⟨_, rfl, by simp [words]⟩
    · exact ⟨_, rfl, by simp [words]⟩
  obtain ⟨w, rfl, hw⟩ := this
  refine ⟨w, M', ?_, hw, hj'⟩
  unfold c__law_word
  rw [e0]
  simp [b__law_word, e]
/-- prices from 0 to B -/
def InB (n : Nat) (g : Tab) (B : Int) : Prop := ∀ i j, At n i j → ∃ v, g i j = some v ∧ 0 ≤ v ∧ v ≤ B
theorem InB.nn {n : Nat} {g : Tab} {B : Int} (h : InB n g B) : NN n g := fun i j v a e => by
  obtain ⟨u, e1, l, _⟩ := h i j a
  rw [e1] at e; cases e; exact l
end HP

set_option maxRecDepth 100000
set_option maxHeartbeats 1000000
namespace HP
open MP PySem L2
def wayD : Option Wy → D
  | none => .non
  | some p => .tup [.int p.1, .tup (p.2.map hDp)]
@[simp] theorem wayD_none : wayD none = .non := rfl
@[simp] theorem wayD_some {p : Wy} : wayD (some p) = .tup [.int p.1, .tup (p.2.map hDp)] := rfl
def cheaper (a b : Wy) : Bool := HT.lexLt [b.1, (b.2.length : Int)] [a.1, (a.2.length : Int)]
def betterW : Option Wy → Option Wy → Option Wy
  | none, o => o
  | some a, none => some a
  | some a, some b => if cheaper a b = true then some b else some a
theorem cheaper_le {a b : Wy} : if cheaper a b = true then b.1 ≤ a.1 else a.1 ≤ b.1 := by
  split
  · rename_i h
    unfold cheaper at h
    rw [HT.lexLt_cons] at h
    split at h
    · omega
    · have := of_decide_eq_true h; omega
  · rename_i h
    unfold cheaper at h
    rw [HT.lexLt_cons] at h
    split at h
    · omega
    · have : ¬ b.1 < a.1 := fun z => h (decide_eq_true z)
      omega
theorem betterW_ss {a b : Wy} : betterW (some a) (some b) = if cheaper a b = true then some b else some a := rfl
theorem better_ok {a b : Option Wy} {M : List D} : c_better [wayD a, wayD b] M = .ok (wayD (betterW a b)) M := by
  have e0 : env0 N_better.length [wayD a, wayD b] = [.shr (wayD a), .shr (wayD b)] := rfl
  unfold c_better
  rw [e0]
  cases a with
  | none => cases b <;> simp [b_better, betterW]
  | some a =>
    cases b with
    | none => simp [b_better, betterW]
    | some b =>
      have lt : ∀ M, oLt (.tup [.int b.1, .int (b.2.length : Int)]) (.tup [.int a.1, .int (a.2.length : Int)]) M = .ok (.bl (cheaper a b)) M := fun M => rfl
      simp [b_better, betterW, lt]
      split <;> simp
def bestW (xs : List (Option Wy)) : Option Wy := xs.foldl betterW none
theorem betterW_l {a : Wy} {b : Option Wy} : ∃ x, betterW (some a) b = some x ∧ x.1 ≤ a.1 := by
  cases b with
  | none => exact ⟨a, rfl, Int.le_refl _⟩
  | some b =>
    have := cheaper_le (a := a) (b := b)
    rw [betterW_ss]
    split
    · rename_i h; rw [if_pos h] at this; exact ⟨b, rfl, this⟩
    · exact ⟨a, rfl, Int.le_refl _⟩
theorem betterW_r {a : Option Wy} {b : Wy} : ∃ x, betterW a (some b) = some x ∧ x.1 ≤ b.1 := by
  cases a with
  | none => exact ⟨b, rfl, Int.le_refl _⟩
  | some a =>
    have := cheaper_le (a := a) (b := b)
    rw [betterW_ss]
    split
    · exact ⟨b, rfl, Int.le_refl _⟩
    · rename_i h; rw [if_neg h] at this; exact ⟨a, rfl, this⟩
theorem betterW_mem {a b : Option Wy} {x : Wy} (h : betterW a b = some x) : a = some x ∨ b = some x := by
  cases a with
  | none => exact .inr h
  | some a =>
    cases b with
    | none => exact .inl h
    | some b =>
      rw [betterW_ss] at h
      split at h
      · exact .inr h
      · exact .inl h
theorem bestW_mem {xs : List (Option Wy)} {x : Wy} (h : bestW xs = some x) : some x ∈ xs := by
  have key := foldl_inv (s := betterW) (xs := xs) (b := (none : Option Wy)) (fun pre c => ∀ x, c = some x → some x ∈ pre) (fun x e => nomatch e) (by
    intro pre y post c e p x hx
    rcases betterW_mem hx with h | h
    · exact List.mem_append_left _ (p x h)
    · rw [h]; simp)
  exact key x h
theorem bestW_le {xs : List (Option Wy)} {y : Wy} (h : some y ∈ xs) : ∃ x, bestW xs = some x ∧ x.1 ≤ y.1 := by
  have key := foldl_inv (s := betterW) (xs := xs) (b := (none : Option Wy)) (fun pre c => ∀ y, some y ∈ pre → ∃ x, c = some x ∧ x.1 ≤ y.1) (fun y e => nomatch e) (by
    intro pre z post c e p y hy
    rcases List.mem_append.mp hy with h | h
    · obtain ⟨x, rfl, l⟩ := p y h
      obtain ⟨x', e', l'⟩ := betterW_l (a := x) (b := z)
      exact ⟨x', e', by omega⟩
    · simp at h
      subst h
      exact betterW_r)
  exact key y h
theorem best_of_ok {xs : List (Option Wy)} {M : List D} : c_best_of [.lst (xs.map wayD)] M = .ok (wayD (bestW xs)) M := by
  have e0 : env0 N_best_of.length [.lst (xs.map wayD)] = [.shr (.lst (xs.map wayD)), .no, .no] := rfl
  obtain ⟨env2, M2, e1, y2, f2, rfl, rfl⟩ := forL_pre (gd := gN 2) (b := b_best_of_1) (enc := wayD) (xs := xs)
    (P := fun pre env M' => ∃ y2 : MP.B, y2.free ∧ env = [.shr (.lst (xs.map wayD)), .shr (wayD (pre.foldl betterW none)), y2] ∧ M' = M) (by
      rintro pre x post env M' e ⟨y2, f2, rfl, rfl⟩
      have b := better_ok (a := pre.foldl betterW none) (b := x) (M := M')
      exact ⟨_, by simp [f2]; rfl, _, _, .inl (by simp [b_best_of_1, b]; rfl), .shr (wayD x), trivial, by simp, rfl⟩)
    (env := [.shr (.lst (xs.map wayD)), .shr .non, .no]) (M := M) ⟨.no, trivial, rfl, rfl⟩
  unfold c_best_of
  rw [e0]
  simp [b_best_of, e1, bestW]
end HP

set_option maxRecDepth 100000
set_option maxHeartbeats 1000000
namespace HP
open MP PySem L2
/-! ### the ways from a stop -/
abbrev WF := Nat → Option Wy
def upF (F : WF) (b : Nat) (v : Option Wy) : WF := fun e => if e = b then v else F e
def wStep (w : Str) (g : Tab) (s : Nat) (way : Option Wy) (F : WF) (h : Nat × Nat) : WF := match way, g h.1 h.2 with
  | some x, some p => if fits w h.1 h.2 s then upF F h.2 (betterW (F h.2) (some (x.1 + p, x.2 ++ [h]))) else F
  | _, _ => F
def sStep (w : Str) (n : Nat) (g : Tab) (F : WF) (s : Nat) : WF := (hauls n).foldl (wStep w g s (F s)) F
def f0 (i : Nat) : WF := fun e => if e = i then some (0, []) else none
def waysF (w : Str) (n : Nat) (g : Tab) (i : Nat) : WF := ((List.range (n - i)).map fun k => i + k).foldl (sStep w n g) (f0 i)
section
variable {w : Str} {n : Nat} {g : Tab} {i s : Nat} {F : WF}
def Snd (w : Str) (n : Nat) (g : Tab) (i : Nat) (F : WF) : Prop := ∀ e c cs, F e = some (c, cs) → Way w n g i e c cs
def Imp (F F' : WF) : Prop := ∀ e x, F e = some x → ∃ y, F' e = some y ∧ y.1 ≤ x.1
theorem Imp.refl : Imp F F := fun _ x h => ⟨x, h, Int.le_refl _⟩
theorem Imp.trans {F' F2 : WF} (a : Imp F F') (b : Imp F' F2) : Imp F F2 := fun e x h => by
  obtain ⟨y, h1, l1⟩ := a e x h
  obtain ⟨z, h2, l2⟩ := b e y h1
  exact ⟨z, h2, by omega⟩
theorem upF_same {b : Nat} {v : Option Wy} : upF F b v b = v := by simp [upF]
theorem upF_ne {b e : Nat} {v : Option Wy} (h : e ≠ b) : upF F b v e = F e := by simp [upF, h]
theorem wStep_imp {way : Option Wy} {h : Nat × Nat} : Imp F (wStep w g s way F h) := by
  unfold wStep
  split
  · split
    · intro e x hx
      by_cases q : e = h.2
      · subst q
        rw [upF_same, hx]
        exact betterW_l
      · rw [upF_ne q]; exact ⟨x, hx, Int.le_refl _⟩
    · exact Imp.refl
  · exact Imp.refl
theorem wStep_snd {way : Option Wy} {h : Nat × Nat} (hh : h ∈ hauls n) (hw : ∀ x, way = some x → Way w n g i s x.1 x.2) (hF : Snd w n g i F) : Snd w n g i (wStep w g s way F h) := by
  unfold wStep
  split
  · rename_i x p e1
    split
    · rename_i hf
      intro e c cs he
      by_cases q : e = h.2
      · subst q
        rw [upF_same] at he
        rcases betterW_mem he with z | z
        · exact hF _ c cs z
        · cases z
          exact (hw x rfl).snoc (hauls_lt hh) e1 hf
      · rw [upF_ne q] at he; exact hF e c cs he
    · exact hF
  · exact hF
theorem sStep_ok (hF : Snd w n g i F) : Snd w n g i (sStep w n g F s) ∧ Imp F (sStep w n g F s) ∧ ∀ x, F s = some x → ∀ a b p, At n a b → g a b = some p → fits w a b s → ∃ y, sStep w n g F s b = some y ∧ y.1 ≤ x.1 + p := by
  have key := foldl_inv (s := wStep w g s (F s)) (xs := hauls n) (b := F) (fun pre c => Snd w n g i c ∧ Imp F c ∧ ∀ x, F s = some x → ∀ h ∈ pre, ∀ p, g h.1 h.2 = some p → fits w h.1 h.2 s → ∃ y, c h.2 = some y ∧ y.1 ≤ x.1 + p) ⟨hF, Imp.refl, fun _ _ _ h => nomatch h⟩ (by
    rintro pre h post c e ⟨k1, k2, k3⟩
    have hh : h ∈ hauls n := by rw [e]; simp
    refine ⟨wStep_snd hh (fun x hx => hF s x.1 x.2 hx) k1, k2.trans wStep_imp, fun x hx h' hm p hp hf => ?_⟩
    rcases List.mem_append.mp hm with z | z
    · obtain ⟨y, y1, y2⟩ := k3 x hx h' z p hp hf
      obtain ⟨y', y3, y4⟩ := wStep_imp (w := w) (g := g) (s := s) (way := F s) (h := h) h'.2 y y1
      exact ⟨y', y3, by omega⟩
    · simp at z
      subst z
      have e2 : wStep w g s (F s) c h' = upF c h'.2 (betterW (c h'.2) (some (x.1 + p, x.2 ++ [h']))) := by
        unfold wStep
        rw [hx, hp]
        dsimp only
        rw [if_pos hf]
      rw [e2, upF_same]
      exact betterW_r)
  exact ⟨key.1, key.2.1, fun x hx a b p v hp hf => key.2.2 x hx (a, b) (mem_hauls.mpr v) p hp hf⟩
/-- all ways whose last haul is taken ahead of s -/
def Opt (w : Str) (n : Nat) (g : Tab) (i s : Nat) (F : WF) : Prop := (∃ y, F i = some y ∧ y.1 ≤ 0) ∧ ∀ s' < s, ∀ c cs, Way w n g i s' c cs → ∀ a b p, At n a b → g a b = some p → fits w a b s' → ∃ y, F b = some y ∧ y.1 ≤ c + p
theorem Opt.get (h : Opt w n g i s F) {e : Nat} {c : Int} {cs : List (Nat × Nat)} (k : Way w n g i e c cs) (he : e ≤ s) : ∃ y, F e = some y ∧ y.1 ≤ c := by
  cases k with
  | nil => exact h.1
  | snoc k v hp hf => exact h.2 _ (by have := fits_lt v hf; omega) _ _ k _ _ _ v hp hf
theorem waysF_ok (hi : i < n) : Snd w n g i (waysF w n g i) ∧ ∀ e c cs, Way w n g i e c cs → ∃ y, waysF w n g i e = some y ∧ y.1 ≤ c := by
  have b1 : Snd w n g i (f0 i) := fun e c cs h => by
    unfold f0 at h
    split at h
    · rename_i q; subst q; cases h; exact .nil
    · cases h
  have b2 : Opt w n g i (i + ([] : List Nat).length) (f0 i) := ⟨⟨(0, []), by simp [f0], Int.le_refl _⟩, fun s' hs c cs k => by
    have := k.ge
    simp at hs
    omega⟩
  have key := foldl_inv (s := sStep w n g) (xs := (List.range (n - i)).map fun k => i + k) (b := f0 i) (fun pre c => Snd w n g i c ∧ Opt w n g i (i + pre.length) c) ⟨b1, b2⟩ (by
    rintro pre s post c e ⟨k1, k2⟩
    have hs : s = i + pre.length := by
      have e2 : ((List.range (n - i)).map fun k => i + k)[pre.length]? = some s := by rw [e]; simp
      have hl : pre.length < n - i := by have := congrArg List.length e; simp at this; omega
      rw [List.getElem?_map, List.getElem?_range hl] at e2
      simpa using e2.symm
    obtain ⟨j1, j2, j3⟩ := sStep_ok (s := s) k1
    refine ⟨j1, ?_, fun s' hs' cc cs k a b p v hp hf => ?_⟩
    · obtain ⟨y, y1, y2⟩ := k2.1
      obtain ⟨z, z1, z2⟩ := j2 i y y1
      exact ⟨z, z1, by omega⟩
    · simp at hs'
      by_cases q : s' < i + pre.length
      · obtain ⟨y, y1, y2⟩ := k2.2 s' q cc cs k a b p v hp hf
        obtain ⟨z, z1, z2⟩ := j2 b y y1
        exact ⟨z, z1, by omega⟩
      · have e3 : s' = s := by omega
        subst e3
        obtain ⟨y, y1, y2⟩ := k2.get k (by omega)
        obtain ⟨z, z1, z2⟩ := j3 y y1 a b p v hp hf
        exact ⟨z, z1, by omega⟩)
  refine ⟨key.1, fun e c cs k => ?_⟩
  refine key.2.get k ?_
  have := k.lt hi
  simp
  omega
end
/-! over data -/
def KF (kvs : List (Key × D)) (F : WF) : Prop := ∀ e : Nat, valK kvs (.inl (e : Int)) = (F e).map fun x => wayD (some x)
theorem valK_cons {κ : Type} [DecidableEq κ] {p : κ × D} {l : List (κ × D)} {k : κ} : valK (p :: l) k = if p.1 = k then some p.2 else valK l k := by
  unfold valK
  rw [List.find?_cons]
  by_cases e : p.1 = k
  · rw [if_pos e, decide_eq_true e]; rfl
  · rw [if_neg e, decide_eq_false e]
theorem valK_repl_ne {κ : Type} [DecidableEq κ] {k k' : κ} {v : D} (h : k' ≠ k) : ∀ l : List (κ × D), valK (l.map fun kv => if kv.1 = k then (kv.1, v) else kv) k' = valK l k'
  | [] => rfl
  | p :: l => by
    rw [List.map_cons, valK_cons, valK_cons, valK_repl_ne h l]
    by_cases e : p.1 = k
    · rw [if_pos e, if_neg (fun z : p.1 = k' => h (z.symm.trans e)), if_neg (fun z => h (z.symm.trans e))]
    · rw [if_neg e]
theorem valK_repl_eq {κ : Type} [DecidableEq κ] {k : κ} {v : D} : ∀ l : List (κ × D), (∃ q ∈ l, q.1 = k) → valK (l.map fun kv => if kv.1 = k then (kv.1, v) else kv) k = some v
  | [], ⟨_, h, _⟩ => by cases h
  | p :: l, ⟨q, h, e⟩ => by
    rw [List.map_cons, valK_cons]
    by_cases e1 : p.1 = k
    · rw [if_pos e1, if_pos e1]
    · rw [if_neg e1, if_neg e1]
      rcases List.mem_cons.mp h with z | z
      · exact absurd (z ▸ e) e1
      · exact valK_repl_eq l ⟨q, z, e⟩
theorem valK_app {κ : Type} [DecidableEq κ] {k k' : κ} {v : D} : ∀ l : List (κ × D), (∀ q ∈ l, q.1 ≠ k) → valK (l ++ [(k, v)]) k' = if k' = k then some v else valK l k'
  | [], _ => by
    rw [List.nil_append, valK_cons]
    by_cases e : k' = k
    · rw [if_pos e, if_pos e.symm]
    · rw [if_neg e, if_neg (fun z : k = k' => e z.symm)]
  | p :: l, h => by
    rw [List.cons_append, valK_cons, valK_cons, valK_app l fun q hq => h q (by simp [hq])]
    by_cases e1 : p.1 = k'
    · rw [if_pos e1, if_pos e1, if_neg (fun z => h p (by simp) (e1.trans z))]
    · rw [if_neg e1, if_neg e1]
theorem valK_ins {κ : Type} [DecidableEq κ] {kvs : List (κ × D)} {k k' : κ} {v : D} : valK (insK kvs k v) k' = if k' = k then some v else valK kvs k' := by
  unfold insK
  split
  · rename_i h
    obtain ⟨q, hq, e⟩ := List.any_eq_true.mp h
    by_cases e2 : k' = k
    · subst e2
      rw [if_pos rfl, valK_repl_eq kvs ⟨q, hq, of_decide_eq_true e⟩]
    · rw [if_neg e2, valK_repl_ne e2]
  · rename_i h
    exact valK_app kvs fun q hq e => h (List.any_eq_true.mpr ⟨q, hq, decide_eq_true e⟩)
theorem ins_len {κ : Type} [DecidableEq κ] {kvs : List (κ × D)} {k : κ} {v : D} : (insK kvs k v).length ≤ kvs.length + 1 := by
  unfold insK
  split <;> simp
theorem KF.up {kvs : List (Key × D)} {F : WF} (h : KF kvs F) {b : Nat} {x : Wy} : KF (insK kvs (.inl (b : Int)) (wayD (some x))) (upF F b (some x)) := fun e => by
  rw [valK_ins]
  by_cases q : e = b
  · subst q; rw [if_pos rfl, upF_same]; rfl
  · rw [if_neg (fun z => q (by have := Sum.inl.inj z; omega)), upF_ne q]; exact h e
theorem KF.get {kvs : List (Key × D)} {F : WF} (h : KF kvs F) (e : Nat) {M : List D} : getR .non (some (valK kvs (.inl (e : Int)))) M = .ok (wayD (F e)) M := by
  rw [h e]
  cases F e <;> rfl
section
variable {M : List D} {n s i : Nat} {g : Tab} {w : Str} {F : WF} {kvs : List (Key × D)}
theorem ways_1 (hn : n ≤ 10) (hs : s < n) {a b : Nat} (v : At n a b) {way : Option Wy} (hw : ∀ x, way = some x → Way w n g i s x.1 x.2) (hk : KF kvs F) (hl : kvs.length < 100000) {x0 x1 x2 x9 : MP.B} (f9 : x9.free) :
    ∃ (kvs' : List (Key × D)) (y9 : MP.B), y9.free ∧ KF kvs' (wStep w g s way F (a, b)) ∧ kvs'.length ≤ kvs.length + 1 ∧
      b_ways_from_1 [x0, x1, x2, .shr (.str w), .own (.dK kvs), .shr (.int (s : Int)), .shr (wayD way), .shr (hD a b), .shr (od (g a b)), x9] M = .next [x0, x1, x2, .shr (.str w), .own (.dK kvs'), .shr (.int (s : Int)), .shr (wayD way), .shr (hD a b), .shr (od (g a b)), y9] M := by
  have fe : ∀ {env : EnvM} {M : List D}, env[3]? = some (.shr (.str w)) → env[5]? = some (.shr (.int (s : Int))) → env[7]? = some (.shr (hD a b)) →
      (eIf (e2 oEq (eVB 3) (eC (.str "parts"))) (e2 oEq (e2 oIx (eVB 7) (eC (.int 0))) (eVB 5)) (eChain oLe oLt (e2 oIx (eVB 7) (eC (.int 0))) (eVB 5) (e2 oIx (eVB 7) (eC (.int 1))))) env M = .ok (.bl (decide (fits w a b s))) M := by
    intro env M h3 h5 h7
    by_cases q : w = "parts"
    · have : decide (fits w a b s) = (a == s) := by
        unfold fits
        rw [Bool.eq_iff_iff]; simp [q]
      rw [this]
      have z : ((a : Int) == (s : Int)) = (a == s) := by rw [Bool.eq_iff_iff]; simp; omega
      simp [h3, h5, h7, strEq, q, z]
    · have : decide (fits w a b s) = decide (a ≤ s ∧ s < b) := by
        unfold fits
        rw [Bool.eq_iff_iff]; simp [q]
      rw [this]
      by_cases r : a ≤ s
      · simp [h3, h5, h7, strEq, q, r]
      · simp [h3, h5, h7, strEq, q, r]
  by_cases q : fits w a b s ∧ way.isSome = true ∧ (g a b).isSome = true
  · obtain ⟨hf, q1, q2⟩ := q
    obtain ⟨x, rfl⟩ := Option.isSome_iff_exists.mp q1
    obtain ⟨p, hp⟩ := Option.isSome_iff_exists.mp q2
    have wy := hw x rfl
    have le := wy.len
    have e2 : wStep w g s (some x) F (a, b) = upF F b (betterW (F b) (some (x.1 + p, x.2 ++ [(a, b)]))) := by
      unfold wStep
      dsimp only
      rw [hp]
      dsimp only
      rw [if_pos hf]
    obtain ⟨y, hy, _⟩ := betterW_r (a := F b) (b := (x.1 + p, x.2 ++ [(a, b)]))
    refine ⟨insK kvs (.inl (b : Int)) (wayD (some y)), .shr (.bl true), trivial, ?_, ins_len, ?_⟩
    · rw [e2, hy]; exact hk.up
    · have gt := fun M => hk.get b (M := M)
      have bt := fun M => better_ok (a := F b) (b := some (x.1 + p, x.2 ++ [(a, b)])) (M := M)
      rw [hy] at bt
      have sz : x.2.length + 1 ≤ sizeLine := sz45 (by omega)
      have st : stSub (.int (b : Int)) (wayD (some y)) (.dK kvs) = some (.dK (insK kvs (.inl (b : Int)) (wayD (some y)))) := by
        show (if kvs.length < sizeLine then some (D.dK (insK kvs (.inl (b : Int)) (wayD (some y)))) else none) = _
        rw [if_pos (Nat.lt_trans hl (by decide))]
      have s1 := fun M => store_own (M := M) (i := 4) (env := [x0, x1, x2, .shr (.str w), .own (.dK kvs), .shr (.int (s : Int)), .shr (wayD (some x)), .shr (hD a b), .shr (.int p), .shr (.bl true)]) rfl st
      have hh : has 4 [x0, x1, x2, .shr (.str w), .own (.dK kvs), .shr (.int (s : Int)), .shr (wayD (some x)), .shr (hD a b), .shr (.int p), .shr (.bl true)] = true := rfl
      simp only [wayD_some, List.map_append, List.map_cons, List.map_nil] at bt s1 hh
      have fe1 := fun M => fe (env := [x0, x1, x2, .shr (.str w), .own (.dK kvs), .shr (.int (s : Int)), .shr (wayD (some x)), .shr (hD a b), .shr (.int p), x9]) (M := M) rfl rfl rfl
      simp only [wayD_some, hf, decide_true] at fe1
      have ln : ∀ M, lenR .tup (List.map hDp x.2 ++ [hD a b]) M = .ok (.tup (List.map hDp x.2 ++ [hD a b])) M := fun M => lenR_le (by simpa using sz)
      simp [b_ways_from_1, hp, fe1, f9, gt, bt, s1, hh, ln, -eIf_eq]
  · have e2 : wStep w g s way F (a, b) = F := by
      unfold wStep
      split
      · rename_i x p e1
        dsimp only at e1
        rw [if_neg (fun z => q ⟨z, rfl, by rw [e1]; rfl⟩)]
      · rfl
    refine ⟨kvs, .shr (.bl (decide (fits w a b s))), trivial, by rw [e2]; exact hk, by omega, ?_⟩
    have fe1 := fun M => fe (env := [x0, x1, x2, .shr (.str w), .own (.dK kvs), .shr (.int (s : Int)), .shr (wayD way), .shr (hD a b), .shr (od (g a b)), x9]) (M := M) rfl rfl rfl
    cases way with
    | none => simp only [wayD_none] at fe1; simp [b_ways_from_1, fe1, f9, -eIf_eq]
    | some x =>
      cases hp : g a b with
      | none => simp only [wayD_some, hp, od_none] at fe1; simp [b_ways_from_1, fe1, f9, -eIf_eq]
      | some p =>
        have hf : ¬ fits w a b s := fun z => q ⟨z, rfl, by rw [hp]; rfl⟩
        simp only [wayD_some, hp, od_some, hf, decide_false] at fe1
        simp [b_ways_from_1, fe1, f9, hf, -eIf_eq]
end
end HP

set_option maxRecDepth 100000
set_option maxHeartbeats 1000000
namespace HP
open MP PySem L2
section
variable {n s i : Nat} {g : Tab} {w : Str} {F : WF} {kvs : List (Key × D)}
theorem ways_2 (hn : n ≤ 10) (hs : s < n) (hF : Snd w n g i F) (hk : KF kvs F) (hl : kvs.length < 10000) {x0 x1 x6 x7 x8 x9 : MP.B} {M : List D} (f6 : x6.free) (f7 : x7.free) (f8 : x8.free) (f9 : x9.free) :
    ∃ (kvs' : List (Key × D)) (y6 y7 y8 y9 : MP.B), y6.free ∧ y7.free ∧ y8.free ∧ y9.free ∧ KF kvs' (sStep w n g F s) ∧ kvs'.length ≤ kvs.length + 45 ∧
      b_ways_from_2 [x0, x1, .shr (tabD n (odT g)), .shr (.str w), .own (.dK kvs), .shr (.int (s : Int)), x6, x7, x8, x9] M = .next [x0, x1, .shr (tabD n (odT g)), .shr (.str w), .own (.dK kvs'), .shr (.int (s : Int)), y6, y7, y8, y9] M := by
  obtain ⟨env2, M2, e1, kvs', y7, y8, y9, g7, g8, g9, k1, k2, rfl, rfl⟩ := forL_pre (gd := gT [7, 8]) (b := b_ways_from_1) (enc := fun h => .tup [hDp h, odT g h.1 h.2]) (xs := hauls n)
    (P := fun pre env M' => ∃ (kvs' : List (Key × D)) (y7 y8 y9 : MP.B), y7.free ∧ y8.free ∧ y9.free ∧ KF kvs' (pre.foldl (wStep w g s (F s)) F) ∧ kvs'.length ≤ kvs.length + pre.length ∧ env = [x0, x1, .shr (tabD n (odT g)), .shr (.str w), .own (.dK kvs'), .shr (.int (s : Int)), .shr (wayD (F s)), y7, y8, y9] ∧ M' = M) (by
      rintro pre x post env M' e ⟨kvs', y7, y8, y9, g7, g8, g9, k1, k2, rfl, rfl⟩
      have hx : x ∈ hauls n := by rw [e]; simp
      have pl : pre.length ≤ 45 := by
        have := congrArg List.length e
        simp at this
        have := hauls_len n hn
        omega
      obtain ⟨k3, z9, g9', j1, j2, e2⟩ := ways_1 (M := M') (g := g) (w := w) (way := F s) (i := i) hn hs (hauls_lt hx) (fun y hy => hF s y.1 y.2 hy) k1 (by omega) (x0 := x0) (x1 := x1) (x2 := .shr (tabD n (odT g))) g9
      exact ⟨_, by simp [g7, g8]; rfl, _, _, .inl e2, k3, .shr (hDp x), .shr (od (g x.1 x.2)), z9, trivial, trivial, g9', by rw [List.foldl_append]; exact j1, by simp; omega, rfl, rfl⟩)
    (env := [x0, x1, .shr (tabD n (odT g)), .shr (.str w), .own (.dK kvs), .shr (.int (s : Int)), .shr (wayD (F s)), x7, x8, x9]) (M := M) ⟨kvs, x7, x8, x9, f7, f8, f9, hk, by simp, rfl, rfl⟩
  have gt := fun M => hk.get s (M := M)
  have hl2 := hauls_len n hn
  refine ⟨kvs', .shr (wayD (F s)), y7, y8, y9, trivial, g7, g8, g9, k1, by omega, ?_⟩
  simp [b_ways_from_2, gt, f6, items_tab]
  exact e1
theorem ways_from_ok (hn : n ≤ 10) (hi : i < n) : ∃ kvs, KF kvs (waysF w n g i) ∧ ∀ M, ∃ kvs', c_ways_from [.int (i : Int), .int (n : Int), tabD n (odT g), .str w] M = .ok (.dK kvs') M ∧ KF kvs' (waysF w n g i) := by
  have main : ∀ M, ∃ kvs', c_ways_from [.int (i : Int), .int (n : Int), tabD n (odT g), .str w] M = .ok (.dK kvs') M ∧ KF kvs' (waysF w n g i) := fun M => by
    have e0 : env0 N_ways_from.length [.int (i : Int), .int (n : Int), tabD n (odT g), .str w] = [.shr (.int i), .shr (.int n), .shr (tabD n (odT g)), .shr (.str w), .no, .no, .no, .no, .no, .no] := rfl
    have k0 : KF [(.inl (i : Int), .tup [.int 0, .tup []])] (f0 i) := fun e => by
      rw [valK_cons]
      unfold f0
      by_cases q : e = i
      · subst q; rw [if_pos rfl, if_pos rfl]; rfl
      · rw [if_neg (fun z => q (by have := Sum.inl.inj z; omega)), if_neg q]; rfl
    have s0 : Snd w n g i (f0 i) := fun e c cs h => by
      unfold f0 at h
      split at h
      · rename_i q; subst q; cases h; exact .nil
      · cases h
    have mm : (List.range (n - i)).map (fun (k : Nat) => D.int ((i + k : Nat) : Int)) = ((List.range (n - i)).map fun k => i + k).map fun (k : Nat) => D.int (k : Int) := by rw [List.map_map]; rfl
    obtain ⟨env2, M2, e1, kvs', y5, y6, y7, y8, y9, g5, g6, g7, g8, g9, k1, k2, k3, rfl, rfl⟩ := forL_pre (gd := gN 5) (b := b_ways_from_2) (enc := fun (k : Nat) => D.int (k : Int)) (xs := (List.range (n - i)).map fun k => i + k)
      (P := fun pre env M' => ∃ (kvs' : List (Key × D)) (y5 y6 y7 y8 y9 : MP.B), y5.free ∧ y6.free ∧ y7.free ∧ y8.free ∧ y9.free ∧ KF kvs' (pre.foldl (sStep w n g) (f0 i)) ∧ Snd w n g i (pre.foldl (sStep w n g) (f0 i)) ∧ kvs'.length ≤ 1 + 45 * pre.length ∧
        env = [.shr (.int i), .shr (.int n), .shr (tabD n (odT g)), .shr (.str w), .own (.dK kvs'), y5, y6, y7, y8, y9] ∧ M' = M) (by
        rintro pre x post env M' e ⟨kvs', y5, y6, y7, y8, y9, g5, g6, g7, g8, g9, k1, k2, k3, rfl, rfl⟩
        have hx : x < n := by
          have : x ∈ (List.range (n - i)).map fun k => i + k := by rw [e]; simp
          obtain ⟨k, hk, rfl⟩ := List.mem_map.mp this
          rw [List.mem_range] at hk
          omega
        have pl : pre.length ≤ 10 := by
          have := congrArg List.length e
          simp at this
          omega
        obtain ⟨k4, z6, z7, z8, z9, q6, q7, q8, q9, j1, j2, e2⟩ := ways_2 (M := M') (g := g) (w := w) (i := i) hn hx k2 k1 (by omega) (x0 := .shr (.int i)) (x1 := .shr (.int n)) g6 g7 g8 g9
        exact ⟨_, by simp [g5], _, _, .inl e2, k4, .shr (.int x), z6, z7, z8, z9, trivial, q6, q7, q8, q9, by rw [List.foldl_append]; exact j1, by rw [List.foldl_append]; exact (sStep_ok k2).1, by simp; omega, rfl, rfl⟩)
      (env := [.shr (.int i), .shr (.int n), .shr (tabD n (odT g)), .shr (.str w), .own (.dK [(.inl (i : Int), .tup [.int 0, .tup []])]), .no, .no, .no, .no, .no]) (M := M) ⟨_, .no, .no, .no, .no, .no, trivial, trivial, trivial, trivial, trivial, k0, s0, by simp, rfl, rfl⟩
    refine ⟨kvs', ?_, k1⟩
    have sh := bShare_own (M := M2) (i := 4) (env := [.shr (.int i), .shr (.int n), .shr (tabD n (odT g)), .shr (.str w), .own (.dK kvs'), y5, y6, y7, y8, y9]) rfl
    rw [← mm] at e1
    unfold c_ways_from
    rw [e0]
    simp [b_ways_from, rngL2_n (show i ≤ 1000000 by omega) (show n ≤ 1000000 by omega), e1, sh, -Int.natCast_add]
  obtain ⟨kvs', _, k⟩ := main []
  exact ⟨kvs', k, main⟩
end
end HP

set_option maxRecDepth 100000
set_option maxHeartbeats 1000000
namespace HP
open MP PySem L2
def arL (n : Nat) (g : Tab) (i j : Nat) : List (Nat × Nat) := ((hauls n).filter fun o => decide (o.1 ≤ i ∧ j ≤ o.2)).filter fun o => (g o.1 o.2).isSome
def oneW (g : Tab) (o : Nat × Nat) : Option Wy := (g o.1 o.2).map fun p => (p, [o])
def covT (w : Str) (n : Nat) (g : Tab) (i j : Nat) : Option Wy :=
  if w = "long" then bestW ((arL n g i j).map (oneW g)) else if w = "parts" then waysF w n g i j else bestW ((List.range (n - j)).map fun k => waysF w n g i (j + k))
theorem covT_ok {w : Str} {n : Nat} {g : Tab} : CovOk w n g (covT w n g) := by
  refine ⟨fun i j c cs a e => ?_, fun i j c cs a h => ?_⟩
  · unfold covT at e
    unfold Cover
    by_cases hl : w = "long"
    · rw [if_pos hl] at e ⊢
      obtain ⟨o, ho, e2⟩ := List.mem_map.mp (bestW_mem e)
      unfold arL at ho
      rw [List.mem_filter, List.mem_filter] at ho
      obtain ⟨⟨h1, h2⟩, h3⟩ := ho
      obtain ⟨h4, h5⟩ := of_decide_eq_true h2
      unfold oneW at e2
      cases q : g o.1 o.2 with
      | none => rw [q] at e2; cases e2
      | some p => rw [q] at e2; cases e2; exact ⟨o.1, o.2, h4, h5, hauls_lt h1, q, rfl⟩
    · rw [if_neg hl] at e ⊢
      have ok := waysF_ok (w := w) (n := n) (g := g) (i := i) (by have := a.1; have := a.2; omega)
      by_cases hp : w = "parts"
      · rw [if_pos hp] at e
        exact ⟨j, ok.1 j c cs e, by unfold endsOk; rw [if_pos hp]⟩
      · rw [if_neg hp] at e
        obtain ⟨k, hk, e2⟩ := List.mem_map.mp (bestW_mem e)
        exact ⟨j + k, ok.1 _ c cs e2, by unfold endsOk; rw [if_neg hp]; omega⟩
  · unfold Cover at h
    unfold covT
    by_cases hl : w = "long"
    · rw [if_pos hl] at h ⊢
      obtain ⟨k, l, h1, h2, h3, h4, _⟩ := h
      have : some (c, [(k, l)]) ∈ (arL n g i j).map (oneW g) := by
        refine List.mem_map.mpr ⟨(k, l), ?_, by unfold oneW; rw [h4]; rfl⟩
        unfold arL
        rw [List.mem_filter, List.mem_filter]
        exact ⟨⟨mem_hauls.mpr h3, decide_eq_true ⟨h1, h2⟩⟩, by rw [h4]; rfl⟩
      obtain ⟨x, hx, lx⟩ := bestW_le this
      exact ⟨x.1, x.2, hx, lx⟩
    · rw [if_neg hl] at h ⊢
      have ok := waysF_ok (w := w) (n := n) (g := g) (i := i) (by have := a.1; have := a.2; omega)
      obtain ⟨e, wy, he⟩ := h
      obtain ⟨y, y1, y2⟩ := ok.2 e c cs wy
      by_cases hp : w = "parts"
      · rw [if_pos hp]
        unfold endsOk at he
        rw [if_pos hp] at he
        subst he
        exact ⟨y.1, y.2, y1, y2⟩
      · rw [if_neg hp]
        unfold endsOk at he
        rw [if_neg hp] at he
        have le := wy.lt (by have := a.1; have := a.2; omega)
        have : some y ∈ (List.range (n - j)).map fun k => waysF w n g i (j + k) := List.mem_map.mpr ⟨e - j, by simp; omega, by rw [show j + (e - j) = e by omega]; exact y1⟩
        obtain ⟨x, hx, lx⟩ := bestW_le this
        exact ⟨x.1, x.2, hx, by omega⟩
theorem hauls_split {n b t : Nat} (hb : b < n - 1) (ht : t < n - (b + 1)) : ∃ post, hauls n = ((List.range b).flatMap (row n) ++ (List.range t).map fun k => (b, b + 1 + k)) ++ (b, b + 1 + t) :: post := by
  have r1 : List.range (n - 1) = List.range b ++ b :: (List.range (n - 1 - (b + 1))).map fun k => b + 1 + k := by
    have e : n - 1 = b + 1 + (n - 1 - (b + 1)) := by omega
    conv => lhs; rw [e, List.range_add, List.range_succ]
    rw [List.append_assoc]
    rfl
  have r2 : row n b = ((List.range t).map fun k => (b, b + 1 + k)) ++ (b, b + 1 + t) :: ((List.range (n - (b + 1) - (t + 1))).map fun k => (b, b + 1 + (t + 1 + k))) := by
    unfold row
    have e : n - (b + 1) = t + 1 + (n - (b + 1) - (t + 1)) := by omega
    conv => lhs; rw [e, List.range_add, List.range_succ]
    rw [List.map_append, List.map_append, List.append_assoc, List.map_map]
    rfl
  refine ⟨((List.range (n - (b + 1) - (t + 1))).map fun k => (b, b + 1 + (t + 1 + k))) ++ ((List.range (n - 1 - (b + 1))).map fun k => b + 1 + k).flatMap (row n), ?_⟩
  rw [hauls_eq, r1, List.flatMap_append, List.flatMap_cons, r2]
  simp
theorem put_new {n : Nat} {f : Nat → Nat → D} {pre post : List (Nat × Nat)} {i j : Nat} (hn : n ≤ 10) (e : hauls n = pre ++ (i, j) :: post) : stSub (hD i j) (f i j) (.dT (pre.map fun h => (hKp h, f h.1 h.2))) = some (.dT ((pre ++ [(i, j)]).map fun h => (hKp h, f h.1 h.2))) := by
  have pl : pre.length < sizeLine := by
    have := congrArg List.length e
    simp at this
    have := hauls_len n hn
    exact Nat.lt_of_le_of_lt (show pre.length ≤ 45 by omega) (by decide)
  show (match keysD [D.int i, D.int j] with | some q => if (pre.map fun h => (hKp h, f h.1 h.2)).length < sizeLine then some (D.dT (insK (pre.map fun h => (hKp h, f h.1 h.2)) q (f i j))) else none | none => none) = _
  rw [keysD_h]
  dsimp only
  rw [if_pos (by rw [List.length_map]; exact pl)]
  have := ins_new (f := f) (v := f i j) e
  rw [this]
  simp
section
variable {M : List D} {n i j : Nat} {g : Tab} {w : Str}
theorem filt_map {xs : List (Nat × Nat)} {p : Nat × Nat → Bool} {f h : Nat × Nat → D} (e : ∀ o ∈ xs, p o = true → f o = h o) : (xs.filter p).map f = (xs.filter p).map h :=
  List.map_congr_left fun o ho => by rw [List.mem_filter] at ho; exact e o ho.1 ho.2
theorem cov_long (hn : n ≤ 10) (hw : w = "long") {pre post : List (Nat × Nat)} (e : hauls n = pre ++ (i, j) :: post) {x0 x2 x6 x7 x8 x9 x10 x11 x5 : MP.B} (f5 : x5.free) :
    ∃ y5 : MP.B, y5.free ∧ b_covers_of_5 [x0, .shr (tabD n (odT g)), x2, .own (.dT (pre.map fun h => (hKp h, wayD (covT w n g h.1 h.2)))), .shr (hD i j), x5, x6, x7, x8, x9, x10, x11] M =
      .next [x0, .shr (tabD n (odT g)), x2, .own (.dT ((pre ++ [(i, j)]).map fun h => (hKp h, wayD (covT w n g h.1 h.2)))), .shr (hD i j), y5, x6, x7, x8, x9, x10, x11] M := by
  have hl := hauls_len n hn
  have sz : (hauls n).length ≤ sizeLine := sz45 (by omega)
  have sz2 : ((hauls n).filter fun o => decide (o.1 ≤ i ∧ j ≤ o.2)).length ≤ sizeLine := Nat.le_trans (List.length_filter_le _ _) sz
  have c1 := compL_filter (gd := gN 9) (ft := b_covers_of_2) (fe := b_covers_of_1) (env0 := [x0, .shr (tabD n (odT g)), x2, .own (.dT (pre.map fun h => (hKp h, wayD (covT w n g h.1 h.2)))), .shr (hD i j), x5, x6, x7, x8, .no, x10, x11])
    (enc := hDp) (g := fun o => .tup [odT g o.1 o.2, .tup [hDp o]]) (p := fun o => decide (o.1 ≤ i ∧ j ≤ o.2)) (M := M) (xs := hauls n) (acc := []) (by simpa using sz) fun o ho => ⟨_, by simp; rfl, by simp [b_covers_of_2, lies_ok], fun _ => by
      have := fun M => ix_odT (h := g) (M := M) (hauls_lt ho)
      simp [b_covers_of_1, this, odT]⟩
  have c2 := compL_filter (gd := gN 10) (ft := b_covers_of_4) (fe := b_covers_of_3) (env0 := [x0, .shr (tabD n (odT g)), x2, .own (.dT (pre.map fun h => (hKp h, wayD (covT w n g h.1 h.2)))), .shr (hD i j), .shr (.lst (((hauls n).filter fun o => decide (o.1 ≤ i ∧ j ≤ o.2)).map fun o => .tup [odT g o.1 o.2, .tup [hDp o]])), x6, x7, x8, x9, .no, x11])
    (enc := fun o => .tup [odT g o.1 o.2, .tup [hDp o]]) (g := fun o => .tup [odT g o.1 o.2, .tup [hDp o]]) (p := fun o => (g o.1 o.2).isSome) (M := M) (xs := (hauls n).filter fun o => decide (o.1 ≤ i ∧ j ≤ o.2)) (acc := []) (by simpa using sz2) fun o ho => ⟨_, by simp; rfl, by
      cases q : g o.1 o.2 <;> simp [b_covers_of_4, odT, q], fun _ => by simp [b_covers_of_3]⟩
  have e3 : (((hauls n).filter fun o => decide (o.1 ≤ i ∧ j ≤ o.2)).filter fun o => (g o.1 o.2).isSome).map (fun o => D.tup [odT g o.1 o.2, .tup [hDp o]]) = ((arL n g i j).map (oneW g)).map wayD := by
    rw [List.map_map]
    refine filt_map fun o _ h => ?_
    obtain ⟨p, hp⟩ := Option.isSome_iff_exists.mp h
    show D.tup [od (g o.1 o.2), .tup [hDp o]] = wayD (oneW g o)
    unfold oneW
    rw [hp]; rfl
  rw [List.nil_append] at c1 c2
  rw [e3] at c2
  have bo := fun M => best_of_ok (xs := (arL n g i j).map (oneW g)) (M := M)
  have st := put_new (f := fun i j => wayD (covT w n g i j)) hn e
  have e4 : bestW ((arL n g i j).map (oneW g)) = covT w n g i j := by unfold covT; rw [if_pos hw]
  rw [e4] at bo
  refine ⟨.shr (.lst (((hauls n).filter fun o => decide (o.1 ≤ i ∧ j ≤ o.2)).map fun o => .tup [odT g o.1 o.2, .tup [hDp o]])), trivial, ?_⟩
  have sh := fun M => bShare_own (M := M) (i := 5) (env := [x0, .shr (tabD n (odT g)), x2, .own (.dT (pre.map fun h => (hKp h, wayD (covT w n g h.1 h.2)))), .shr (hD i j), .own (.lst (((hauls n).filter fun o => decide (o.1 ≤ i ∧ j ≤ o.2)).map fun o => .tup [odT g o.1 o.2, .tup [hDp o]])), x6, x7, x8, x9, x10, x11]) rfl
  have s1 := fun M => store_own (M := M) (i := 3) (env := [x0, .shr (tabD n (odT g)), x2, .own (.dT (pre.map fun h => (hKp h, wayD (covT w n g h.1 h.2)))), .shr (hD i j), .shr (.lst (((hauls n).filter fun o => decide (o.1 ≤ i ∧ j ≤ o.2)).map fun o => .tup [odT g o.1 o.2, .tup [hDp o]])), x6, x7, x8, x9, x10, x11]) rfl st
  have hh : has 3 [x0, .shr (tabD n (odT g)), x2, .own (.dT (pre.map fun h => (hKp h, wayD (covT w n g h.1 h.2)))), .shr (hD i j), .shr (.lst (((hauls n).filter fun o => decide (o.1 ≤ i ∧ j ≤ o.2)).map fun o => .tup [odT g o.1 o.2, .tup [hDp o]])), x6, x7, x8, x9, x10, x11] = true := rfl
  simp only [List.set_cons_succ, List.set_cons_zero] at sh s1
  simp only [b_covers_of_5, bSeq_eq, bOwn_eq, eComp_eq, iSeq_eq, eV_eq, wipeE_cons, wipeE_nil, List.set_cons_succ, List.set_cons_zero, List.getElem?_cons_succ, List.getElem?_cons_zero, getE_shr, R.bindL_ok, seqL_dT, keys_tab, RL.bind_ok, c1, R.bindS_ok, oN_eq, gNb_free f5, setR_some, RS.seq_next, sh, bSub_eq, eCall_eq, lCons_eq, lNil_eq, seqL_lst, c2, RL.bindL_ok, apC_eq, bo, hh, guS_true, s1, List.append_nil, List.length_cons, List.length_nil, if_true, Nat.zero_add]
end
end HP

set_option maxRecDepth 100000
set_option maxHeartbeats 1000000
namespace HP
open MP PySem L2
section
variable {M : List D} {n i j k : Nat} {g : Tab} {w : Str}
theorem range_sub {n j : Nat} : (List.range (n - j)).map (fun (k : Nat) => D.int ((j + k : Nat) : Int)) = (List.range (n - j)).map fun (k : Nat) => D.int ((j + k : Nat) : Int) := rfl
theorem cov_7 (hn : n ≤ 10) (hw : ¬ w = "long") {kvs : List (Key × D)} (hk : KF kvs (waysF w n g i)) {pre post : List (Nat × Nat)} (e : hauls n = pre ++ (i, j) :: post) {x1 x4 x5 x9 x10 x11 : MP.B} :
    b_covers_of_7 [.shr (.int (n : Int)), x1, .shr (.str w), .own (.dT (pre.map fun h => (hKp h, wayD (covT w n g h.1 h.2)))), x4, x5, .shr (.int (i : Int)), .shr (.dK kvs), .shr (.int (j : Int)), x9, x10, x11] M =
      .next [.shr (.int (n : Int)), x1, .shr (.str w), .own (.dT ((pre ++ [(i, j)]).map fun h => (hKp h, wayD (covT w n g h.1 h.2)))), x4, x5, .shr (.int (i : Int)), .shr (.dK kvs), .shr (.int (j : Int)), x9, x10, x11] M := by
  have a : At n i j := hauls_lt (h := (i, j)) (by rw [e]; simp)
  have st := put_new (f := fun i j => wayD (covT w n g i j)) hn e
  have gt := fun b M => hk.get b (M := M)
  have s1 := fun M => store_own (M := M) (i := 3) (env := [.shr (.int (n : Int)), x1, .shr (.str w), .own (.dT (pre.map fun h => (hKp h, wayD (covT w n g h.1 h.2)))), x4, x5, .shr (.int (i : Int)), .shr (.dK kvs), .shr (.int (j : Int)), x9, x10, x11]) rfl st
  have hh : has 3 [.shr (.int (n : Int)), x1, .shr (.str w), .own (.dT (pre.map fun h => (hKp h, wayD (covT w n g h.1 h.2)))), x4, x5, .shr (.int (i : Int)), .shr (.dK kvs), .shr (.int (j : Int)), x9, x10, x11] = true := rfl
  simp only [List.set_cons_succ, List.set_cons_zero] at s1
  have v : (eIf (e2 oEq (eVB 2) (eC (.str "parts"))) (eGet1 (eVB 7) (eV 8)) (eCall (apC c_best_of 1 []) (lCons (eComp (iRng2 (eV 8) (eV 0)) (gN 11) (eC (.bl true)) b_covers_of_6 [11]) lNil)))
      [.shr (.int (n : Int)), x1, .shr (.str w), .own (.dT (pre.map fun h => (hKp h, wayD (covT w n g h.1 h.2)))), x4, x5, .shr (.int (i : Int)), .shr (.dK kvs), .shr (.int (j : Int)), x9, x10, x11] M = .ok (wayD (covT w n g i j)) M := by
    by_cases hp : w = "parts"
    · have ev : covT w n g i j = waysF w n g i j := by unfold covT; rw [if_neg hw, if_pos hp]
      rw [ev]
      simp [strEq, hp, gt]
    · have ev : covT w n g i j = bestW ((List.range (n - j)).map fun k => waysF w n g i (j + k)) := by unfold covT; rw [if_neg hw, if_neg hp]
      have cm := compL_map (gd := gN 11) (ft := eC (.bl true)) (fe := b_covers_of_6) (env0 := [.shr (.int (n : Int)), x1, .shr (.str w), .own (.dT (pre.map fun h => (hKp h, wayD (covT w n g h.1 h.2)))), x4, x5, .shr (.int (i : Int)), .shr (.dK kvs), .shr (.int (j : Int)), x9, x10, .no])
        (enc := fun (k : Nat) => D.int ((j + k : Nat) : Int)) (g := fun k => wayD (waysF w n g i (j + k))) (M := M) (xs := List.range (n - j)) (acc := []) (sz45 (by simp; omega)) fun k hk => ⟨_, by simp [-Int.natCast_add]; rfl, rfl, by
          have := gt (j + k) M
          simp [b_covers_of_6, -Int.natCast_add, this]⟩
      have bo := best_of_ok (xs := (List.range (n - j)).map fun k => waysF w n g i (j + k)) (M := M)
      rw [List.map_map] at bo
      have bo2 : c_best_of [.lst ((List.range (n - j)).map fun k => wayD (waysF w n g i (j + k)))] M = .ok (wayD (covT w n g i j)) M := by rw [ev]; exact bo
      have hj : j ≤ 1000000 := by have := a.2; omega
      simp [strEq, hp, rngL2_n hj (show n ≤ 1000000 by omega), cm, -Int.natCast_add, bo2]
  simp [b_covers_of_7, v, s1, hh, -eIf_eq]
theorem cov_8 (hn : n ≤ 10) (hw : ¬ w = "long") (hi : i < n - 1) {x4 x5 x7 x8 x9 x10 x11 : MP.B} (f7 : x7.free) (f8 : x8.free) :
    ∃ y7 y8 : MP.B, y7.free ∧ y8.free ∧ b_covers_of_8 [.shr (.int (n : Int)), .shr (tabD n (odT g)), .shr (.str w), .own (.dT (((List.range i).flatMap (row n)).map fun h => (hKp h, wayD (covT w n g h.1 h.2)))), x4, x5, .shr (.int (i : Int)), x7, x8, x9, x10, x11] M =
      .next [.shr (.int (n : Int)), .shr (tabD n (odT g)), .shr (.str w), .own (.dT (((List.range (i + 1)).flatMap (row n)).map fun h => (hKp h, wayD (covT w n g h.1 h.2)))), x4, x5, .shr (.int (i : Int)), y7, y8, x9, x10, x11] M := by
  obtain ⟨_, _, wf⟩ := ways_from_ok (g := g) (w := w) hn (show i < n by omega)
  obtain ⟨kvs, ew, hk⟩ := wf M
  obtain ⟨env2, M2, e1, y8, g8, rfl, rfl⟩ := forL_pre (gd := gN 8) (b := b_covers_of_7) (enc := fun (k : Nat) => D.int ((i + 1 + k : Nat) : Int)) (xs := List.range (n - (i + 1)))
    (P := fun pre env M' => ∃ y8 : MP.B, y8.free ∧ env = [.shr (.int (n : Int)), .shr (tabD n (odT g)), .shr (.str w), .own (.dT (((List.range i).flatMap (row n) ++ pre.map fun k => (i, i + 1 + k)).map fun h => (hKp h, wayD (covT w n g h.1 h.2)))), x4, x5, .shr (.int (i : Int)), .shr (.dK kvs), y8, x9, x10, x11] ∧ M' = M) (by
      rintro pre x post env M' e ⟨y8, g8, rfl, rfl⟩
      obtain ⟨hp, hx⟩ := pre_range e
      obtain ⟨post2, e2⟩ := hauls_split (n := n) hi hx
      rw [← hp] at e2
      have c7 := cov_7 (M := M') (g := g) hn hw hk e2 (x1 := .shr (tabD n (odT g))) (x4 := x4) (x5 := x5) (x9 := x9) (x10 := x10) (x11 := x11)
      refine ⟨_, by simp [g8, -Int.natCast_add], _, _, .inl c7, .shr (.int ((i + 1 + x : Nat) : Int)), trivial, by simp [-Int.natCast_add], rfl⟩)
    (env := [.shr (.int (n : Int)), .shr (tabD n (odT g)), .shr (.str w), .own (.dT (((List.range i).flatMap (row n)).map fun h => (hKp h, wayD (covT w n g h.1 h.2)))), x4, x5, .shr (.int (i : Int)), .shr (.dK kvs), x8, x9, x10, x11]) (M := M) ⟨x8, f8, by simp, rfl⟩
  refine ⟨.shr (.dK kvs), y8, trivial, g8, ?_⟩
  have e3 : (List.range i).flatMap (row n) ++ (List.range (n - (i + 1))).map (fun k => (i, i + 1 + k)) = (List.range (i + 1)).flatMap (row n) := by
    rw [List.range_succ, List.flatMap_append]
    simp [row]
  rw [e3] at e1
  have hi2 : i ≤ 1000000 := by omega
  simp [b_covers_of_8, ew, f7, rngL2_1 hi2 (show n ≤ 1000000 by omega), -Int.natCast_add, e1]
theorem covers_of_ok (hn : n ≤ 10) : c_covers_of [.int (n : Int), tabD n (odT g), .str w] M = .ok (tabD n fun i j => wayD (covT w n g i j)) M := by
  have e0 : env0 N_covers_of.length [.int (n : Int), tabD n (odT g), .str w] = [.shr (.int n), .shr (tabD n (odT g)), .shr (.str w), .no, .no, .no, .no, .no, .no, .no, .no, .no] := rfl
  unfold c_covers_of
  rw [e0]
  by_cases hw : w = "long"
  · obtain ⟨env2, M2, e1, y4, y5, g4, g5, rfl, rfl⟩ := forL_pre (gd := gN 4) (b := b_covers_of_5) (enc := hDp) (xs := hauls n)
      (P := fun pre env M' => ∃ y4 y5 : MP.B, y4.free ∧ y5.free ∧ env = [.shr (.int n), .shr (tabD n (odT g)), .shr (.str w), .own (.dT (pre.map fun h => (hKp h, wayD (covT w n g h.1 h.2)))), y4, y5, .no, .no, .no, .no, .no, .no] ∧ M' = M) (by
        rintro pre ⟨a, b⟩ post env M' e ⟨y4, y5, g4, g5, rfl, rfl⟩
        obtain ⟨z5, h5, e2⟩ := cov_long (M := M') (g := g) hn hw e (x0 := .shr (.int n)) (x2 := .shr (.str w)) (x6 := .no) (x7 := .no) (x8 := .no) (x9 := .no) (x10 := .no) (x11 := .no) g5
        exact ⟨_, by simp [g4], _, _, .inl e2, .shr (hD a b), z5, trivial, h5, rfl, rfl⟩)
      (env := [.shr (.int n), .shr (tabD n (odT g)), .shr (.str w), .own (.dT []), .no, .no, .no, .no, .no, .no, .no, .no]) (M := M) ⟨.no, .no, trivial, trivial, rfl, rfl⟩
    have sh := bShare_own (M := M2) (i := 3) (env := [.shr (.int n), .shr (tabD n (odT g)), .shr (.str w), .own (.dT ((hauls n).map fun h => (hKp h, wayD (covT w n g h.1 h.2)))), y4, y5, .no, .no, .no, .no, .no, .no]) rfl
    rw [hw] at e1 sh ⊢
    simp [b_covers_of, hauls_of_ok hn, e1, sh, tab]
  · obtain ⟨env2, M2, e1, y6, y7, y8, g6, g7, g8, rfl, rfl⟩ := forL_pre (gd := gN 6) (b := b_covers_of_8) (enc := fun (k : Nat) => D.int (k : Int)) (xs := List.range (n - 1))
      (P := fun pre env M' => ∃ y6 y7 y8 : MP.B, y6.free ∧ y7.free ∧ y8.free ∧ env = [.shr (.int n), .shr (tabD n (odT g)), .shr (.str w), .own (.dT ((pre.flatMap (row n)).map fun h => (hKp h, wayD (covT w n g h.1 h.2)))), .no, .no, y6, y7, y8, .no, .no, .no] ∧ M' = M) (by
        rintro pre x post env M' e ⟨y6, y7, y8, g6, g7, g8, rfl, rfl⟩
        obtain ⟨hp, hx⟩ := pre_range e
        obtain ⟨z7, z8, h7, h8, e2⟩ := cov_8 (M := M') (g := g) hn hw hx (x4 := .no) (x5 := .no) (x9 := .no) (x10 := .no) (x11 := .no) g7 g8
        rw [hp]
        exact ⟨_, by simp [g6], _, _, .inl e2, .shr (.int x), z7, z8, trivial, h7, h8, by rw [List.range_succ], rfl⟩)
      (env := [.shr (.int n), .shr (tabD n (odT g)), .shr (.str w), .own (.dT []), .no, .no, .no, .no, .no, .no, .no, .no]) (M := M) ⟨.no, .no, .no, trivial, trivial, trivial, rfl, rfl⟩
    have sh := bShare_own (M := M2) (i := 3) (env := [.shr (.int n), .shr (tabD n (odT g)), .shr (.str w), .own (.dT (((List.range (n - 1)).flatMap (row n)).map fun h => (hKp h, wayD (covT w n g h.1 h.2)))), .no, .no, y6, y7, y8, .no, .no, .no]) rfl
    simp [b_covers_of, strEq, hw, rngL1_m (show n ≤ 1000000 by omega), e1, sh, tab, hauls_eq]
end
end HP

set_option maxRecDepth 100000
set_option maxHeartbeats 1000000
namespace HP
open MP PySem L2
section
variable {M : List D} {n i j k : Nat} {f : Tab} {w : Str}
theorem costs_of_ok (hn : n ≤ 10) {cov : Nat → Nat → Option Wy} : c_costs_of [tabD n fun i j => wayD (cov i j)] M = .ok (tabD n (odT fun i j => costO (cov i j))) M := by
  have e0 : env0 N_costs_of.length [tabD n fun i j => wayD (cov i j)] = [.shr (tabD n fun i j => wayD (cov i j)), .no, .no] := rfl
  have cm := dcompT_map (gd := gT [1, 2]) (ft := eC (.bl true)) (fk := b_costs_of_1) (fe := b_costs_of_2) (env0 := [.shr (tabD n fun i j => wayD (cov i j)), .no, .no]) (enc := fun h => .tup [hDp h, wayD (cov h.1 h.2)]) (v := fun h => od (costO (cov h.1 h.2))) (kd := fun h => [.int h.1, .int h.2]) (key := hKp) (M := M) (xs := hauls n) (acc := [])
    (sz45 (by have := hauls_len n hn; simp; omega)) (fun h hh => ⟨_, by simp; rfl, rfl, by simp [b_costs_of_1], rfl, by
      cases q : cov h.1 h.2 <;> simp [b_costs_of_2, costO]⟩) (hKs_nodup n) (by simp)
  unfold c_costs_of
  rw [e0]
  simp [b_costs_of, items_tab, cm]
  rfl
theorem isprice_ok {v : Int} : c_is_price [.int v] M = .ok (.bl (decide (0 ≤ v ∧ v ≤ 1000000000000))) M := by
  have e0 : env0 N_is_price.length [.int v] = [.shr (.int v)] := rfl
  have e1 : env0 N_is_within.length [.int v, .int 0, .int 1000000000000] = [.shr (.int v), .shr (.int 0), .shr (.int 1000000000000)] := rfl
  have e2 : env0 N_is_integer.length [.int v] = [.shr (.int v)] := rfl
  have t1 : isT "int" [] (.int v) = some true := rfl
  have t2 : isT "bool" [] (.int v) = some false := rfl
  unfold c_is_price
  rw [e0]
  by_cases h : 0 ≤ v
  · simp [b_is_price, c_is_within, e1, b_is_within, c_is_integer, e2, b_is_integer, t1, t2, h]
  · simp [b_is_price, c_is_within, e1, b_is_within, c_is_integer, e2, b_is_integer, t1, t2, h]
theorem enum_deck {g : Nat → Nat → D} : enumD (deck n g) = (List.range (n - 1)).map fun (k : Nat) => D.tup [.int (k : Int), deckRow n g k] := by
  unfold enumD deck
  refine List.ext_getElem (by simp) fun k h1 h2 => ?_
  simp
@[simp] theorem oIsi_str {kk : D → Option Bool} {z : Str} : oIsi kk (.str z) M = (match kk (.str z) with | some b => .ok (.bl b) M | none => .stuck) := rfl
@[simp] theorem isT_tup {xs} : isT "tuple" [] (.tup xs) = some true := rfl
@[simp] theorem isT_str {z} : isT "str" [] (.str z) = some true := rfl
theorem check_rules_ok (hw : w ∈ words) : c_check_rules [.str w] M = .ok .non M := by
  simp [words] at hw
  rcases hw with rfl | rfl | rfl <;> rfl
def trips (n : Nat) : List (Nat × Nat × Nat) := (hauls n).flatMap fun h => (List.range (n - (h.2 + 1))).map fun k => (h.1, h.2, h.2 + 1 + k)
abbrev tD (t : Nat × Nat × Nat) : D := .tup [.int t.1, .int t.2.1, .int t.2.2]
end
end HP

set_option maxRecDepth 100000
set_option maxHeartbeats 1000000
namespace HP
open MP PySem L2
/-- a loop that never stops early, its invariant the names alone -/
theorem forL_same {α : Type} {gd : D → EnvM → Option EnvM} {b : SF} {enc : α → D} {xs : List α} (P : EnvM → Prop) {M : List D}
    (h : ∀ x ∈ xs, ∀ env, P env → ∃ env1, gd (enc x) env = some env1 ∧ ∃ env2, b env1 M = .next env2 M ∧ P env2) {env : EnvM} (h0 : P env) : ∃ env2, forL gd b (xs.map enc) env M = .next env2 M ∧ P env2 := by
  obtain ⟨env2, M2, e, p, rfl⟩ := forL_pre (gd := gd) (b := b) (enc := enc) (xs := xs) (P := fun _ env M' => P env ∧ M' = M) (by
    rintro pre x post env M' e ⟨p, rfl⟩
    obtain ⟨env1, h1, env2, h2, h3⟩ := h x (by rw [e]; simp) env p
    exact ⟨env1, h1, env2, M', .inl h2, h3, rfl⟩) (env := env) (M := M) ⟨h0, rfl⟩
  exact ⟨env2, e, p⟩
theorem trips_mem {n : Nat} {t : Nat × Nat × Nat} (h : t ∈ trips n) : t.1 < t.2.1 ∧ t.2.1 < t.2.2 ∧ t.2.2 < n := by
  unfold trips at h
  obtain ⟨a, ha, h⟩ := List.mem_flatMap.mp h
  obtain ⟨k, hk, rfl⟩ := List.mem_map.mp h
  have := hauls_lt ha
  rw [List.mem_range] at hk
  exact ⟨this.1, by show a.2 < a.2 + 1 + k; omega, by show a.2 + 1 + k < n; omega⟩
/-- all hauls have a price -/
def Tot (n : Nat) (f : Tab) : Prop := ∀ i j, At n i j → ∃ v, f i j = some v
theorem InB.tot {n : Nat} {f : Tab} {B : Int} (h : InB n f B) : Tot n f := fun i j a => let ⟨v, e, _⟩ := h i j a; ⟨v, e⟩
section
variable {M : List D} {n i j k : Nat} {f : Tab} {w : Str}
def bookD (n : Nat) (f : Tab) (w : Str) : D := .ins "Book" [("all", .tup [.tup (deck n (odT f)), .str w])]
theorem keeps0 : Keeps w n (fun _ _ => some 0) := ⟨fun _ _ _ _ _ _ _ _ _ => leO.refl _, fun _ _ _ _ _ _ _ => leO.refl _⟩
/-- what the program lowers to -/
def clT (w : Str) (n : Nat) (g : Tab) : Tab := fun i j => costO (covT w n g i j)
theorem clT_ok {g : Tab} (hg : NN n g) : IsCl w n g (clT w n g) := covT_ok.cl hg
end
end HP

set_option maxRecDepth 100000
set_option maxHeartbeats 1000000
namespace HP
open MP PySem L2
section
variable {M : List D} {n i j k : Nat} {f g : Tab} {w : Str}
theorem IsCl.inB {B : Int} (h : IsCl w n g f) (hg : InB n g B) : InB n f B := fun i j a => by
  obtain ⟨v, e, l1, l2⟩ := hg i j a
  have le := h.below i j a
  rw [e] at le
  obtain ⟨x, e2, l3⟩ := le v rfl
  exact ⟨x, e2, h.nn hg.nn i j x a e2, by omega⟩
theorem book_congr (h : ∀ i j, At n i j → f i j = g i j) : bookD n f w = bookD n g w := by
  unfold bookD
  rw [deck_congr (f := odT f) (g := odT g) fun i j a => by show od _ = od _; rw [h i j a]]
theorem sum_le {α : Type} {h : α → Nat} {b : Nat} : ∀ {xs : List α}, (∀ x ∈ xs, h x ≤ b) → (xs.map h).sum ≤ xs.length * b
  | [], _ => by simp
  | x :: xs, hh => by
    have := sum_le fun y hy => hh y (List.mem_cons_of_mem x hy)
    have := hh x (by simp)
    simp only [List.map_cons, List.sum_cons, List.length_cons, Nat.succ_mul]
    omega
/-- prices that can be written -/
def Wr (n : Nat) (f : Tab) : Prop := ∀ i j, At n i j → ∃ v, f i j = some v ∧ v.natAbs < 2 ^ 1900
theorem log2_lt {m k : Nat} (hk : 0 < k) (h : m < 2 ^ k) : m.log2 < k := by
  by_cases z : m = 0
  · subst z; simpa using hk
  · exact (Nat.log2_lt z).mpr h
theorem InB.wr {B : Int} (h : InB n f B) (hB : B ≤ 10 ^ 400) : Wr n f := fun i j a => by
  obtain ⟨v, e, l1, l2⟩ := h i j a
  refine ⟨v, e, ?_⟩
  have : (10 : Int) ^ 400 < 2 ^ 1900 := by decide
  have h2 : v < 2 ^ 1900 := by omega
  have h3 : (v.natAbs : Int) < ((2 ^ 1900 : Nat) : Int) := by rw [Int.natAbs_of_nonneg l1]; exact h2
  exact Int.ofNat_lt.mp h3
theorem row_pl (hw : Wr n f) (hi : i < n - 1) : pl 1 (deckRow n (odT f) i) = true ∧ nb 1 (deckRow n (odT f) i) = true := by
  unfold deckRow
  simp only [pl, nb, List.all_eq_true, List.mem_map, List.mem_range]
  constructor
  · rintro x ⟨k, hk, rfl⟩
    obtain ⟨v, e, l⟩ := hw i (i + 1 + k) ⟨by omega, by omega⟩
    show pl 0 (od (f i (i + 1 + k))) = true
    rw [e]
    exact decide_eq_true (Nat.lt_of_lt_of_le (log2_lt (by decide) l) (by decide))
  · rintro x ⟨k, hk, rfl⟩
    obtain ⟨v, e, l⟩ := hw i (i + 1 + k) ⟨by omega, by omega⟩
    show nb 0 (od (f i (i + 1 + k))) = true
    rw [e]; rfl
theorem row_wt (hn : n ≤ 10) (hw : Wr n f) (hi : i < n - 1) : wt 1 (deckRow n (odT f) i) ≤ 20000 := by
  unfold deckRow
  simp only [wt]
  have := sum_le (h := wt 0) (b := 1921) (xs := (List.range (n - (i + 1))).map fun k => odT f i (i + 1 + k)) (by
    intro x hx
    obtain ⟨k, hk, rfl⟩ := List.mem_map.mp hx
    rw [List.mem_range] at hk
    obtain ⟨v, e, l⟩ := hw i (i + 1 + k) ⟨by omega, by omega⟩
    show wt 0 (od (f i (i + 1 + k))) ≤ _
    rw [e]; exact Nat.le_refl _)
  simp only [List.length_map, List.length_range] at this ⊢
  have m : (n - (i + 1)) * 1921 ≤ 10 * 1921 := Nat.mul_le_mul_right _ (by omega)
  omega
theorem deck_pl (hn : n ≤ 10) (hw : Wr n f) : pl 2 (.tup (deck n (odT f))) = true ∧ nb 2 (.tup (deck n (odT f))) = true ∧ wt 2 (.tup (deck n (odT f))) ≤ 300000 := by
  unfold deck
  simp only [pl, nb, wt, List.all_eq_true, List.mem_map, List.mem_range]
  refine ⟨?_, ?_, ?_⟩
  · rintro x ⟨i, hi, rfl⟩; exact (row_pl hw hi).1
  · rintro x ⟨i, hi, rfl⟩; exact (row_pl hw hi).2
  · have := sum_le (h := wt 1) (b := 20000) (xs := (List.range (n - 1)).map (deckRow n (odT f))) (by
      intro x hx
      obtain ⟨i, hi, rfl⟩ := List.mem_map.mp hx
      rw [List.mem_range] at hi
      exact row_wt hn hw hi)
    simp only [List.length_map, List.length_range] at this ⊢
    have m : (n - 1) * 20000 ≤ 10 * 20000 := Nat.mul_le_mul_right _ (by omega)
    omega
theorem word_pl (hw : w ∈ words) : sOk w = true ∧ (reprText w).length ≤ 100 := by
  simp [words] at hw
  rcases hw with rfl | rfl | rfl <;> decide +kernel
/-- == of plain data that is no number -/
theorem oEq_pl {k : Nat} {d e : D} (h1 : pl k d = true) (h2 : pl k e = true) (h3 : nb k d = true) (h4 : nb k e = true) (hk : k ≤ 64) (hd : isRef d = true) : ∃ b, (∀ M, oEq d e M = .ok (.bl b) M) ∧ (b = true ↔ d = e) := by
  obtain ⟨p, _, p2, p3, p4, _⟩ := pl_ok k d h1
  obtain ⟨q, _, q2, q3, q4, _⟩ := pl_ok k e h2
  have ev := eqv_ok k h1 h2 h3 h4 p2 q2
  refine ⟨PyData.eqv p q, fun M => ?_, ev⟩
  have vd : view M d = d := by cases d <;> first | rfl | cases hd
  have ve : view M e = e := by cases e <;> first | rfl | (cases k <;> simp [pl] at h2)
  have sp : SeqAt.shaped p = true := by unfold SeqAt.shaped; rw [p3, decide_eq_true (Nat.le_trans p4 hk)]; rfl
  have sq : SeqAt.shaped q = true := by unfold SeqAt.shaped; rw [q3, decide_eq_true (Nat.le_trans q4 hk)]; rfl
  have e1 : eqS d e = none := by cases d <;> first | (cases hd; done) | (cases e <;> rfl)
  have e2 : eqD d e = some (PyData.eqv p q) := by
    unfold eqD eqP
    rw [e1, p2, q2]
    dsimp only
    rw [if_pos ⟨sp, sq⟩]
  show (match eqD (view M d) (view M e) with | some b => R.ok (.bl b) M | none => .stuck) = _
  rw [vd, ve, e2]
@[simp] theorem isRef_tup {xs} : isRef (.tup xs) = true := rfl
@[simp] theorem isRef_lst {xs} : isRef (.lst xs) = true := rfl
theorem deck_od (h : ∀ i j, At n i j → f i j = g i j) : deck n (odT f) = deck n (odT g) := deck_congr (f := odT f) (g := odT g) fun i j a => by show od _ = od _; rw [h i j a]
theorem int_pl {v : Int} (h : v.natAbs < 2 ^ 1900) : pl k (.int v) = true := by
  have : decide (v.natAbs.log2 < 1920) = true := decide_eq_true (Nat.lt_of_lt_of_le (log2_lt (by decide) h) (by decide))
  cases k <;> exact this
theorem str_pl (h : sOk w = true) : pl k (.str w) = true := by cases k <;> exact h
theorem wt_int {v : Int} : wt k (.int v) = 1921 := by cases k <;> rfl
theorem wt_str : wt k (.str w) = (reprText w).length := by cases k <;> rfl
end
end HP

set_option maxRecDepth 100000
set_option maxHeartbeats 2000000
namespace HP
open MP PySem L2
section
variable {M : List D} {n i j k c : Nat} {f g : Tab} {w : Str} {most : Int}
/-- the haul's price with its length's share -/
def addL (most : Int) (f : Tab) (done : List (Nat × Nat)) : Tab := fun i j => if (i, j) ∈ done then (f i j).map fun v => v + most * ((j : Int) - i) / 2 else f i j
theorem addL_up {pre : List (Nat × Nat)} {x : Nat × Nat} {v : Int} (hx : x ∉ pre) (hv : f x.1 x.2 = some v) : up2 (addL most f pre) x.1 x.2 (some (v + most * ((x.2 : Int) - x.1) / 2)) = addL most f (pre ++ [x]) := by
  funext a b
  unfold up2
  by_cases e : a = x.1 ∧ b = x.2
  · obtain ⟨rfl, rfl⟩ := e
    simp [addL, hv]
  · rw [if_neg e]
    unfold addL
    have : (a, b) ≠ x := fun z => e (by rw [← z]; exact ⟨rfl, rfl⟩)
    simp [this]
theorem addL_nil : addL most f [] = f := by funext a b; simp [addL]
theorem half_le {m l : Int} (h0 : 0 ≤ m) (h1 : 0 ≤ l) (h2 : l ≤ 10) : 0 ≤ m * l / 2 ∧ m * l / 2 ≤ m * 10 := by
  have a : 0 ≤ m * l := Int.mul_nonneg h0 h1
  have b : m * l ≤ m * 10 := Int.mul_le_mul_of_nonneg_left h2 h0
  omega
theorem addL_in (hn : n ≤ 10) (h0 : 0 ≤ most) (h : InB n f most) {ds : List (Nat × Nat)} : InB n (addL most f ds) (most * 11) := fun i j a => by
  obtain ⟨v, e, l1, l2⟩ := h i j a
  have := half_le (l := (j : Int) - i) h0 (by have := a.1; omega) (by have := a.1; have := a.2; omega)
  unfold addL
  split
  · exact ⟨v + most * ((j : Int) - i) / 2, by rw [e]; rfl, by omega, by omega⟩
  · exact ⟨v, e, l1, by omega⟩
end
end HP

set_option maxRecDepth 100000
set_option maxHeartbeats 2000000
namespace HP
open MP PySem L2
section
variable {M : List D} {n i j k c : Nat} {f g : Tab} {w : Str}
def mxO : Option Int → Option Int → Option Int
  | some a, some b => some (mx2 a b)
  | _, _ => none
def mnO : Option Int → Option Int → Option Int
  | some a, some b => some (mn2 a b)
  | _, _ => none
def maxT (f g : Tab) : Tab := fun i j => mxO (f i j) (g i j)
def minT (f g : Tab) : Tab := fun i j => mnO (f i j) (g i j)
def cutT (f : Tab) (b : Nat) : Tab := fun i j => f (b + i) (b + j)
theorem mx2_le {a b : Int} : a ≤ mx2 a b ∧ b ≤ mx2 a b ∧ (mx2 a b = a ∨ mx2 a b = b) := by unfold mx2; split <;> omega
theorem mn2_le {a b : Int} : mn2 a b ≤ a ∧ mn2 a b ≤ b ∧ (mn2 a b = a ∨ mn2 a b = b) := by unfold mn2; split <;> omega
theorem InB.max {B : Int} (hf : InB n f B) (hg : InB n g B) : InB n (maxT f g) B := fun i j a => by
  obtain ⟨v, e, l1, l2⟩ := hf i j a
  obtain ⟨u, e2, l3, l4⟩ := hg i j a
  obtain ⟨m1, m2, m3⟩ := mx2_le (a := v) (b := u)
  exact ⟨mx2 v u, by show mxO _ _ = _; rw [e, e2]; rfl, by omega, by omega⟩
theorem InB.min {B : Int} (hf : InB n f B) (hg : InB n g B) : InB n (minT f g) B := fun i j a => by
  obtain ⟨v, e, l1, l2⟩ := hf i j a
  obtain ⟨u, e2, l3, l4⟩ := hg i j a
  obtain ⟨m1, m2, m3⟩ := mn2_le (a := v) (b := u)
  exact ⟨mn2 v u, by show mnO _ _ = _; rw [e, e2]; rfl, by omega, by omega⟩
theorem mxO_le {a b c d : Option Int} (h : leO a c) (k : leO b d) : leO (mxO a b) (mxO c d) := fun y e => by
  cases c with
  | none => cases e
  | some c =>
    cases d with
    | none => cases e
    | some d =>
      obtain ⟨x, rfl, l1⟩ := h c rfl
      obtain ⟨z, rfl, l2⟩ := k d rfl
      cases e
      obtain ⟨m1, m2, m3⟩ := mx2_le (a := x) (b := z)
      obtain ⟨q1, q2, q3⟩ := mx2_le (a := c) (b := d)
      exact ⟨_, rfl, by omega⟩
theorem mxO_add {a b c d : Option Int} : leO (mxO (addO a b) (addO c d)) (addO (mxO a c) (mxO b d)) := fun y e => by
  cases a with
  | none => cases e
  | some a =>
    cases c with
    | none => cases e
    | some c =>
      cases b with
      | none => cases e
      | some b =>
        cases d with
        | none => cases e
        | some d =>
          cases e
          obtain ⟨m1, m2, m3⟩ := mx2_le (a := a + b) (b := c + d)
          obtain ⟨q1, q2, q3⟩ := mx2_le (a := a) (b := c)
          obtain ⟨r1, r2, r3⟩ := mx2_le (a := b) (b := d)
          exact ⟨_, rfl, by omega⟩
theorem Keeps.max (hf : Keeps w n f) (hg : Keeps w n g) : Keeps w n (maxT f g) :=
  ⟨fun hw i j k l h1 h2 h3 h4 => mxO_le (hf.long hw i j k l h1 h2 h3 h4) (hg.long hw i j k l h1 h2 h3 h4),
   fun hw i j k h1 h2 h3 => (mxO_le (hf.parts hw i j k h1 h2 h3) (hg.parts hw i j k h1 h2 h3)).trans mxO_add⟩
theorem Keeps.cut {b m : Nat} (hf : Keeps w n f) (h : b + m ≤ n) : Keeps w m (cutT f b) :=
  ⟨fun hw i j k l h1 h2 h3 h4 => hf.long hw (b + i) (b + j) (b + k) (b + l) (by omega) (by omega) (by omega) (by omega),
   fun hw i j k h1 h2 h3 => hf.parts hw (b + i) (b + j) (b + k) (by omega) (by omega) (by omega)⟩
theorem InB.cut {b m : Nat} {B : Int} (hf : InB n f B) (h : b + m ≤ n) : InB m (cutT f b) B := fun i j a => hf (b + i) (b + j) ⟨by have := a.1; omega, by have := a.2; omega⟩
/-- a new price behind the others -/
theorem sub_new (hn : n ≤ 10) {pre post : List (Nat × Nat)} {x : Nat × Nat} {h : Nat → Nat → D} (e : hauls n = pre ++ x :: post) :
    stSub (hDp x) (h x.1 x.2) (.dT (pre.map fun a => (hKp a, h a.1 a.2))) = some (.dT ((pre ++ [x]).map fun a => (hKp a, h a.1 a.2))) := by
  have pl : pre.length < sizeLine := by
    have := congrArg List.length e
    simp at this
    have := hauls_len n hn
    exact Nat.lt_of_le_of_lt (show pre.length ≤ 45 by omega) (by decide)
  show (match keysD [D.int x.1, D.int x.2] with | some q => if (pre.map fun a => (hKp a, h a.1 a.2)).length < sizeLine then some (D.dT (insK (pre.map fun a => (hKp a, h a.1 a.2)) q (h x.1 x.2))) else none | none => none) = _
  rw [keysD_h]
  dsimp only
  rw [if_pos (by rw [List.length_map]; exact pl), List.map_append]
  exact congrArg some (congrArg D.dT (ins_new (f := h) e))
/-- the price as a number -/
def nv (f : Tab) (i j : Nat) : Int := (f i j).getD 0
theorem Tot.nv (h : Tot n f) (a : At n i j) : f i j = some (nv f i j) := by
  obtain ⟨v, e⟩ := h i j a
  unfold HP.nv; rw [e]; rfl
end
end HP

set_option maxRecDepth 100000
set_option maxHeartbeats 2000000
namespace HP
open MP PySem L2
section
variable {M : List D} {n i j k c : Nat} {f g : Tab} {w : Str}
theorem oNe_of {d e : D} {b : Bool} (h : ∀ M, oEq d e M = .ok (.bl b) M) : oNe d e M = .ok (.bl !b) M := by
  have h := h M
  unfold oEq at h
  unfold oNe
  split at h
  · rename_i c hc; cases h; rfl
  · cases h
/-- != of plain data with itself -/
theorem oNe_self {k : Nat} {d : D} (h1 : pl k d = true) (h3 : nb k d = true) (hk : k ≤ 64) (hd : isRef d = true) : oNe d d M = .ok (.bl false) M := by
  obtain ⟨b, eb, hb⟩ := oEq_pl (e := d) h1 h1 h3 h3 hk hd
  have := hb.mpr rfl
  subst this
  exact oNe_of eb
theorem isint_ok {v : Int} : c_is_integer [.int v] M = .ok (.bl true) M := rfl
theorem nat_pl (hn : n ≤ 10) : pl k (.int (n : Int)) = true := int_pl (by have : (n : Int).natAbs = n := rfl; rw [this]; exact Nat.lt_of_le_of_lt hn (by decide))
theorem meth_book {m : Str} {r : R} (h : ("all" == m) = false) : methR "Book" m (bookD n f w) r = r := methR_ins (by simp [List.lookup, BEq.comm, h]; split <;> simp_all)
theorem view_book : view M (bookD n f w) = bookD n f w := rfl
end
end HP

set_option maxRecDepth 100000
set_option maxHeartbeats 2000000
namespace HP
open MP PySem L2
section
variable {M : List D} {n i j k c : Nat} {f g : Tab} {w : Str}
theorem ishaul_ok {b e : Int} (h0 : 0 ≤ b) (h : b < e) (he : e < (n : Int)) : c_is_haul [.tup [.int b, .int e], .int (n : Int)] M = .ok (.bl true) M := by
  have e0 : env0 N_is_haul.length [.tup [.int b, .int e], .int (n : Int)] = [.shr (.tup [.int b, .int e]), .shr (.int n), .no] := rfl
  have cm := compL_map (gd := gN 2) (ft := eC (.bl true)) (fe := b_is_haul_1) (env0 := [.shr (.tup [.int b, .int e]), .shr (.int n), .no]) (enc := D.int) (g := fun _ => .bl true) (M := M) (xs := [b, e]) (acc := [])
    (by simp; decide) (fun h hh => ⟨_, by simp; rfl, rfl, by simp [b_is_haul_1, isint_ok]⟩)
  have ba := bAll_bools (ns := [true, true]) (M := M)
  simp only [List.map_cons, List.map_nil, List.nil_append] at cm ba
  unfold c_is_haul
  rw [e0]
  simp [b_is_haul, cm, ba, h0, h, he]
theorem checkhaul_ok {b e : Int} (h0 : 0 ≤ b) (h : b < e) (he : e < (n : Int)) : c_check_haul [.tup [.int b, .int e], .int (n : Int)] M = .ok .non M := by
  have e0 : env0 N_check_haul.length [.tup [.int b, .int e], .int (n : Int)] = [.shr (.tup [.int b, .int e]), .shr (.int n)] := rfl
  have ih := fun M => ishaul_ok (M := M) h0 h he
  unfold c_check_haul
  rw [e0]
  simp [b_check_haul, ih]
end
end HP

set_option maxRecDepth 100000
set_option maxHeartbeats 2000000
namespace HP
open MP PySem L2
section
variable {M : List D} {n i j k c : Nat} {f g : Tab} {w : Str}
/-- nowhere dearer -/
def leB (n : Nat) (f g : Tab) : Bool := (hauls n).all fun h => decide (mxO (f h.1 h.2) (g h.1 h.2) = g h.1 h.2)
end
end HP

set_option maxRecDepth 100000
set_option maxHeartbeats 8000000
namespace HP
open MP PySem L2
section
variable {M : List D} {n i j k c : Nat} {f g : Tab} {w : Str}
theorem mx2_comm {a b : Int} : mx2 a b = mx2 b a := by
  obtain ⟨m1, m2, m3⟩ := mx2_le (a := a) (b := b)
  obtain ⟨q1, q2, q3⟩ := mx2_le (a := b) (b := a)
  omega
theorem mn2_comm {a b : Int} : mn2 a b = mn2 b a := by
  obtain ⟨m1, m2, m3⟩ := mn2_le (a := a) (b := b)
  obtain ⟨q1, q2, q3⟩ := mn2_le (a := b) (b := a)
  omega
theorem maxT_comm : maxT g f = maxT f g := by
  funext i j
  unfold maxT
  cases f i j <;> cases g i j <;> first | rfl | exact congrArg some mx2_comm
theorem minT_comm : minT g f = minT f g := by
  funext i j
  unfold minT
  cases f i j <;> cases g i j <;> first | rfl | exact congrArg some mn2_comm
theorem tup_pl {xs : List D} (h : ∀ x ∈ xs, pl k x = true) : pl (k + 1) (.lst xs) = true := List.all_eq_true.mpr h
theorem deck_pl2 (hn : n ≤ 10) (hf : Wr n f) : pl 2 (.tup (deck n (odT f))) = true := (deck_pl hn hf).1
theorem shown_2 (hn : n ≤ 10) (hf : Wr n f) (hg : Wr n g) : ∃ s, ∀ M, bRepr [.lst [.tup (deck n (odT f)), .tup (deck n (odT g))]] M = .ok (.str s) M := by
  obtain ⟨d1, d2, d3⟩ := deck_pl hn hf
  obtain ⟨e1, e2, e3⟩ := deck_pl hn hg
  refine repr_ok (k := 3) (tup_pl ?_) (by decide) rfl ?_
  · intro x hx
    simp at hx
    rcases hx with rfl | rfl
    · exact d1
    · exact e1
  · show ([_, _].map (wt 2)).sum + 2 * [_, _].length + 3 ≤ _
    simp only [List.map_cons, List.map_nil, List.sum_cons, List.sum_nil, List.length_cons, List.length_nil]
    omega
theorem shown_w (hn : n ≤ 10) (hf : Wr n f) (hw : w ∈ words) : ∃ s, ∀ M, bRepr [.lst [.tup (deck n (odT f)), .str w]] M = .ok (.str s) M := by
  obtain ⟨d1, d2, d3⟩ := deck_pl hn hf
  obtain ⟨s1, s2⟩ := word_pl hw
  refine repr_ok (k := 3) (tup_pl ?_) (by decide) rfl ?_
  · intro x hx
    simp at hx
    rcases hx with rfl | rfl
    · exact d1
    · exact str_pl s1
  · show ([_, _].map (wt 2)).sum + 2 * [_, _].length + 3 ≤ _
    simp only [List.map_cons, List.map_nil, List.sum_cons, List.sum_nil, List.length_cons, List.length_nil, wt_str]
    omega
theorem shown_b {a b : Bool} : ∃ s, ∀ M, bRepr [.lst [.bl a, .bl b]] M = .ok (.str s) M := by
  refine repr_ok (k := 1) rfl (by decide) rfl ?_
  cases a <;> cases b <;> decide
theorem deck_ne (hn : n ≤ 10) (hf : Wr n f) : oNe (.tup (deck n (odT f))) (.tup (deck n (odT f))) M = .ok (.bl false) M :=
  oNe_self (deck_pl hn hf).1 (deck_pl hn hf).2.1 (by decide) rfl
theorem eqT_max {f g : Tab} : oEqT (tabD n (odT (maxT f g))) (tabD n (odT g)) M = .ok (.bl (leB n f g)) M := by
  show (match eqT (tab n (odT (maxT f g))) (tab n (odT g)) with | some b => R.ok (D.bl b) M | none => .stuck) = _
  rw [eqT_tab]
  rfl
end
end HP

set_option maxRecDepth 100000
set_option maxHeartbeats 2000000
namespace HP
open MP PySem L2
/-- one told range: the haul, the least price, the greatest or none -/
abbrev Span := (Nat × Nat) × Int × Option Int
def spanD (s : Span) : D := .tup [hDp s.1, .int s.2.1, od s.2.2]
/-- ranges that may be told of a line -/
structure Spans (n : Nat) (B : Int) (ss : List Span) : Prop where
  sub : (ss.map (·.1)).Sublist (hauls n)
  ok : ∀ s ∈ ss, 0 ≤ s.2.1 ∧ s.2.1 ≤ B ∧ ∀ h, s.2.2 = some h → s.2.1 ≤ h ∧ h ≤ B
section
variable {M : List D} {n i j k c : Nat} {f g : Tab} {w : Str} {ss : List Span} {B : Int}
theorem Spans.nd (h : Spans n B ss) : (ss.map (·.1)).Nodup := h.sub.nodup (hauls_nodup n)
theorem Spans.at_ (h : Spans n B ss) {s : Span} (hs : s ∈ ss) : At n s.1.1 s.1.2 := hauls_lt (h.sub.subset (List.mem_map_of_mem hs))
theorem Spans.len (h : Spans n B ss) (hn : n ≤ 10) : ss.length ≤ 45 := by
  have := h.sub.length_le
  have := hauls_len n hn
  rw [List.length_map] at *
  omega
/-- the told one of a haul -/
def told (ss : List Span) (i j : Nat) : Option Span := ss.find? fun s => decide (s.1 = (i, j))
def lowT (ss : List Span) : Tab := fun i j => some (match told ss i j with | some s => s.2.1 | none => 0)
def highT (ss : List Span) : Tab := fun i j => match told ss i j with | some s => s.2.2 | none => none
theorem told_mem {s : Span} (h : told ss i j = some s) : s ∈ ss ∧ s.1 = (i, j) := by
  unfold told at h
  exact ⟨List.mem_of_find?_eq_some h, by simpa using List.find?_some h⟩
theorem foldl_told {α : Type} {v : Span → Option Int} : ∀ {ss : List Span} {f : Tab}, (ss.map (·.1)).Nodup → ∀ i j, ss.foldl (fun f s => up2 f s.1.1 s.1.2 (v s)) f i j = match told ss i j with | some s => v s | none => f i j
  | [], f, _, i, j => rfl
  | s :: ss, f, h, i, j => by
    rw [List.map_cons, List.nodup_cons] at h
    rw [List.foldl_cons, foldl_told (α := α) h.2]
    by_cases e : s.1 = (i, j)
    · have no : told ss i j = none := by
        unfold told
        rw [List.find?_eq_none]
        intro x hx z
        have z : x.1 = (i, j) := by simpa using z
        exact h.1 (List.mem_map.mpr ⟨x, hx, z.trans e.symm⟩)
      have ye : told (s :: ss) i j = some s := by unfold told; rw [List.find?_cons_of_pos (by simp [e])]
      rw [no, ye]
      show up2 f s.1.1 s.1.2 (v s) i j = v s
      rw [e]; exact up2_same
    · have ye : told (s :: ss) i j = told ss i j := by unfold told; rw [List.find?_cons_of_neg (by simp [e])]
      rw [ye]
      cases told ss i j with
      | some x => rfl
      | none =>
        show up2 f s.1.1 s.1.2 (v s) i j = f i j
        exact up2_ne fun z => e (Prod.ext z.1.symm z.2.symm)
theorem low_in (h : Spans n B ss) (hB : 0 ≤ B) : InB n (lowT ss) B := fun i j a => by
  refine ⟨_, rfl, ?_, ?_⟩ <;>
  · cases q : told ss i j with
    | none => simp [hB]
    | some s => have := h.ok s (told_mem q).1; dsimp only; omega
theorem high_nn (h : Spans n B ss) : NN n (highT ss) := fun i j v a e => by
  unfold highT at e
  cases q : told ss i j with
  | none => rw [q] at e; cases e
  | some s =>
    rw [q] at e
    have := h.ok s (told_mem q).1
    have := this.2.2 v e
    omega
end
end HP

set_option maxRecDepth 100000
set_option maxHeartbeats 4000000
namespace HP
open MP PySem L2
section
variable {M : List D} {n i j k c : Nat} {f g : Tab} {w : Str} {ss : List Span} {B most : Int}
/-- a told range, while the rides before are in pre -/
structure SpanB (B : Int) (s : Span) : Prop where
  lo : 0 ≤ s.2.1
  hi : s.2.1 ≤ B
  gr : ∀ h, s.2.2 = some h → s.2.1 ≤ h ∧ h ≤ B
theorem span_1 (hj : JarAt M c) (h0 : 0 ≤ most) (hm : most ≤ 10 ^ 11) (hl : ss.length < 1000) {h : Nat × Nat} {x5 x6 : MP.B} (f5 : x5.free) (f6 : x6.free) :
    ∃ (y5 y6 : MP.B) (ss' : List Span) (M' : List D), y5.free ∧ y6.free ∧ b__law_spans_1 [.shr (.cel c), .shr (.int n), .shr (.int most), .own (.lst (ss.map spanD)), .shr (hDp h), x5, x6] M = .next [.shr (.cel c), .shr (.int n), .shr (.int most), .own (.lst (ss'.map spanD)), .shr (hDp h), y5, y6] M' ∧ JarAt M' c ∧ (ss' = ss ∨ ∃ s : Span, s.1 = h ∧ SpanB (most * 2) s ∧ ss' = ss ++ [s]) := by
  have m200 : most + 1 < 2 ^ 200 := by
    have : (10 : Int) ^ 11 + 1 < 2 ^ 200 := by decide
    omega
  obtain ⟨d1, M1, e1, a1, b1, j1⟩ := dip_ok (m := 3) hj (by decide) (by decide)
  by_cases q1 : 0 < d1
  · obtain ⟨d2, M2, e2, a2, b2, j2⟩ := dip_ok (m := 2) j1 (by decide) (by decide)
    obtain ⟨low, M3, l0, l1, j3, el⟩ : ∃ (low : Int) (M3 : List D), 0 ≤ low ∧ low ≤ most ∧ JarAt M3 c ∧ (if d2 = 0 then c__law_dip [.cel c, .int (most + 1)] M2 = .ok (.int low) M3 else low = 0 ∧ M3 = M2) := by
      by_cases q2 : d2 = 0
      · obtain ⟨v, M3, e3, a3, b3, j3⟩ := dip_ok (m := most + 1) j2 (by omega) m200
        exact ⟨v, M3, a3, by omega, j3, by rw [if_pos q2]; exact e3⟩
      · exact ⟨0, M2, Int.le_refl _, h0, j2, by rw [if_neg q2]; exact ⟨rfl, rfl⟩⟩
    obtain ⟨d3, M4, e4, a4, b4, j4⟩ := dip_ok (m := 3) j3 (by decide) (by decide)
    obtain ⟨high, M5, lh, j5, eh⟩ : ∃ (high : Option Int) (M5 : List D), (∀ h, high = some h → low ≤ h ∧ h ≤ most * 2) ∧ JarAt M5 c ∧ (if d3 = 0 then high = none ∧ M5 = M4 else ∃ v, c__law_dip [.cel c, .int (most + 1)] M4 = .ok (.int v) M5 ∧ high = some (low + v)) := by
      by_cases q3 : d3 = 0
      · exact ⟨none, M4, fun h z => (nomatch z), j4, by rw [if_pos q3]; exact ⟨rfl, rfl⟩⟩
      · obtain ⟨v, M5, e5, a5, b5, j5⟩ := dip_ok (m := most + 1) j4 (by omega) m200
        exact ⟨some (low + v), M5, fun h z => by cases z; omega, j5, by rw [if_neg q3]; exact ⟨v, e5, rfl⟩⟩
    refine ⟨.shr (.int low), .shr (od high), ss ++ [(h, low, high)], M5, trivial, trivial, ?_, j5, .inr ⟨(h, low, high), rfl, ⟨l0, (by show low ≤ most * 2; omega), lh⟩, rfl⟩⟩
    have sz : (ss.map spanD).length < sizeLine := by rw [List.length_map]; exact Nat.lt_trans hl (by decide)
    have st : stApp (.tup [hDp h, .int low, od high]) (.lst (ss.map spanD)) = some (.lst (ss.map spanD ++ [.tup [hDp h, .int low, od high]])) := by
      show (if (ss.map spanD).length < sizeLine then _ else none) = _
      rw [if_pos sz]
    have s1 := store_own (M := M5) (i := 3) (env := [.shr (.cel c), .shr (.int n), .shr (.int most), .own (.lst (ss.map spanD)), .shr (hDp h), .shr (.int low), .shr (od high)]) rfl st
    have ct := isLst_own (M := M3) (i := 3) (env := [.shr (.cel c), .shr (.int n), .shr (.int most), .own (.lst (ss.map spanD)), .shr (hDp h), .shr (.int low), .shr (od high)]) rfl
    have ct5 := isLst_own (M := M5) (i := 3) (env := [.shr (.cel c), .shr (.int n), .shr (.int most), .own (.lst (ss.map spanD)), .shr (hDp h), .shr (.int low), .shr (od high)]) rfl
    simp only [List.set_cons_succ, List.set_cons_zero] at s1
    rw [List.map_append]
    show _ = RS.next [_, _, _, .own (.lst (ss.map spanD ++ [.tup [hDp h, .int low, od high]])), _, _, _] M5
    by_cases q2 : d2 = 0
    · rw [if_pos q2] at el
      subst q2
      by_cases q3 : d3 = 0
      · rw [if_pos q3] at eh
        obtain ⟨rfl, rfl⟩ := eh
        subst q3
        simp only [od_none] at s1 ct5
        simp [b__law_spans_1, e1, q1, e2, el, f5, e4, f6, ct5, s1]
      · rw [if_neg q3] at eh
        obtain ⟨v, e5, rfl⟩ := eh
        simp only [od_some] at s1 ct5
        simp [b__law_spans_1, e1, q1, e2, el, f5, e4, f6, q3, e5, ct5, s1]
    · rw [if_neg q2] at el
      obtain ⟨rfl, rfl⟩ := el
      by_cases q3 : d3 = 0
      · rw [if_pos q3] at eh
        obtain ⟨rfl, rfl⟩ := eh
        subst q3
        simp only [od_none] at s1 ct5
        simp [b__law_spans_1, e1, q1, e2, q2, f5, e4, f6, ct5, s1]
      · rw [if_neg q3] at eh
        obtain ⟨v, e5, rfl⟩ := eh
        simp only [od_some, Int.zero_add] at s1 ct5
        simp [b__law_spans_1, e1, q1, e2, q2, f5, e4, f6, q3, e5, ct5, s1]
  · refine ⟨x5, x6, ss, M1, f5, f6, ?_, j1, .inl rfl⟩
    simp [b__law_spans_1, e1, q1]
theorem law_spans_ok (hn : n ≤ 10) (hj : JarAt M c) (h0 : 0 ≤ most) (hm : most ≤ 10 ^ 11) :
    ∃ ss M', c__law_spans [.cel c, .int (n : Int), .int most] M = .ok (.tup (ss.map spanD)) M' ∧ Spans n (most * 2) ss ∧ JarAt M' c := by
  have e0 : env0 N__law_spans.length [.cel c, .int (n : Int), .int most] = [.shr (.cel c), .shr (.int n), .shr (.int most), .no, .no, .no, .no] := rfl
  obtain ⟨env2, M2, e1, jj, ss, y4, y5, y6, f4, f5, f6, sb, ok, rfl⟩ := forL_pre (gd := gN 4) (b := b__law_spans_1) (enc := hDp) (xs := hauls n)
    (P := fun pre env M' => JarAt M' c ∧ ∃ (ss : List Span) (y4 y5 y6 : MP.B), y4.free ∧ y5.free ∧ y6.free ∧ (ss.map (·.1)).Sublist pre ∧ (∀ s ∈ ss, SpanB (most * 2) s) ∧ env = [.shr (.cel c), .shr (.int n), .shr (.int most), .own (.lst (ss.map spanD)), y4, y5, y6]) (by
      rintro pre h post env M' e ⟨jj, ss, y4, y5, y6, f4, f5, f6, sb, ok, rfl⟩
      have ln : ss.length < 1000 := by
        have a := sb.length_le
        have b := congrArg List.length e
        have d := hauls_len n hn
        simp at a b
        omega
      obtain ⟨z5, z6, ss', M3, g5, g6, eq, j3, or⟩ := span_1 (n := n) (h := h) jj h0 hm ln f5 f6
      refine ⟨_, by simp [f4], _, M3, .inl eq, j3, ss', .shr (hDp h), z5, z6, trivial, g5, g6, ?_, ?_, rfl⟩
      · rcases or with rfl | ⟨s, rfl, _, rfl⟩
        · exact sb.trans (List.sublist_append_left _ _)
        · rw [List.map_append]; exact sb.append (List.Sublist.refl _)
      · rcases or with rfl | ⟨s, rfl, hs, rfl⟩
        · exact ok
        · intro x hx
          rcases List.mem_append.mp hx with hx | hx
          · exact ok x hx
          · rw [List.mem_singleton.mp hx]; exact hs)
    (env := [.shr (.cel c), .shr (.int n), .shr (.int most), .own (.lst []), .no, .no, .no]) (M := M) ⟨hj, [], .no, .no, .no, trivial, trivial, trivial, List.Sublist.refl _, (fun _ h => nomatch h), rfl⟩
  refine ⟨ss, M2, ?_, ⟨sb, fun s hs => ⟨(ok s hs).lo, (ok s hs).hi, (ok s hs).gr⟩⟩, jj⟩
  unfold c__law_spans
  rw [e0]
  simp [b__law_spans, rides_ok hn, e1]
end
end HP

set_option maxRecDepth 100000
set_option maxHeartbeats 4000000
namespace HP
open MP PySem L2
section
variable {M : List D} {n i j k c : Nat} {f g : Tab} {w : Str} {ss : List Span} {B : Int}
theorem bSubT_run {i j : Nat} {fk fl fv : EF} {env : EnvM} {d1 d2 d d' dk dl : D} {M1 M2 M3 : List D} {r : RS} (h1 : fv env M = .ok (.tup [d1, d2]) M1) (h2 : env[i]? = some (.own d)) (h3 : fk env M1 = .ok dk M2) (h4 : stSub dk d1 d = some d') (h5 : has j (env.set i (.own d')) = true)
    (h6 : fl (env.set i (.own d')) M2 = .ok dl M3) (h7 : store j (stSub dl d2) (env.set i (.own d')) M3 = r) : bSubT i j fk fl fv env M = r := by
  unfold bSubT
  rw [h1, R.bindS_ok, h2]
  dsimp only
  rw [h3, R.bindS_ok, h4]
  dsimp only
  rw [if_pos h5, h6, R.bindS_ok, h7]
/-- all zero, all open -/
def zeroT : Tab := fun _ _ => some 0
def openT : Tab := fun _ _ => none
def lowF (ss : List Span) (f : Tab) : Tab := ss.foldl (fun f s => up2 f s.1.1 s.1.2 (some s.2.1)) f
def highF (ss : List Span) (f : Tab) : Tab := ss.foldl (fun f s => up2 f s.1.1 s.1.2 s.2.2) f
theorem lowF_eq (h : (ss.map (·.1)).Nodup) : lowF ss zeroT = lowT ss := by
  funext i j
  unfold lowF lowT
  rw [foldl_told (α := Unit) h]
  cases told ss i j <;> rfl
theorem highF_eq (h : (ss.map (·.1)).Nodup) : highF ss openT = highT ss := by
  funext i j
  unfold highF highT
  rw [foldl_told (α := Unit) h]
  cases told ss i j <;> rfl
theorem law_lows_ok (hn : n ≤ 10) (hs : Spans n B ss) : c__law_lows [.int (n : Int), .tup (ss.map spanD)] M = .ok (.tup [tabD n (odT (lowT ss)), tabD n (odT (highT ss))]) M := by
  have e0 : env0 N__law_lows.length [.int (n : Int), .tup (ss.map spanD)] = [.shr (.int n), .shr (.tup (ss.map spanD)), .no, .no, .no, .no, .no] := rfl
  have ro := fun M => rides_ok (M := M) hn
  have po : ∀ M, bParOO 2 3 (eNew (.dT [])) (eNew (.dT [])) [.shr (.int n), .shr (.tup (ss.map spanD)), .no, .no, .no, .no, .no] M = .next [.shr (.int n), .shr (.tup (ss.map spanD)), .own (.dT []), .own (.dT []), .no, .no, .no] M := fun _ => rfl
  obtain ⟨env2, M2, e1, y4, f4, rfl, rfl⟩ := forL_pre (gd := gN 4) (b := b__law_lows_1) (enc := hDp) (xs := hauls n)
    (P := fun pre env M' => ∃ y4 : MP.B, y4.free ∧ env = [.shr (.int n), .shr (.tup (ss.map spanD)), .own (.dT (pre.map fun h => (hKp h, odT zeroT h.1 h.2))), .own (.dT (pre.map fun h => (hKp h, odT openT h.1 h.2))), y4, .no, .no] ∧ M' = M) (by
      rintro pre x post env M' e ⟨y4, f4, rfl, rfl⟩
      have s1 : stSub (hDp x) (.int 0) (.dT (pre.map fun h => (hKp h, odT zeroT h.1 h.2))) = _ := sub_new (h := odT zeroT) hn e
      have s2 : stSub (hDp x) .non (.dT (pre.map fun h => (hKp h, odT openT h.1 h.2))) = _ := sub_new (h := odT openT) hn e
      refine ⟨[.shr (.int n), .shr (.tup (ss.map spanD)), .own (.dT (pre.map fun h => (hKp h, odT zeroT h.1 h.2))), .own (.dT (pre.map fun h => (hKp h, odT openT h.1 h.2))), .shr (hDp x), .no, .no], by simp [f4], [.shr (.int n), .shr (.tup (ss.map spanD)), .own (.dT ((pre ++ [x]).map fun h => (hKp h, odT zeroT h.1 h.2))), .own (.dT ((pre ++ [x]).map fun h => (hKp h, odT openT h.1 h.2))), .shr (hDp x), .no, .no], M', .inl ?_, .shr (hDp x), trivial, rfl, rfl⟩
      have q2 := store_own (M := M') (i := 3) (env := [.shr (.int n), .shr (.tup (ss.map spanD)), .own (.dT ((pre ++ [x]).map fun h => (hKp h, odT zeroT h.1 h.2))), .own (.dT (pre.map fun h => (hKp h, odT openT h.1 h.2))), .shr (hDp x), .no, .no]) rfl s2
      exact bSubT_run (d1 := .int 0) (d2 := .non) (M1 := M') (M2 := M') (M3 := M') (dk := hDp x) (dl := hDp x) rfl rfl rfl s1 rfl rfl q2)
    (env := [.shr (.int n), .shr (.tup (ss.map spanD)), .own (.dT []), .own (.dT []), .no, .no, .no]) (M := M) ⟨.no, trivial, rfl, rfl⟩
  have main : ∀ (ss' : List Span), (∀ s ∈ ss', At n s.1.1 s.1.2) → ∀ (f g : Tab) (y4 y5 y6 : MP.B), y4.free → y5.free → y6.free → ∃ z4 z5 z6 : MP.B, z4.free ∧ z5.free ∧ z6.free ∧
      forL (gT [4, 5, 6]) b__law_lows_2 (ss'.map spanD) [.shr (.int n), .shr (.tup (ss.map spanD)), .own (tabD n (odT f)), .own (tabD n (odT g)), y4, y5, y6] M2 = .next [.shr (.int n), .shr (.tup (ss.map spanD)), .own (tabD n (odT (lowF ss' f))), .own (tabD n (odT (highF ss' g))), z4, z5, z6] M2 := by
    intro ss'
    induction ss' with
    | nil => exact fun _ f g y4 y5 y6 f4 f5 f6 => ⟨y4, y5, y6, f4, f5, f6, rfl⟩
    | cons s ss' ih =>
      intro ha f g y4 y5 y6 f4 f5 f6
      have a := ha s (by simp)
      have s1 := sub_tab (f := odT f) (v := od (some s.2.1)) hn a
      have s2 := sub_tab (f := odT g) (v := od s.2.2) hn a
      rw [odT_up] at s1 s2
      have q2 := store_own (M := M2) (i := 3) (env := [.shr (.int n), .shr (.tup (ss.map spanD)), .own (tabD n (odT (up2 f s.1.1 s.1.2 (some s.2.1)))), .own (tabD n (odT g)), .shr (hDp s.1), .shr (.int s.2.1), .shr (od s.2.2)]) rfl s2
      have st : b__law_lows_2 [.shr (.int n), .shr (.tup (ss.map spanD)), .own (tabD n (odT f)), .own (tabD n (odT g)), .shr (hDp s.1), .shr (.int s.2.1), .shr (od s.2.2)] M2 = .next [.shr (.int n), .shr (.tup (ss.map spanD)), .own (tabD n (odT (up2 f s.1.1 s.1.2 (some s.2.1)))), .own (tabD n (odT (up2 g s.1.1 s.1.2 s.2.2))), .shr (hDp s.1), .shr (.int s.2.1), .shr (od s.2.2)] M2 :=
        bSubT_run (d1 := .int s.2.1) (d2 := od s.2.2) (M1 := M2) (M2 := M2) (M3 := M2) (dk := hDp s.1) (dl := hDp s.1) rfl rfl rfl s1 rfl rfl q2
      have gt : gT [4, 5, 6] (spanD s) [.shr (.int n), .shr (.tup (ss.map spanD)), .own (tabD n (odT f)), .own (tabD n (odT g)), y4, y5, y6] = some [.shr (.int n), .shr (.tup (ss.map spanD)), .own (tabD n (odT f)), .own (tabD n (odT g)), .shr (hDp s.1), .shr (.int s.2.1), .shr (od s.2.2)] := by
        simp [spanD, f4, f5, f6]
      obtain ⟨z4, z5, z6, g4, g5, g6, e⟩ := ih (fun x hx => ha x (List.mem_cons_of_mem _ hx)) (up2 f s.1.1 s.1.2 (some s.2.1)) (up2 g s.1.1 s.1.2 s.2.2) (.shr (hDp s.1)) (.shr (.int s.2.1)) (.shr (od s.2.2)) trivial trivial trivial
      refine ⟨z4, z5, z6, g4, g5, g6, ?_⟩
      rw [List.map_cons, forL_cons gt, st]
      exact e
  obtain ⟨z4, z5, z6, g4, g5, g6, e2⟩ := main ss (fun s h => hs.at_ h) zeroT openT y4 .no .no f4 trivial trivial
  rw [lowF_eq hs.nd, highF_eq hs.nd] at e2
  have e2' : forL (gT [4, 5, 6]) b__law_lows_2 (ss.map spanD) [.shr (.int n), .shr (.tup (ss.map spanD)), .own (.dT ((hauls n).map fun h => (hKp h, odT zeroT h.1 h.2))), .own (.dT ((hauls n).map fun h => (hKp h, odT openT h.1 h.2))), y4, .no, .no] M2 = _ := e2
  have sh1 := bShare_own (M := M2) (i := 2) (env := [.shr (.int n), .shr (.tup (ss.map spanD)), .own (tabD n (odT (lowT ss))), .own (tabD n (odT (highT ss))), z4, z5, z6]) rfl
  have sh2 := bShare_own (M := M2) (i := 3) (env := [.shr (.int n), .shr (.tup (ss.map spanD)), .shr (tabD n (odT (lowT ss))), .own (tabD n (odT (highT ss))), z4, z5, z6]) rfl
  simp only [List.set_cons_succ, List.set_cons_zero] at sh1 sh2
  unfold c__law_lows
  rw [e0]
  simp [b__law_lows, po, ro, e1, e2', sh1, sh2]
end
end HP

set_option maxRecDepth 100000
set_option maxHeartbeats 4000000
namespace HP
open MP PySem L2
section
variable {M : List D} {n i j k c : Nat} {f g : Tab} {w : Str} {ss : List Span} {B : Int}
def boundsD (n : Nat) (ss : List Span) : D := .ins "Bounds" [("all", .tup [.int (n : Int), .tup (ss.map spanD)])]
theorem view_bounds : view M (boundsD n ss) = boundsD n ss := rfl
theorem meth_bounds {m : Str} {r : R} (h : ("all" == m) = false) : methR "Bounds" m (boundsD n ss) r = r := methR_ins (by simp [List.lookup, BEq.comm, h]; split <;> simp_all)
def lexP (a b : Nat × Nat) : Prop := a.1 < b.1 ∨ (a.1 = b.1 ∧ a.2 < b.2)
instance : DecidableRel lexP := fun a b => inferInstanceAs (Decidable (_ ∨ _))
theorem hauls_lex (hn : n ≤ 10) : (hauls n).Pairwise lexP := by
  match n, hn with
  | 0, _ | 1, _ | 2, _ | 3, _ | 4, _ | 5, _ | 6, _ | 7, _ | 8, _ | 9, _ | 10, _ => decide +kernel
theorem Spans.lex (h : Spans n B ss) (hn : n ≤ 10) : (ss.map (·.1)).Pairwise lexP := (hauls_lex hn).sublist h.sub
theorem is_range_ok {s : Span} (a : At n s.1.1 s.1.2) (hn : n ≤ 10) (h : SpanB B s) (hB : B ≤ 1000000000000) : c_is_range [spanD s, .int (n : Int)] M = .ok (.bl true) M := by
  have e0 : env0 N_is_range.length [spanD s, .int (n : Int)] = [.shr (spanD s), .shr (.int n)] := rfl
  have ih := fun M => ishaul_ok (M := M) (b := (s.1.1 : Int)) (e := (s.1.2 : Int)) (n := n) (by omega) (by have := a.1; omega) (by have := a.2; omega)
  have ip := fun (v : Int) M => isprice_ok (M := M) (v := v)
  have l0 := h.lo
  have l1 : s.2.1 ≤ 1000000000000 := Int.le_trans h.hi hB
  unfold c_is_range
  rw [e0]
  cases q : s.2.2 with
  | none => simp [b_is_range, spanD, q, ih, ip, l0, l1]
  | some v =>
    obtain ⟨g1, g2⟩ := h.gr v q
    have v0 : 0 ≤ v := Int.le_trans l0 g1
    have v1 : v ≤ 1000000000000 := Int.le_trans g2 hB
    simp [b_is_range, spanD, q, ih, ip, l0, l1, v0, v1, g1]
theorem check_stops_ok (h2 : 2 ≤ n) (hn : n ≤ 10) : c_check_stops [.int (n : Int)] M = .ok .non M := by
  have e0 : env0 N_check_stops.length [.int (n : Int)] = [.shr (.int n)] := rfl
  have e1 : env0 N_is_within.length [.int (n : Int), .int 2, .int 10] = [.shr (.int n), .shr (.int 2), .shr (.int 10)] := rfl
  have ii := fun M => isint_ok (M := M) (v := (n : Int))
  have a : (2 : Int) ≤ (n : Int) := by omega
  have b : (n : Int) ≤ 10 := by omega
  unfold c_check_stops
  rw [e0]
  simp [b_check_stops, c_is_within, e1, b_is_within, ii, a, b]
def nthS (ss : List Span) (k : Nat) : Span := ss.getD k ((0, 0), 0, none)
theorem nthS_eq {k : Nat} (h : k < ss.length) : nthS ss k = ss[k] := by unfold nthS; simp [h]
theorem enum_spans : enumD (ss.map spanD) = (List.range ss.length).map fun (k : Nat) => D.tup [.int (k : Int), spanD (nthS ss k)] := by
  unfold enumD
  refine List.ext_getElem (by simp) fun k h1 h2 => ?_
  simp at h1
  simp [nthS_eq h1]
theorem binit_ok (h2 : 2 ≤ n) (hn : n ≤ 10) (hs : Spans n B ss) (hB : B ≤ 1000000000000) : c_Bounds___init__ [.int (n : Int), .tup (ss.map spanD)] M = .ok (boundsD n ss) M := by
  have e0 : env0I N_Bounds___init__.length "Bounds" [.int (n : Int), .tup (ss.map spanD)] = [.slf (.ins "Bounds" []), .shr (.int n), .shr (.tup (ss.map spanD)), .no, .no] := rfl
  have cs := fun M => check_stops_ok (M := M) h2 hn
  obtain ⟨env2, e1, y3, y4, f3, f4, rfl⟩ := forL_same (gd := gT [3, 4]) (b := b_Bounds___init___1) (enc := fun (k : Nat) => D.tup [.int (k : Int), spanD (nthS ss k)]) (xs := List.range ss.length) (M := M)
    (fun env => ∃ y3 y4 : MP.B, y3.free ∧ y4.free ∧ env = [.slf (.ins "Bounds" []), .shr (.int n), .shr (.tup (ss.map spanD)), y3, y4]) (by
      rintro k hk env ⟨y3, y4, f3, f4, rfl⟩
      rw [List.mem_range] at hk
      obtain ⟨s, hsk⟩ : ∃ s, s = nthS ss k := ⟨_, rfl⟩
      have hs1 : ss[k] = s := by rw [hsk, nthS_eq hk]
      have mem : s ∈ ss := by rw [← hs1]; exact List.getElem_mem hk
      rw [← hsk]
      have ok := hs.ok s mem
      have ir := fun M => is_range_ok (M := M) (s := s) (hs.at_ mem) hn ⟨ok.1, ok.2.1, ok.2.2⟩ hB
      refine ⟨[.slf (.ins "Bounds" []), .shr (.int n), .shr (.tup (ss.map spanD)), .shr (.int k), .shr (spanD s)], by simp [f3, f4], [.slf (.ins "Bounds" []), .shr (.int n), .shr (.tup (ss.map spanD)), .shr (.int k), .shr (spanD s)], ?_, .shr (.int k), .shr (spanD s), trivial, trivial, rfl⟩
      cases k with
      | zero => simp [b_Bounds___init___1, ir]
      | succ k =>
        have hk2 : k < ss.length := by omega
        have at1 : ∀ M, oIx (.tup (ss.map spanD)) (.int (k : Int)) M = .ok (spanD ss[k]) M := fun M => by
          have : atI (ss.map spanD) (k : Int) = some (spanD ss[k]) := atI_nat (by simp [hk2])
          show (match atI (ss.map spanD) (k : Int) with | some d => R.ok d M | none => .stuck) = _
          rw [this]
        have lx := hs.lex hn
        rw [List.pairwise_map, List.pairwise_iff_getElem] at lx
        have lt := lx k (k + 1) hk2 hk (by omega)
        rw [hs1] at lt
        have ge : ∀ M, oGeT (hDp ss[k].1) (hDp s.1) M = .ok (.bl false) M := fun M => by
          refine oGeT_2.trans ?_
          have : ¬ ((s.1.1 : Int) < (ss[k].1.1 : Int) ∨ ((ss[k].1.1 : Int) = (s.1.1 : Int) ∧ (s.1.2 : Int) ≤ (ss[k].1.2 : Int))) := by
            unfold lexP at lt
            omega
          rw [decide_eq_false this]
        have k1 : ((k : Int) + 1) - 1 = (k : Int) := by omega
        have sp0 : ∀ (s : Span) M, oIx (spanD s) (.int 0) M = .ok (hDp s.1) M := fun _ _ => rfl
        simp [b_Bounds___init___1, ir, k1, at1, sp0, ge])
    (env := [.slf (.ins "Bounds" []), .shr (.int n), .shr (.tup (ss.map spanD)), .no, .no]) ⟨.no, .no, trivial, trivial, rfl⟩
  have s1 := fun M => store_slf (M := M) (i := 0) (u := stFld "Bounds" "all" (.tup [.int (n : Int), .tup (ss.map spanD)])) (d := .ins "Bounds" []) (d' := boundsD n ss) (env := [.slf (.ins "Bounds" []), .shr (.int n), .shr (.tup (ss.map spanD)), y3, y4]) rfl rfl
  unfold c_Bounds___init__
  rw [e0]
  simp [b_Bounds___init__, cs, enum_spans, e1, s1]
  rfl
end
end HP

set_option maxRecDepth 100000
set_option maxHeartbeats 4000000
namespace HP
open MP PySem L2
section
variable {M : List D} {n i j k c : Nat} {f g : Tab} {w : Str} {ss : List Span} {B : Int}
theorem told_get {v : Span → D} : ∀ {ss : List Span}, valK (ss.map fun s => (hKp s.1, v s)) (hK i j) = (told ss i j).map v
  | [] => rfl
  | s :: ss => by
    by_cases e : s.1 = (i, j)
    · have y : told (s :: ss) i j = some s := by unfold told; rw [List.find?_cons_of_pos (by simp [e])]
      rw [y]
      unfold valK
      rw [List.map_cons, List.find?_cons_of_pos (by simp [e, hKp])]
      rfl
    · have y : told (s :: ss) i j = told ss i j := by unfold told; rw [List.find?_cons_of_neg (by simp [e])]
      have ih := told_get (v := v) (ss := ss)
      rw [y, ← ih]
      unfold valK
      have ne : ¬ hKp s.1 = hK i j := fun z => e (hK_inj (a := s.1) (b := (i, j)) z)
      rw [List.map_cons, List.find?_cons_of_neg (by simp [ne])]
theorem bnd_stops : c_Bounds_stops [boundsD n ss] M = .ok (.int (n : Int)) M := by
  have e0 : env0 N_Bounds_stops.length [boundsD n ss] = [.shr (boundsD n ss)] := rfl
  have f1 : fldR "Bounds" "all" (boundsD n ss) M = .ok (.tup [.int (n : Int), .tup (ss.map spanD)]) M := fldR_ins rfl
  unfold c_Bounds_stops
  rw [e0]
  simp [b_Bounds_stops, f1]
theorem bnd_ranges : c_Bounds_ranges [boundsD n ss] M = .ok (.tup (ss.map spanD)) M := by
  have e0 : env0 N_Bounds_ranges.length [boundsD n ss] = [.shr (boundsD n ss)] := rfl
  have f1 : fldR "Bounds" "all" (boundsD n ss) M = .ok (.tup [.int (n : Int), .tup (ss.map spanD)]) M := fldR_ins rfl
  unfold c_Bounds_ranges
  rw [e0]
  simp [b_Bounds_ranges, f1]
theorem prop_bstops : propR "Bounds" c_Bounds_stops (boundsD n ss) M = .ok (.int (n : Int)) M :=
  propR_ins (cn := "Bounds") (c := c_Bounds_stops) (M := M) (M1 := M) (fs := [("all", .tup [.int (n : Int), .tup (ss.map spanD)])]) bnd_stops
theorem prop_branges : propR "Bounds" c_Bounds_ranges (boundsD n ss) M = .ok (.tup (ss.map spanD)) M :=
  propR_ins (cn := "Bounds") (c := c_Bounds_ranges) (M := M) (M1 := M) (fs := [("all", .tup [.int (n : Int), .tup (ss.map spanD)])]) bnd_ranges
theorem sp_nodup (hs : Spans n B ss) : (ss.map fun s => hKp s.1).Nodup := by
  have := hs.nd
  rw [show (ss.map fun s => hKp s.1) = (ss.map (·.1)).map hKp by rw [List.map_map]; rfl]
  exact List.Pairwise.map _ (fun _ _ ne e => ne (hK_inj e)) this
theorem getD_told {v : Span → D} : getD (.dT (ss.map fun s => (hKp s.1, v s))) (hD i j) = some ((told ss i j).map v) := by
  show (keysD [D.int i, D.int j]).map (fun k => valK (ss.map fun s => (hKp s.1, v s)) k) = _
  rw [keysD_h, Option.map_some]
  exact congrArg some told_get
theorem greatests_ok (hn : n ≤ 10) (hs : Spans n B ss) : c_Bounds_greatests [boundsD n ss] M = .ok (tabD n (odT (highT ss))) M := by
  have e0 : env0 N_Bounds_greatests.length [boundsD n ss] = [.shr (boundsD n ss), .no, .no, .no, .no] := rfl
  have p1 := fun M => prop_bstops (M := M) (n := n) (ss := ss)
  have p2 := fun M => prop_branges (M := M) (n := n) (ss := ss)
  have ho := fun M => hauls_of_ok (M := M) hn
  have c1 := dcompT_map (gd := gT [2, 3, 4]) (ft := eC (.bl true)) (fk := b_Bounds_greatests_1) (fe := b_Bounds_greatests_2) (env0 := [.shr (boundsD n ss), .no, .no, .no, .no]) (enc := spanD) (v := fun s => od s.2.2) (kd := fun s => [.int s.1.1, .int s.1.2]) (key := fun s => hKp s.1) (M := M) (xs := ss) (acc := [])
    (sz45 (by have := hs.len hn; simp; omega)) (fun s hh => ⟨[.shr (boundsD n ss), .no, .shr (hDp s.1), .shr (.int s.2.1), .shr (od s.2.2)], by simp [spanD], rfl, by simp [b_Bounds_greatests_1], rfl, by simp [b_Bounds_greatests_2]⟩) (sp_nodup hs) (by simp)
  rw [List.nil_append] at c1
  obtain ⟨T, hT⟩ : ∃ T, T = ss.map fun s => (hKp s.1, od s.2.2) := ⟨_, rfl⟩
  rw [← hT] at c1
  have c2 := dcompT_map (gd := gN 2) (ft := eC (.bl true)) (fk := b_Bounds_greatests_3) (fe := b_Bounds_greatests_4) (env0 := [.shr (boundsD n ss), .shr (.dT T), .no, .no, .no]) (enc := hDp) (v := fun h => odT (highT ss) h.1 h.2) (kd := fun h => [.int h.1, .int h.2]) (key := hKp) (M := M) (xs := hauls n) (acc := [])
    (sz45 (by have := hauls_len n hn; simp; omega)) (fun h hh => ⟨_, by simp; rfl, rfl, by simp [b_Bounds_greatests_3], rfl, by
      have gt : getD (.dT T) (hDp h) = some ((told ss h.1 h.2).map fun s => od s.2.2) := by rw [hT]; exact getD_told
      have vv : odT (highT ss) h.1 h.2 = ((told ss h.1 h.2).map fun s => od s.2.2).getD .non := by
        show od (highT ss h.1 h.2) = _
        unfold highT
        cases told ss h.1 h.2 <;> rfl
      rw [vv]
      cases q : told ss h.1 h.2 with
      | none => rw [q] at gt; simp [b_Bounds_greatests_4, gt]
      | some s => rw [q] at gt; simp [b_Bounds_greatests_4, gt]⟩) (hKs_nodup n) (by simp)
  have c2' : dcompT (gN 2) (eC (.bl true)) b_Bounds_greatests_3 b_Bounds_greatests_4 [.shr (boundsD n ss), .shr (.dT T), .no, .no, .no] ((hauls n).map hDp) [] M = .ok (tabD n (odT (highT ss))) M := c2
  unfold c_Bounds_greatests
  rw [e0]
  simp [b_Bounds_greatests, p1, p2, c1, ho, c2']
theorem leasts_ok (hn : n ≤ 10) (hs : Spans n B ss) : c_Bounds_leasts [boundsD n ss] M = .ok (tabD n (odT (lowT ss))) M := by
  have e0 : env0 N_Bounds_leasts.length [boundsD n ss] = [.shr (boundsD n ss), .no, .no, .no, .no] := rfl
  have p1 := fun M => prop_bstops (M := M) (n := n) (ss := ss)
  have p2 := fun M => prop_branges (M := M) (n := n) (ss := ss)
  have ho := fun M => hauls_of_ok (M := M) hn
  have c1 := dcompT_map (gd := gT [2, 3, 4]) (ft := eC (.bl true)) (fk := b_Bounds_leasts_1) (fe := b_Bounds_leasts_2) (env0 := [.shr (boundsD n ss), .no, .no, .no, .no]) (enc := spanD) (v := fun s => .int s.2.1) (kd := fun s => [.int s.1.1, .int s.1.2]) (key := fun s => hKp s.1) (M := M) (xs := ss) (acc := [])
    (sz45 (by have := hs.len hn; simp; omega)) (fun s hh => ⟨[.shr (boundsD n ss), .no, .shr (hDp s.1), .shr (.int s.2.1), .shr (od s.2.2)], by simp [spanD], rfl, by simp [b_Bounds_leasts_1], rfl, by simp [b_Bounds_leasts_2]⟩) (sp_nodup hs) (by simp)
  rw [List.nil_append] at c1
  obtain ⟨T, hT⟩ : ∃ T, T = ss.map fun s => (hKp s.1, D.int s.2.1) := ⟨_, rfl⟩
  rw [← hT] at c1
  have c2 := dcompT_map (gd := gN 2) (ft := eC (.bl true)) (fk := b_Bounds_leasts_3) (fe := b_Bounds_leasts_4) (env0 := [.shr (boundsD n ss), .shr (.dT T), .no, .no, .no]) (enc := hDp) (v := fun h => odT (lowT ss) h.1 h.2) (kd := fun h => [.int h.1, .int h.2]) (key := hKp) (M := M) (xs := hauls n) (acc := [])
    (sz45 (by have := hauls_len n hn; simp; omega)) (fun h hh => ⟨_, by simp; rfl, rfl, by simp [b_Bounds_leasts_3], rfl, by
      have gt : getD (.dT T) (hDp h) = some ((told ss h.1 h.2).map fun s => D.int s.2.1) := by rw [hT]; exact getD_told
      have vv : odT (lowT ss) h.1 h.2 = ((told ss h.1 h.2).map fun s => D.int s.2.1).getD (.int 0) := by
        show od (lowT ss h.1 h.2) = _
        unfold lowT
        cases told ss h.1 h.2 <;> rfl
      rw [vv]
      cases q : told ss h.1 h.2 with
      | none => rw [q] at gt; simp [b_Bounds_leasts_4, gt]
      | some s => rw [q] at gt; simp [b_Bounds_leasts_4, gt]⟩) (hKs_nodup n) (by simp)
  have c2' : dcompT (gN 2) (eC (.bl true)) b_Bounds_leasts_3 b_Bounds_leasts_4 [.shr (boundsD n ss), .shr (.dT T), .no, .no, .no] ((hauls n).map hDp) [] M = .ok (tabD n (odT (lowT ss))) M := c2
  unfold c_Bounds_leasts
  rw [e0]
  simp [b_Bounds_leasts, p1, p2, c1, ho, c2']
/-- what is found of bounds -/
def foundD (n : Nat) (lo hi : Tab) (w : Str) : D := .ins "Found" [("line", .int (n : Int)), ("kind", .str w), ("least", tabD n (odT lo)), ("covers", tabD n fun i j => wayD (covT w n hi i j)), ("most", tabD n (odT (clT w n hi)))]
theorem finit_ok (hn : n ≤ 10) {lo hi : Tab} : c_Found___init__ [.int (n : Int), tabD n (odT lo), tabD n (odT hi), .str w] M = .ok (foundD n lo hi w) M := by
  have e0 : env0I N_Found___init__.length "Found" [.int (n : Int), tabD n (odT lo), tabD n (odT hi), .str w] = [.slf (.ins "Found" []), .shr (.int n), .shr (tabD n (odT lo)), .shr (tabD n (odT hi)), .shr (.str w)] := rfl
  have c1 := fun M => covers_of_ok (M := M) (g := hi) (w := w) hn
  have c2 := fun M => costs_of_ok (M := M) (cov := covT w n hi) hn
  obtain ⟨C, hC⟩ : ∃ C, C = tabD n fun i j => wayD (covT w n hi i j) := ⟨_, rfl⟩
  obtain ⟨L, hL⟩ : ∃ L, L = tabD n (odT lo) := ⟨_, rfl⟩
  obtain ⟨H, hH⟩ : ∃ H, H = tabD n (odT hi) := ⟨_, rfl⟩
  have c2' : ∀ M, c_costs_of [C] M = .ok (tabD n (odT (clT w n hi))) M := fun M => by rw [hC]; exact c2 M
  rw [← hC, ← hH] at c1
  unfold foundD
  rw [← hC, ← hL]
  rw [← hL] at e0
  rw [← hH] at e0 ⊢
  obtain ⟨R, hR⟩ : ∃ R, R = tabD n (odT (clT w n hi)) := ⟨_, rfl⟩
  rw [← hR] at c2' ⊢
  have s1 := fun M => store_slf (M := M) (i := 0) (u := stFld "Found" "line" (.int (n : Int))) (d := .ins "Found" []) (d' := .ins "Found" [("line", .int (n : Int))]) (env := [.slf (.ins "Found" []), .shr (.int n), .shr L, .shr H, .shr (.str w)]) rfl rfl
  have s2 := fun M => store_slf (M := M) (i := 0) (u := stFld "Found" "kind" (.str w)) (d := .ins "Found" [("line", .int (n : Int))]) (d' := .ins "Found" [("line", .int (n : Int)), ("kind", .str w)]) (env := [.slf (.ins "Found" [("line", .int (n : Int))]), .shr (.int n), .shr L, .shr H, .shr (.str w)]) rfl rfl
  have s3 := fun M => store_slf (M := M) (i := 0) (u := stFld "Found" "least" L) (d := .ins "Found" [("line", .int (n : Int)), ("kind", .str w)]) (d' := .ins "Found" [("line", .int (n : Int)), ("kind", .str w), ("least", L)]) (env := [.slf (.ins "Found" [("line", .int (n : Int)), ("kind", .str w)]), .shr (.int n), .shr L, .shr H, .shr (.str w)]) rfl rfl
  have s4 := fun M => store_slf (M := M) (i := 0) (u := stFld "Found" "covers" C) (d := .ins "Found" [("line", .int (n : Int)), ("kind", .str w), ("least", L)]) (d' := .ins "Found" [("line", .int (n : Int)), ("kind", .str w), ("least", L), ("covers", C)]) (env := [.slf (.ins "Found" [("line", .int (n : Int)), ("kind", .str w), ("least", L)]), .shr (.int n), .shr L, .shr H, .shr (.str w)]) rfl rfl
  have s5 := fun M => store_slf (M := M) (i := 0) (u := stFld "Found" "most" R) (d := .ins "Found" [("line", .int (n : Int)), ("kind", .str w), ("least", L), ("covers", C)]) (d' := .ins "Found" [("line", .int (n : Int)), ("kind", .str w), ("least", L), ("covers", C), ("most", R)]) (env := [.slf (.ins "Found" [("line", .int (n : Int)), ("kind", .str w), ("least", L), ("covers", C)]), .shr (.int n), .shr L, .shr H, .shr (.str w)]) rfl rfl
  have fl : ∀ M, fldR "Found" "covers" (.ins "Found" [("line", .int (n : Int)), ("kind", .str w), ("least", L), ("covers", C)]) M = .ok C M := fun M => fldR_ins rfl
  simp only [List.set_cons_zero] at s1 s2 s3 s4 s5
  unfold c_Found___init__
  rw [e0]
  simp [b_Found___init__, s1, s2, s3, c1, s4, fl, c2', s5]
  rfl
theorem found_in_ok (hn : n ≤ 10) (hs : Spans n B ss) : c_found_in [boundsD n ss, .str w] M = .ok (foundD n (lowT ss) (highT ss) w) M := by
  have e0 : env0 N_found_in.length [boundsD n ss, .str w] = [.shr (boundsD n ss), .shr (.str w)] := rfl
  have p1 := fun M => prop_bstops (M := M) (n := n) (ss := ss)
  have l1 := fun M => leasts_ok (M := M) hn hs
  have g1 := fun M => greatests_ok (M := M) hn hs
  have m1 : ∀ {r : R}, methR "Bounds" "leasts" (boundsD n ss) r = r := meth_bounds rfl
  have m2 : ∀ {r : R}, methR "Bounds" "greatests" (boundsD n ss) r = r := meth_bounds rfl
  have fi := fun M => finit_ok (M := M) (w := w) (lo := lowT ss) (hi := highT ss) hn
  unfold c_found_in
  rw [e0]
  simp [b_found_in, p1, view_bounds, m1, m2, l1, g1, fi]
theorem check_bounds_ok : c_check_bounds [boundsD n ss] M = .ok .non M := by
  have e0 : env0 N_check_bounds.length [boundsD n ss] = [.shr (boundsD n ss)] := rfl
  have is1 : ∀ M, oIsi (isC "Bounds" []) (boundsD n ss) M = .ok (.bl true) M := fun M => oIsi_ins (M := M) (k := isC "Bounds" []) (c := "Bounds") (fs := [("all", .tup [.int (n : Int), .tup (ss.map spanD)])]) isC_ins
  unfold c_check_bounds
  rw [e0]
  simp [b_check_bounds, is1]
theorem cover_ok (hn : n ≤ 10) (hs : Spans n B ss) (hw : w ∈ words) (a : At n i j) : c_cover [boundsD n ss, hD i j, .str w] M = .ok (wayD (covT w n (highT ss) i j)) M := by
  have e0 : env0 N_cover.length [boundsD n ss, hD i j, .str w] = [.shr (boundsD n ss), .shr (hD i j), .shr (.str w)] := rfl
  have cb := fun M => check_bounds_ok (M := M) (n := n) (ss := ss)
  have ch := fun M => checkhaul_ok (M := M) (b := (i : Int)) (e := (j : Int)) (n := n) (by omega) (by have := a.1; omega) (by have := a.2; omega)
  have cr := fun M => check_rules_ok (M := M) hw
  have p1 := fun M => prop_bstops (M := M) (n := n) (ss := ss)
  have fi := fun M => found_in_ok (M := M) (w := w) hn hs
  have fl : ∀ M, fldR "Found" "covers" (foundD n (lowT ss) (highT ss) w) M = .ok (tabD n fun i j => wayD (covT w n (highT ss) i j)) M := fun M => fldR_ins rfl
  have ix := fun M => ix_tab (M := M) (f := fun i j => wayD (covT w n (highT ss) i j)) a
  unfold c_cover
  rw [e0]
  simp [b_cover, cb, ch, cr, p1, fi, fl, ix]
end
end HP

set_option maxRecDepth 100000
set_option maxHeartbeats 2000000
namespace HP
open MP PySem L2
section
variable {w : Str} {n : Nat} {g : Tab} {i j s t e : Nat} {F : WF} {c : Int} {cs : List (Nat × Nat)}
/-- each found way is an earlier one, with one haul more -/
def Lnk (w : Str) (n : Nat) (g : Tab) (i t : Nat) (F : WF) : Prop := ∀ e x, F e = some x → (e = i ∧ x = (0, [])) ∨ ∃ s y h p, s < t ∧ s < e ∧ F s = some y ∧ h ∈ hauls n ∧ h.2 = e ∧ g h.1 h.2 = some p ∧ fits w h.1 h.2 s ∧ x = (y.1 + p, y.2 ++ [h])
theorem wStep_or (way : Option Wy) (h : Nat × Nat) : wStep w g s way F h = F ∨ ∃ x p, way = some x ∧ g h.1 h.2 = some p ∧ fits w h.1 h.2 s ∧ wStep w g s way F h = upF F h.2 (betterW (F h.2) (some (x.1 + p, x.2 ++ [h]))) := by
  cases way with
  | none => exact .inl rfl
  | some x =>
    cases q : g h.1 h.2 with
    | none => exact .inl (by unfold wStep; rw [q])
    | some p =>
      by_cases hf : fits w h.1 h.2 s
      · exact .inr ⟨x, p, rfl, rfl, hf, by unfold wStep; rw [q]; dsimp only; rw [if_pos hf]⟩
      · exact .inl (by unfold wStep; rw [q]; dsimp only; rw [if_neg hf])
theorem wStep_far {way : Option Wy} {h : Nat × Nat} (hh : h ∈ hauls n) (he : e ≤ s) : wStep w g s way F h e = F e := by
  rcases wStep_or (w := w) (g := g) (s := s) (F := F) way h with z | ⟨x, p, _, _, hf, z⟩
  · rw [z]
  · rw [z]
    exact upF_ne (fun z => by have := fits_lt (hauls_lt hh) hf; omega)
theorem sStep_far (he : e ≤ s) : sStep w n g F s e = F e := by
  have key := foldl_inv (s := wStep w g s (F s)) (xs := hauls n) (b := F) (fun _ c => c e = F e) rfl (by
    rintro pre h post c e' k
    exact (wStep_far (by rw [e']; simp) he).trans k)
  exact key
theorem sStep_lnk (hF : Lnk w n g i t F) : Lnk w n g i (t + 1) (sStep w n g F t) := by
  have fix : ∀ s, s ≤ t → sStep w n g F t s = F s := fun s h => sStep_far h
  have key := foldl_inv (s := wStep w g t (F t)) (xs := hauls n) (b := F) (fun _ c => ∀ e x, c e = some x → (e = i ∧ x = (0, [])) ∨ ∃ s y h p, s < t + 1 ∧ s < e ∧ F s = some y ∧ h ∈ hauls n ∧ h.2 = e ∧ g h.1 h.2 = some p ∧ fits w h.1 h.2 s ∧ x = (y.1 + p, y.2 ++ [h])) (fun e x hx => by
      rcases hF e x hx with z | ⟨s, y, h, p, z1, z2⟩
      · exact .inl z
      · exact .inr ⟨s, y, h, p, by omega, z2⟩) (by
    rintro pre h post c e' k e x hx
    have hh : h ∈ hauls n := by rw [e']; simp
    rcases wStep_or (w := w) (g := g) (s := t) (F := c) (F t) h with z | ⟨y, p, e1, e2, hf, z⟩
    · rw [z] at hx; exact k _ _ hx
    · rw [z] at hx
      by_cases q : e = h.2
      · subst q
        rw [upF_same] at hx
        rcases betterW_mem hx with z | z
        · exact k _ _ z
        · cases z
          exact .inr ⟨t, y, h, p, by omega, fits_lt (hauls_lt hh) hf, e1, hh, rfl, e2, hf, rfl⟩
      · rw [upF_ne q] at hx; exact k _ _ hx)
  intro e x hx
  rcases key e x hx with z | ⟨s, y, h, p, z1, z2, z3, z4⟩
  · exact .inl z
  · exact .inr ⟨s, y, h, p, z1, z2, by rw [fix s (by omega)]; exact z3, z4⟩
theorem waysF_lnk (hi : i < n) : Lnk w n g i n (waysF w n g i) := by
  have all : ∀ m, m ≤ n - i → Lnk w n g i (i + m) (((List.range m).map fun k => i + k).foldl (sStep w n g) (f0 i)) := by
    intro m
    induction m with
    | zero =>
      intro _ e x hx
      have hx : f0 i e = some x := hx
      unfold f0 at hx
      split at hx
      · cases hx; rename_i q; exact .inl ⟨q, rfl⟩
      · cases hx
    | succ m ih =>
      intro hm
      rw [List.range_succ, List.map_append, List.foldl_append]
      exact sStep_lnk (ih (by omega))
  have := all (n - i) (Nat.le_refl _)
  rwa [show i + (n - i) = n by omega] at this
/-- the best one: none is cheaper, none as cheap and shorter -/
theorem lexLt_2 {a b : Int} {k l : Nat} : HT.lexLt [a, (k : Int)] [b, (l : Int)] = true ↔ a < b ∨ (a = b ∧ k < l) := by
  rw [HT.lexLt_cons]
  by_cases q : a = b
  · subst q
    rw [HT.lexLt_cons]
    by_cases z : (k : Int) = (l : Int)
    · have : k = l := by omega
      subst this
      simp [HT.lexLt]
    · first | (simp [z]; done) | (simp [z]; omega)
  · simp [q]
def LexLe (x y : Wy) : Prop := x.1 < y.1 ∨ (x.1 = y.1 ∧ x.2.length ≤ y.2.length)
theorem LexLe.trans {x y z : Wy} (a : LexLe x y) (b : LexLe y z) : LexLe x z := by
  unfold LexLe at *
  omega
theorem cheaper_iff {a b : Wy} : cheaper a b = true ↔ ¬ LexLe a b := by
  unfold cheaper LexLe
  rw [lexLt_2]
  omega
theorem betterW_lex {a b : Option Wy} {x : Wy} (h : betterW a b = some x) : (∀ y, a = some y → LexLe x y) ∧ (∀ y, b = some y → LexLe x y) := by
  have rf : ∀ x : Wy, LexLe x x := fun x => .inr ⟨rfl, Nat.le_refl _⟩
  cases a with
  | none => 
    have h : b = some x := h
    exact ⟨fun y z => (nomatch z), fun y z => (by rw [h] at z; cases z; exact rf _)⟩
  | some a =>
    cases b with
    | none =>
      have h : some a = some x := h
      exact ⟨fun y z => (by cases h; cases z; exact rf _), fun y z => (nomatch z)⟩
    | some b =>
      rw [betterW_ss] at h
      split at h
      · rename_i q
        cases h
        rw [cheaper_iff] at q
        refine ⟨fun y z => ?_, fun y z => (by cases z; exact rf _)⟩
        cases z
        unfold LexLe at *
        omega
      · rename_i q
        cases h
        rw [cheaper_iff] at q
        refine ⟨fun y z => (by cases z; exact rf _), fun y z => ?_⟩
        cases z
        exact Classical.byContradiction q
theorem bestW_lex {xs : List (Option Wy)} {x y : Wy} (h : bestW xs = some x) (hy : some y ∈ xs) : LexLe x y := by
  have key := foldl_inv (s := betterW) (xs := xs) (b := (none : Option Wy)) (fun pre c => ∀ y, some y ∈ pre → ∃ x, c = some x ∧ LexLe x y) (fun y e => nomatch e) (by
    intro pre z post c e p y hy
    rcases List.mem_append.mp hy with h | h
    · obtain ⟨x, hx, l⟩ := p y h
      rw [hx]
      obtain ⟨x2, h2, _⟩ := betterW_l (a := x) (b := z)
      exact ⟨x2, h2, ((betterW_lex h2).1 x rfl).trans l⟩
    · have h := List.mem_singleton.mp h
      subst h
      obtain ⟨x2, h2, _⟩ := betterW_r (a := c) (b := y)
      exact ⟨x2, h2, (betterW_lex h2).2 y rfl⟩)
  obtain ⟨x2, e, l⟩ := key y hy
  have : some x = some x2 := h.symm.trans e
  cases this
  exact l
/-- what a found cover looks like where both rules hold -/
theorem cov_both (hg : NN n g) (a : At n i j) (h1 : w ≠ "long") (h2 : w ≠ "parts") (e : covT w n g i j = some (c, cs)) : ∃ s c' ds h p, Way w n g i s c' ds ∧ s < j ∧ j ≤ h.2 ∧ h ∈ hauls n ∧ g h.1 h.2 = some p ∧ fits w h.1 h.2 s ∧ c = c' + p ∧ cs = ds ++ [h] := by
  unfold covT at e
  rw [if_neg h1, if_neg h2] at e
  have hi : i < n := by have := a.1; have := a.2; omega
  obtain ⟨k, hk, e2⟩ := List.mem_map.mp (bestW_mem e)
  rw [List.mem_range] at hk
  rcases waysF_lnk (w := w) (g := g) hi _ _ e2 with ⟨z, _⟩ | ⟨s, y, h, p, z1, z2, z3, z4, z5, z6, z7, z8⟩
  · have := a.1; omega
  · have hc : c = y.1 + p ∧ cs = y.2 ++ [h] := by cases z8; exact ⟨rfl, rfl⟩
    obtain ⟨rfl, rfl⟩ := hc
    refine ⟨s, y.1, y.2, h, p, (waysF_ok hi).1 s y.1 y.2 z3, ?_, by omega, z4, z6, z7, rfl, rfl⟩
    refine Nat.lt_of_not_le fun hs => ?_
    have mem : some y ∈ (List.range (n - j)).map fun k => waysF w n g i (j + k) := List.mem_map.mpr ⟨s - j, by rw [List.mem_range]; omega, by rw [show j + (s - j) = s by omega]; exact z3⟩
    have l := bestW_lex e mem
    have p0 := hg _ _ _ (hauls_lt z4) z6
    unfold LexLe at l
    simp at l
    omega
end
end HP

set_option maxRecDepth 100000
set_option maxHeartbeats 4000000
namespace HP
open MP PySem L2
section
variable {M : List D} {w : Str} {n : Nat} {g : Tab} {i j s e : Nat} {c : Int} {cs : List (Nat × Nat)}
/-- where the first k hauls end -/
def endAt (i : Nat) (cs : List (Nat × Nat)) (k : Nat) : Nat := if k = 0 then i else (cs.getD (k - 1) (0, 0)).2
theorem endAt_app {x : Nat × Nat} {k : Nat} (h : k ≤ cs.length) : endAt i (cs ++ [x]) k = endAt i cs k := by
  unfold endAt
  by_cases z : k = 0
  · rw [if_pos z, if_pos z]
  · rw [if_neg z, if_neg z]
    have : k - 1 < cs.length := by omega
    simp [List.getElem?_append_left this]
theorem endAt_succ {k : Nat} (h : k < cs.length) : endAt i cs (k + 1) = cs[k].2 := by
  unfold endAt
  rw [if_neg (by omega)]
  simp [h]
theorem way_get (h : Way w n g i e c cs) : (∀ k (hk : k < cs.length), cs[k] ∈ hauls n ∧ (∃ p, g cs[k].1 cs[k].2 = some p) ∧ fits w cs[k].1 cs[k].2 (endAt i cs k)) ∧ endAt i cs cs.length = e ∧ c = (cs.map fun h => nv g h.1 h.2).sum := by
  induction h with
  | nil => exact ⟨fun k hk => (nomatch hk), rfl, rfl⟩
  | @snoc s c cs a b p k v hp hf ih =>
    obtain ⟨h1, h2, h3⟩ := ih
    refine ⟨fun k hk => ?_, ?_, ?_⟩
    · rw [endAt_app (by simp at hk; omega)]
      by_cases q : k < cs.length
      · rw [List.getElem_append_left q]; exact h1 k q
      · have : k = cs.length := by simp at hk; omega
        subst this
        rw [List.getElem_append_right (Nat.le_refl _)]
        simp only [Nat.sub_self, List.getElem_cons_zero]
        exact ⟨mem_hauls.mpr v, ⟨p, hp⟩, by rw [h2]; exact hf⟩
    · rw [List.length_append, List.length_singleton, endAt_succ (by simp), List.getElem_append_right (Nat.le_refl _)]
      simp
    · rw [List.map_append, List.sum_append, ← h3]
      have : nv g a b = p := by unfold nv; rw [hp]; rfl
      simp [this]
/-- a cover as the law reads it -/
structure Walk (w : Str) (n : Nat) (i j : Nat) (cs : List (Nat × Nat)) : Prop where
  ne : cs ≠ []
  len : cs.length ≤ 100
  mem : ∀ h ∈ cs, h ∈ hauls n
  long : w = "long" → ∃ h, cs = [h] ∧ h.1 ≤ i ∧ j ≤ h.2
  fit : w ≠ "long" → ∀ k (hk : k < cs.length), fits w cs[k].1 cs[k].2 (endAt i cs k)
  parts : w = "parts" → endAt i cs cs.length = j
  both : w = "both" → ∀ k (hk : k < cs.length), j ≤ cs[k].2 ↔ k + 1 = cs.length
@[simp] theorem oNe_bl {a b : Bool} : oNe (.bl a) (.bl b) M = .ok (.bl (!(a == b))) M := rfl
theorem hs_pl (hn : n ≤ 10) (h : ∀ x ∈ cs, x ∈ hauls n) : pl 2 (.tup (cs.map hDp)) = true ∧ nb 2 (.tup (cs.map hDp)) = true := by
  simp only [pl, nb, List.all_eq_true, List.mem_map]
  constructor
  · rintro x ⟨o, ho, rfl⟩
    have a := hauls_lt (h o ho)
    show [D.int o.1, D.int o.2].all (pl 0) = true
    have p1 : pl 0 (.int (o.1 : Int)) = true := nat_pl (by have := a.1; have := a.2; omega)
    have p2 : pl 0 (.int (o.2 : Int)) = true := nat_pl (by have := a.2; omega)
    simp only [List.all_cons, List.all_nil, p1, p2, Bool.and_self]
  · rintro x ⟨o, ho, rfl⟩
    rfl
theorem is_cover_ok (hn : n ≤ 10) (hw : w ∈ words) (hc : Walk w n i j cs) : c__law_is_cover [.tup (cs.map hDp), hD i j, .str w] M = .ok (.bl true) M := by
  have e0 : env0 N__law_is_cover.length [.tup (cs.map hDp), hD i j, .str w] = [.shr (.tup (cs.map hDp)), .shr (hD i j), .shr (.str w), .no, .no, .no, .no] := rfl
  obtain ⟨p1, p2⟩ := hs_pl hn hc.mem
  obtain ⟨b, eb, hb⟩ := oEq_pl (k := 2) (e := .tup []) p1 rfl p2 rfl (by decide) rfl
  have hb2 : b = false := by
    cases b with
    | false => rfl
    | true =>
      have := hb.mp rfl
      injection this with this
      rw [List.map_eq_nil_iff] at this
      exact absurd this hc.ne
  subst hb2
  unfold c__law_is_cover
  rw [e0]
  by_cases hl : w = "long"
  · obtain ⟨h, rfl, h1, h2⟩ := hc.long hl
    have io : c__law_inner [hD i j, hDp h] M = .ok (.bl true) M := by rw [inner_ok, decide_eq_true ⟨h1, h2⟩]
    simp only [List.map_cons, List.map_nil] at eb
    simp [b__law_is_cover, eb, strEq, hl, io]
  · have ne1 : ¬ w = "long" := hl
    have fit := hc.fit hl
    obtain ⟨m, hm⟩ : ∃ m, m = cs.length := ⟨_, rfl⟩
    have m0 : 0 < m := by rw [hm]; exact List.length_pos_iff.mpr hc.ne
    obtain ⟨env2, M2, e1, y4, y5, y6, f4, f5, f6, rfl, rfl⟩ := forL_pre (gd := gN 4) (b := b__law_is_cover_1) (enc := fun (k : Nat) => D.int (k : Int)) (xs := List.range m)
      (P := fun pre env M' => ∃ y4 y5 y6 : MP.B, y4.free ∧ y5.free ∧ y6.free ∧ env = [.shr (.tup (cs.map hDp)), .shr (hD i j), .shr (.str w), .shr (.int (endAt i cs pre.length)), y4, y5, y6] ∧ M' = M) (by
        rintro pre k post env M' e ⟨y4, y5, y6, f4, f5, f6, rfl, rfl⟩
        obtain ⟨hp, hk⟩ := pre_range e
        have pk : pre.length = k := by rw [hp, List.length_range]
        rw [List.length_append, List.length_singleton, pk]
        have hk2 : k < cs.length := by omega
        have ft := fit k hk2
        have at_ := hauls_lt (hc.mem _ (List.getElem_mem hk2))
        have lt := fits_lt at_ ft
        have ix : ∀ M, oIx (.tup (cs.map hDp)) (.int (k : Int)) M = .ok (hDp cs[k]) M := fun M => by
          have : atI (cs.map hDp) (k : Int) = some (hDp cs[k]) := atI_nat (by simp [hk2])
          show (match atI (cs.map hDp) (k : Int) with | some d => R.ok d M | none => .stuck) = _
          rw [this]
        rw [endAt_succ hk2]
        refine ⟨[.shr (.tup (cs.map hDp)), .shr (hD i j), .shr (.str w), .shr (.int (endAt i cs k)), .shr (.int k), y5, y6], by simp [f4], [.shr (.tup (cs.map hDp)), .shr (hD i j), .shr (.str w), .shr (.int cs[k].2), .shr (.int k), .shr (.int cs[k].1), .shr (.int cs[k].2)], M', .inl ?_, .shr (.int k), .shr (.int cs[k].1), .shr (.int cs[k].2), trivial, trivial, trivial, rfl, rfl⟩
        have nle : ¬ ((cs[k].2 : Int) ≤ (endAt i cs k : Int)) := by omega
        unfold fits at ft
        by_cases hp : w = "parts"
        · rw [if_pos hp] at ft
          have bt : ¬ w = "both" := by rw [hp]; decide
          have eq : (cs[k].1 : Int) = (endAt i cs k : Int) := by omega
          have ngt : ¬ ((endAt i cs k : Int) < (cs[k].1 : Int)) := by omega
          rw [hp] at bt ⊢
          simp [b__law_is_cover_1, ix, f5, f6, strEq, bt, eq, nle]
        · rw [if_neg hp] at ft
          have wb : w = "both" := by
            simp [words] at hw
            rcases hw with z | z | z
            · exact z
            · exact absurd z hl
            · exact absurd z hp
          have ngt : ¬ ((endAt i cs k : Int) < (cs[k].1 : Int)) := by omega
          have iff := hc.both wb k hk2
          have ll : ((cs.length : Int) - 1 = (k : Int)) ↔ k + 1 = cs.length := by omega
          have beq : ((decide ((j : Int) ≤ (cs[k].2 : Int))) == ((k : Int) == (cs.length : Int) - 1)) = true := by
            by_cases q : j ≤ cs[k].2
            · have q2 := iff.mp q
              have a : (j : Int) ≤ (cs[k].2 : Int) := by omega
              have b : (k : Int) = (cs.length : Int) - 1 := by omega
              rw [decide_eq_true a, b]; simp
            · have q2 := fun z => q (iff.mpr z)
              have a : ¬ (j : Int) ≤ (cs[k].2 : Int) := by omega
              have b : ¬ (k : Int) = (cs.length : Int) - 1 := by omega
              rw [decide_eq_false a]; simp [b]
          rw [wb]
          rw [wb] at hp
          have beq2 : decide (j ≤ cs[k].2) = ((k : Int) == (cs.length : Int) - 1) := by simpa using beq
          simp [b__law_is_cover_1, ix, f5, f6, strEq, hp, ngt, nle, beq2])
      (env := [.shr (.tup (cs.map hDp)), .shr (hD i j), .shr (.str w), .shr (.int i), .no, .no, .no]) (M := M) ⟨.no, .no, .no, trivial, trivial, trivial, rfl, rfl⟩
    rw [List.length_range, hm] at e1
    have rg := rngL1_n (M := M2) (n := cs.length) (by have := hc.len; omega)
    have lst : endAt i cs cs.length = cs[cs.length - 1].2 := by
      have := endAt_succ (i := i) (cs := cs) (k := cs.length - 1) (by omega)
      rwa [show cs.length - 1 + 1 = cs.length by omega] at this
    by_cases hp : w = "parts"
    · have bt : ¬ w = "both" := by rw [hp]; decide
      have ej := hc.parts hp
      rw [ej] at e1
      rw [hp] at e1 bt ne1 ⊢
      simp [b__law_is_cover, eb, strEq, ne1, bt, rg, e1]
    · have wb : w = "both" := by
        simp [words] at hw
        rcases hw with z | z | z
        · exact z
        · exact absurd z hl
        · exact absurd z hp
      have ge : (j : Int) ≤ (endAt i cs cs.length : Int) := by
        have := (hc.both wb (cs.length - 1) (by omega)).mpr (by omega)
        rw [lst]; omega
      rw [wb] at e1 ne1 ⊢
      simp [b__law_is_cover, eb, strEq, ne1, rg, e1, ge]
end
end HP

set_option maxRecDepth 100000
set_option maxHeartbeats 4000000
namespace HP
open MP PySem L2
section
variable {M : List D} {w : Str} {n : Nat} {g : Tab} {i j s e : Nat} {c B : Int} {cs : List (Nat × Nat)}
theorem way_len (h : Way w n g i e c cs) : i + cs.length ≤ e := by
  induction h with
  | nil => simp
  | snoc k v hp hf ih =>
    have := fits_lt v hf
    rw [List.length_append, List.length_singleton]
    omega
theorem way_cost (hB : ∀ a b v, At n a b → g a b = some v → v ≤ B) (h : Way w n g i e c cs) : c ≤ cs.length * B := by
  induction h with
  | nil => simp
  | @snoc s c cs a b p k v hp hf ih =>
    have := hB a b p v hp
    rw [List.length_append, List.length_singleton]
    have e : ((cs.length + 1 : Nat) : Int) * B = cs.length * B + B := by rw [Int.natCast_add, Int.add_mul]; simp
    omega
/-- no end ahead of s reaches j -/
theorem ends_lt (h : Way w n g i s c cs) : ∀ k (hk : k < cs.length), cs[k].2 ≤ s := by
  induction h with
  | nil => exact fun k hk => nomatch hk
  | @snoc s c cs a b p k v hp hf ih =>
    intro m hm
    have lt := fits_lt v hf
    by_cases q : m < cs.length
    · rw [List.getElem_append_left q]
      have := ih m q
      omega
    · have : m = cs.length := by simp at hm; omega
      subst this
      rw [List.getElem_append_right (Nat.le_refl _)]
      simp
theorem cov_walk (hn : n ≤ 10) (hw : w ∈ words) (a : At n i j) (hg : NN n g) (hB : ∀ a b v, At n a b → g a b = some v → v ≤ B) (h0 : 0 ≤ B) (h : covT w n g i j = some (c, cs)) :
    Walk w n i j cs ∧ c = (cs.map fun h => nv g h.1 h.2).sum ∧ (∀ h ∈ cs, ∃ p, g h.1 h.2 = some p) ∧ 0 ≤ c ∧ c ≤ 10 * B := by
  have snd := (covT_ok (w := w) (n := n) (g := g)).sound i j c cs a h
  unfold Cover at snd
  by_cases hl : w = "long"
  · rw [if_pos hl] at snd
    obtain ⟨k, l, h1, h2, h3, h4, rfl⟩ := snd
    have c0 := hg k l c h3 h4
    have c1 := hB k l c h3 h4
    have en : nv g k l = c := by unfold nv; rw [h4]; rfl
    refine ⟨⟨by simp, by simp, fun x hx => by rw [List.mem_singleton.mp hx]; exact mem_hauls.mpr h3, fun _ => ⟨(k, l), rfl, h1, h2⟩, fun z => absurd hl z, fun z => ?_, fun z => ?_⟩, by simp [en], fun x hx => by rw [List.mem_singleton.mp hx]; exact ⟨c, h4⟩, c0, by omega⟩
    · rw [hl] at z; exact absurd z (by decide)
    · rw [hl] at z; exact absurd z (by decide)
  · rw [if_neg hl] at snd
    obtain ⟨e, wy, he⟩ := snd
    obtain ⟨g1, g2, g3⟩ := way_get wy
    have ln := way_len wy
    have lt := wy.lt (by have := a.1; have := a.2; omega)
    have c0 := wy.nn hg
    have c1 := way_cost hB wy
    have lc : (cs.length : Int) * B ≤ 10 * B := Int.mul_le_mul_of_nonneg_right (by omega) h0
    have je : j ≤ e := by unfold endsOk at he; split at he <;> omega
    have ne : cs ≠ [] := by
      intro z
      subst z
      have : endAt i [] 0 = e := g2
      have : i = e := this
      have := a.1
      omega
    have mem : ∀ h ∈ cs, h ∈ hauls n ∧ ∃ p, g h.1 h.2 = some p := fun x hx => by
      obtain ⟨k, hk, rfl⟩ := List.mem_iff_getElem.mp hx
      exact ⟨(g1 k hk).1, (g1 k hk).2.1⟩
    refine ⟨⟨ne, by omega, fun x hx => (mem x hx).1, fun z => absurd z hl, fun _ k hk => (g1 k hk).2.2, fun z => ?_, fun z => ?_⟩, g3, fun x hx => (mem x hx).2, c0, by omega⟩
    · unfold endsOk at he
      rw [if_pos z] at he
      rw [g2]; exact he
    · have np : w ≠ "parts" := by rw [z]; decide
      obtain ⟨s, c', ds, h', p, q1, q2, q3, q4, q5, q6, rfl, rfl⟩ := cov_both hg a hl np h
      intro k hk
      by_cases q : k < ds.length
      · rw [List.getElem_append_left q]
        have := ends_lt q1 k q
        rw [List.length_append, List.length_singleton]
        omega
      · have : k = ds.length := by simp at hk; omega
        subst this
        rw [List.getElem_append_right (Nat.le_refl _)]
        simp [q3]
theorem way_repr (hn : n ≤ 10) (hc : Walk w n i j cs) (h0 : 0 ≤ c) (h1 : c ≤ 10 ^ 20) : ∃ s, ∀ M, bReprA [wayD (some (c, cs))] M = .ok (.str s) M := by
  obtain ⟨p1, p2⟩ := hs_pl hn hc.mem
  have c1 : pl 2 (.int c) = true := int_pl (by
    have : (10 : Int) ^ 20 < 2 ^ 1900 := by decide
    have a : c < 2 ^ 1900 := by omega
    have b : (c.natAbs : Int) < ((2 ^ 1900 : Nat) : Int) := by rw [Int.natAbs_of_nonneg h0]; exact a
    exact Int.ofNat_lt.mp b)
  have wl : wt 2 (.tup (cs.map hDp)) ≤ 1000000 := by
    show ((cs.map hDp).map (wt 1)).sum + 2 * (cs.map hDp).length + 3 ≤ _
    have := sum_le (h := wt 1) (b := 4000) (xs := cs.map hDp) (by
      intro x hx
      obtain ⟨o, _, rfl⟩ := List.mem_map.mp hx
      show ([D.int o.1, D.int o.2].map (wt 0)).sum + 2 * [D.int o.1, D.int o.2].length + 3 ≤ 4000
      simp only [List.map_cons, List.map_nil, List.sum_cons, List.sum_nil, wt_int, List.length_cons, List.length_nil]
      omega)
    have l := hc.len
    simp only [List.length_map] at this ⊢
    have m : cs.length * 4000 ≤ 100 * 4000 := Nat.mul_le_mul_right _ l
    omega
  obtain ⟨s, hs⟩ := repr_ok (k := 3) (d := .tup [.int c, .tup (cs.map hDp)]) (by
    show [D.int c, D.tup (cs.map hDp)].all (pl 2) = true
    simp only [List.all_cons, List.all_nil, c1, p1, Bool.and_self, Bool.and_true]) (by decide) rfl (by
    show ([D.int c, D.tup (cs.map hDp)].map (wt 2)).sum + 2 * [D.int c, D.tup (cs.map hDp)].length + 3 ≤ _
    simp only [List.map_cons, List.map_nil, List.sum_cons, List.sum_nil, wt_int, List.length_cons, List.length_nil]
    omega)
  exact ⟨s, fun M => bReprA_ref rfl (hs M)⟩
theorem inF_none {vs : List Int} : oInF false .non (.lst (vs.map D.int)) M = .ok (.bl false) M := by
  have fl : ∀ vs : List Int, flL (vs.map D.int) = some (vs.map V.int) := by
    intro vs
    induction vs with
    | nil => rfl
    | cons v vs ih => show (match flD (.int v), flL (vs.map D.int) with | some v, some vs => some (v :: vs) | _, _ => none) = _; rw [ih]; rfl
  show (match flL (vs.map D.int) with | some ws => R.ok (.bl (if false = true then !inV .non ws else inV .non ws)) M | none => .stuck) = _
  rw [fl]
  have : inV .non (vs.map V.int) = false := by
    unfold inV
    rw [List.any_eq_false]
    intro x hx
    obtain ⟨v, _, rfl⟩ := List.mem_map.mp hx
    simp [eqV]
  show R.ok (.bl (inV .non (vs.map V.int))) M = _
  rw [this]
end
end HP

set_option maxRecDepth 100000
set_option maxHeartbeats 8000000
namespace HP
open MP PySem L2
section
variable {M : List D} {w : Str} {n : Nat} {g : Tab} {i j s e c : Nat} {B : Int} {ss : List Span}
theorem many6 {v : Int} (h0 : 0 ≤ v) (h1 : v < 6) : ∃ n : Nat, (2 : Int) + v = (n : Int) ∧ 2 ≤ n ∧ n ≤ 10 := ⟨(2 + v).toNat, by omega, by omega, by omega⟩
theorem ride_ok (h2 : 2 ≤ n) (hn : n ≤ 10) (hw : w ∈ words) (hs : Spans n B ss) (hB : 0 ≤ B) (hB2 : B ≤ 10 ^ 12) {f : Tab} (ef : ∀ i j, At n i j → f i j = clT w n (highT ss) i j) (a : At n i j) {x8 x9 : MP.B} (f8 : x8.free) :
    ∃ y8 : MP.B, y8.free ∧ (b__law_right_3 [.shr (.cel c), .shr (.int n), .shr (.str w), .shr (.tup (ss.map spanD)), .shr (tabD n (odT (highT ss))), .shr (boundsD n ss), .shr (tabD n (odT f)), .shr (hD i j), x8, .no] M = .next [.shr (.cel c), .shr (.int n), .shr (.str w), .shr (.tup (ss.map spanD)), .shr (tabD n (odT (highT ss))), .shr (boundsD n ss), .shr (tabD n (odT f)), .shr (hD i j), y8, .no] M ∨
      b__law_right_3 [.shr (.cel c), .shr (.int n), .shr (.str w), .shr (.tup (ss.map spanD)), .shr (tabD n (odT (highT ss))), .shr (boundsD n ss), .shr (tabD n (odT f)), .shr (hD i j), x8, .no] M = .cont [.shr (.cel c), .shr (.int n), .shr (.str w), .shr (.tup (ss.map spanD)), .shr (tabD n (odT (highT ss))), .shr (boundsD n ss), .shr (tabD n (odT f)), .shr (hD i j), y8, .no] M) := by
  have co := fun M => cover_ok (M := M) hn hs hw a
  have ap1 : ∀ {x y z : D} {M}, apQ c_cover 3 2 1 [0, 1, 2] [] [x, y] [z] M = c_cover [x, y, z] M := apQ_of ⟨rfl, rfl, rfl⟩ rfl
  have ap2 : ∀ {x y z : D} {M}, apQ c_cover 3 0 3 [2, 1, 0] [] [] [x, y, z] M = c_cover [z, y, x] M := apQ_of ⟨rfl, rfl, rfl⟩ rfl
  have ixf := fun M => ix_odT (h := f) (M := M) a
  rw [ef i j a] at ixf
  have hg := high_nn hs
  have hB' : ∀ a b v, At n a b → highT ss a b = some v → v ≤ B := fun a b v _ e => by
    unfold highT at e
    cases q : told ss a b with
    | none => rw [q] at e; cases e
    | some s =>
      rw [q] at e
      exact ((hs.ok s (told_mem q).1).2.2 v e).2
  cases q : covT w n (highT ss) i j with
  | none =>
    rw [q] at co
    have cl : clT w n (highT ss) i j = none := by unfold clT; rw [q]; rfl
    rw [cl] at ixf
    refine ⟨.shr .non, trivial, .inr ?_⟩
    simp [b__law_right_3, ap1, ap2, co, f8, bReprA_non, strEq, ixf]
  | some x =>
    obtain ⟨v, cs⟩ := x
    rw [q] at co
    have cl : clT w n (highT ss) i j = some v := by unfold clT; rw [q]; rfl
    rw [cl] at ixf
    obtain ⟨wk, sm, pr, v0, v1⟩ := cov_walk hn hw a hg hB' hB q
    have v2 : v ≤ 10 ^ 20 := by
      have : (10 : Int) * 10 ^ 12 ≤ 10 ^ 20 := by decide
      omega
    obtain ⟨s, sh⟩ := way_repr hn wk v0 v2
    have vl : v.natAbs.log2 < 1920 := by
      have : (10 : Int) ^ 20 < 2 ^ 1900 := by decide
      have a1 : v < 2 ^ 1900 := by omega
      have b1 : (v.natAbs : Int) < ((2 ^ 1900 : Nat) : Int) := by rw [Int.natAbs_of_nonneg v0]; exact a1
      exact Nat.lt_of_lt_of_le (log2_lt (by decide) (Int.ofNat_lt.mp b1)) (by decide)
    have ri := fun M => bReprA_int (M := M) vl
    have ic := fun M => is_cover_ok (M := M) hn hw wk
    have wd : wayD (some (v, cs)) = .tup [.int v, .tup (cs.map hDp)] := rfl
    rw [wd] at co sh
    have lenc : cs.length ≤ sizeLine := Nat.le_trans wk.len (by decide)
    have ixh : ∀ h ∈ cs, ∀ M, oIx (tabD n (odT (highT ss))) (hDp h) M = .ok (.int (nv (highT ss) h.1 h.2)) M := fun h hh M => by
      have := ix_odT (h := highT ss) (M := M) (hauls_lt (wk.mem h hh))
      obtain ⟨p, hp⟩ := pr h hh
      have e : nv (highT ss) h.1 h.2 = p := by unfold nv; rw [hp]; rfl
      rw [hp] at this
      rw [e]; exact this
    have c1 := compL_map (gd := gN 9) (ft := eC (.bl true)) (fe := b__law_right_1) (env0 := [.shr (.cel c), .shr (.int n), .shr (.str w), .shr (.tup (ss.map spanD)), .shr (tabD n (odT (highT ss))), .shr (boundsD n ss), .shr (tabD n (odT f)), .shr (hD i j), .shr (.tup [.int v, .tup (cs.map hDp)]), .no]) (enc := hDp) (g := fun h => .int (nv (highT ss) h.1 h.2)) (M := M) (xs := cs) (acc := [])
      (by simpa using lenc) (fun h hh => ⟨_, by simp; rfl, rfl, by have := ixh h hh; simp [b__law_right_1, this]⟩)
    have c2 := compL_map (gd := gN 9) (ft := eC (.bl true)) (fe := b__law_right_2) (env0 := [.shr (.cel c), .shr (.int n), .shr (.str w), .shr (.tup (ss.map spanD)), .shr (tabD n (odT (highT ss))), .shr (boundsD n ss), .shr (tabD n (odT f)), .shr (hD i j), .shr (.tup [.int v, .tup (cs.map hDp)]), .no]) (enc := hDp) (g := fun h => .int (nv (highT ss) h.1 h.2)) (M := M) (xs := cs) (acc := [])
      (by simpa using lenc) (fun h hh => ⟨_, by simp; rfl, rfl, by have := ixh h hh; simp [b__law_right_2, this]⟩)
    rw [List.nil_append] at c1 c2
    obtain ⟨vs, hvs⟩ : ∃ vs, vs = cs.map fun h => nv (highT ss) h.1 h.2 := ⟨_, rfl⟩
    have em : (cs.map fun h => D.int (nv (highT ss) h.1 h.2)) = vs.map D.int := by rw [hvs, List.map_map]; rfl
    rw [em] at c1 c2
    rw [← hvs] at sm
    have nn := inF_none (vs := vs) (M := M)
    have bs := bSum_ints (ns := vs) (M := M)
    rw [← sm] at bs
    refine ⟨.shr (.tup [.int v, .tup (cs.map hDp)]), trivial, .inl ?_⟩
    simp [b__law_right_3, ap1, ap2, co, f8, sh, strEq, ixf, ri, ic, c1, nn, c2, bs]
theorem right_ok (hj : JarAt M c) : ∃ M', c__law_right [.cel c] M = .ok (.bl true) M' := by
  have e0 : env0 N__law_right.length [.cel c] = [.shr (.cel c), .no, .no, .no, .no, .no, .no, .no, .no, .no] := rfl
  obtain ⟨v, M1, e1, v0, v9, j1⟩ := dip_ok (m := 6) hj (by decide) (by decide)
  obtain ⟨n, en, h2, hn⟩ := many6 v0 v9
  obtain ⟨w, M2, e2, hw, j2⟩ := word_ok j1
  obtain ⟨most, M3, e3, hm, j3⟩ := pick_ok (ms := [.int 2, .int 9, .int 10000000000]) j2 (by simp) (by simp)
  obtain ⟨b, rfl, b0, b1⟩ : ∃ b : Int, most = .int b ∧ 0 ≤ b ∧ b ≤ 10000000000 := by
    simp at hm
    rcases hm with rfl | rfl | rfl <;> exact ⟨_, rfl, by decide, by decide⟩
  obtain ⟨ss, M4, e4, hs, j4⟩ := law_spans_ok hn j3 b0 (Int.le_trans b1 (by decide))
  have lo := fun M => law_lows_ok (M := M) hn hs
  have bi := fun M => binit_ok (M := M) h2 hn hs (by omega)
  obtain ⟨f, hf, e5⟩ := law_settled_ok (w := w) (g := highT ss) hn (show 1 ≤ n by omega) (high_nn hs) ⟨_, covT_ok⟩
  have ef := hf.uniq (clT_ok (w := w) (high_nn hs))
  have ro := fun M => rides_ok (M := M) hn
  have pw : CPow 10 10 := by decide
  obtain ⟨env2, M5, e6, y7, y8, f7, f8, rfl, rfl⟩ := forL_pre (gd := gN 7) (b := b__law_right_3) (enc := hDp) (xs := hauls n)
    (P := fun pre env M' => ∃ y7 y8 : MP.B, y7.free ∧ y8.free ∧ env = [.shr (.cel c), .shr (.int n), .shr (.str w), .shr (.tup (ss.map spanD)), .shr (tabD n (odT (highT ss))), .shr (boundsD n ss), .shr (tabD n (odT f)), y7, y8, .no] ∧ M' = M4) (by
      rintro pre h post env M' e ⟨y7, y8, f7, f8, rfl, rfl⟩
      have a : At n h.1 h.2 := hauls_lt (h := h) (by rw [e]; simp)
      obtain ⟨z8, g8, or⟩ := ride_ok (c := c) (M := M') (x9 := .no) h2 hn hw hs (by omega) (by omega) ef a f8
      exact ⟨[.shr (.cel c), .shr (.int n), .shr (.str w), .shr (.tup (ss.map spanD)), .shr (tabD n (odT (highT ss))), .shr (boundsD n ss), .shr (tabD n (odT f)), .shr (hDp h), y8, .no], by simp [f7], _, M', or, .shr (hDp h), z8, trivial, g8, rfl, rfl⟩)
    (env := [.shr (.cel c), .shr (.int n), .shr (.str w), .shr (.tup (ss.map spanD)), .shr (tabD n (odT (highT ss))), .shr (boundsD n ss), .shr (tabD n (odT f)), .no, .no, .no]) (M := M4) ⟨.no, .no, trivial, trivial, rfl, rfl⟩
  have a01 : At n 0 1 := ⟨by omega, by omega⟩
  have ap1 : ∀ {x y z : D} {M}, apQ c_cover 3 2 1 [0, 1, 2] [] [x, y] [z] M = c_cover [x, y, z] M := apQ_of ⟨rfl, rfl, rfl⟩ rfl
  refine ⟨M5, ?_⟩
  unfold c__law_right
  rw [e0]
  by_cases hb : w = "both"
  · have co := fun M => cover_ok (M := M) hn hs hw a01
    obtain ⟨s, sh⟩ : ∃ s, ∀ M, bReprA [wayD (covT w n (highT ss) 0 1)] M = .ok (.str s) M := by
      cases q : covT w n (highT ss) 0 1 with
      | none => exact ⟨_, fun M => bReprA_non⟩
      | some x =>
        obtain ⟨v, cs⟩ := x
        have hB' : ∀ a b' v, At n a b' → highT ss a b' = some v → v ≤ b * 2 := fun a b' v _ e => by
          unfold highT at e
          cases q : told ss a b' with
          | none => rw [q] at e; cases e
          | some s =>
            rw [q] at e
            exact ((hs.ok s (told_mem q).1).2.2 v e).2
        obtain ⟨wk, sm, pr, v0, v1⟩ := cov_walk hn hw a01 (high_nn hs) hB' (by omega) q
        have v2 : v ≤ 10 ^ 20 := by
          have : (10 : Int) * 20000000000 ≤ 10 ^ 20 := by decide
          omega
        exact way_repr hn wk v0 v2
    rw [hb] at co sh e2 e5 e6
    have co' : ∀ M, c_cover [boundsD n ss, .tup [.int 0, .int 1], .str "both"] M = .ok (wayD (covT "both" n (highT ss) 0 1)) M := co
    simp [b__law_right, e1, en, e2, pw, e3, e4, lo, bi, e5, ro, e6, strEq, ap1, co', sh]
  · simp [b__law_right, e1, en, e2, pw, e3, e4, lo, bi, e5, ro, e6, strEq, hb]
end
end HP

set_option maxRecDepth 100000
set_option maxHeartbeats 1000000
namespace HP
open MP PySem L2
theorem law_ok {ns : List Int} (hl : ns.length ≤ 63) : ∃ M, c_law [.scr ns] [] = .ok (.bl true) M := by
  have e0 : env0 N_law.length [.scr ns] = [.shr (.scr ns), .no] := rfl
  unfold c_law
  rw [e0]
  obtain ⟨t, ht⟩ : ∃ t : Int, t = mx2 2 (mn2 (ns.length : Int) 4) := ⟨_, rfl⟩
  have ht2 : 2 ≤ t ∧ t ≤ 4 := by rw [ht]; unfold mx2 mn2; split <;> split <;> omega
  have ir : inR t := inR_of (by omega) (by omega)
  obtain ⟨acc, M2, e1, rfl⟩ := comp_inv (gd := gN 1) (ft := eC (.bl true)) (fe := b_law_1) (env0 := [.shr (.scr ns), .no]) (ds := rngD 0 t.toNat)
    (fun i acc M => acc = (List.replicate i true).map D.bl)
    (by
      rintro i d acc M hd rfl
      obtain ⟨hi, rfl⟩ := rngD_of hd
      obtain ⟨dd, s, h1, h2, e⟩ := jar_ok (ns := ns) (k := i) (by omega) hl M
      obtain ⟨M', e2⟩ := right_ok (M := M ++ [jr dd s 0]) (c := M.length) ⟨dd, s, 0, h1, h2, by simp⟩
      refine ⟨[.shr (.scr ns), .shr (.int (0 + (i : Nat)))], by simp, .inl ⟨M, .bl true, M', rfl, ?_, ?_, ?_⟩⟩
      · simp [b_law_1, e, e2]
      · rw [List.length_map, List.length_replicate]
        exact Nat.lt_trans (show i < 1000 by omega) (by decide)
      · rw [List.replicate_succ', List.map_append]; rfl)
    (M := []) rfl
  have ba := bAll_bools (ns := List.replicate (rngD 0 t.toNat).length true) (M := M2)
  refine ⟨M2, ?_⟩
  simp [b_law, ← ht, ir, e1, -List.map_replicate]
  rw [rngD_len] at ba
  rw [ba]
  simp
end HP

set_option maxRecDepth 100000
set_option maxHeartbeats 1000000
namespace HP
open MP
open PySem PySem.Spec PyProof.Rows L2
def top (i : Nat) : Stmt := PySem.Challenge.pw_haulprices_k11_whole_covers.main.body.getD i (.Pass ⟨0, 0, 0, 0⟩)
abbrev st__law_dip : Stmt := top 44
abbrev st__law_pick : Stmt := top 45
abbrev st__law_word : Stmt := top 51
abbrev st__law_rides : Stmt := top 46
abbrev st__law_spans : Stmt := top 52
abbrev st__law_lows : Stmt := top 53
abbrev st_is_integer : Stmt := top 14
abbrev st_is_within : Stmt := top 15
abbrev st_check_stops : Stmt := top 21
abbrev st_is_haul : Stmt := top 17
abbrev st_is_price : Stmt := top 16
abbrev st_is_range : Stmt := top 32
abbrev st_Bounds___init__ : Stmt := (clsB (top 36)).getD 0 (.Pass ⟨0, 0, 0, 0⟩)
abbrev st__law_inner : Stmt := top 47
abbrev st__law_less : Stmt := top 48
abbrev st__law_pass : Stmt := top 49
abbrev st__law_settled : Stmt := top 50
abbrev st_check_bounds : Stmt := top 37
abbrev st_check_haul : Stmt := top 22
abbrev st_Bounds_stops : Stmt := (clsB (top 36)).getD 3 (.Pass ⟨0, 0, 0, 0⟩)
abbrev st_is_rules : Stmt := top 18
abbrev st_check_rules : Stmt := top 23
abbrev st_hauls_of : Stmt := top 20
abbrev st_lies_within : Stmt := top 19
abbrev st_better : Stmt := top 25
abbrev st_best_of : Stmt := top 27
abbrev st_ways_from : Stmt := top 26
abbrev st_covers_of : Stmt := top 28
abbrev st_costs_of : Stmt := top 29
abbrev st_Found___init__ : Stmt := (clsB (top 39)).getD 0 (.Pass ⟨0, 0, 0, 0⟩)
abbrev st_Bounds_ranges : Stmt := (clsB (top 36)).getD 4 (.Pass ⟨0, 0, 0, 0⟩)
abbrev st_Bounds_leasts : Stmt := (clsB (top 36)).getD 7 (.Pass ⟨0, 0, 0, 0⟩)
abbrev st_Bounds_greatests : Stmt := (clsB (top 36)).getD 8 (.Pass ⟨0, 0, 0, 0⟩)
abbrev st_found_in : Stmt := top 40
abbrev st_cover : Stmt := top 41
abbrev st__law_is_cover : Stmt := top 54
abbrev st__law_right : Stmt := top 55
abbrev st__law_jar : Stmt := top 43
abbrev st_law : Stmt := top 56
def d__law_dip : DefM := ⟨.g "_law_dip", "_law_dip", "_law_dip", defArgs st__law_dip, defBody st__law_dip, defScope st__law_dip, [], []⟩
def d__law_pick : DefM := ⟨.g "_law_pick", "_law_pick", "_law_pick", defArgs st__law_pick, defBody st__law_pick, defScope st__law_pick, [], []⟩
def d__law_word : DefM := ⟨.g "_law_word", "_law_word", "_law_word", defArgs st__law_word, defBody st__law_word, defScope st__law_word, [], []⟩
def d__law_rides : DefM := ⟨.g "_law_rides", "_law_rides", "_law_rides", defArgs st__law_rides, defBody st__law_rides, defScope st__law_rides, [], []⟩
def d__law_spans : DefM := ⟨.g "_law_spans", "_law_spans", "_law_spans", defArgs st__law_spans, defBody st__law_spans, defScope st__law_spans, [], []⟩
def d__law_lows : DefM := ⟨.g "_law_lows", "_law_lows", "_law_lows", defArgs st__law_lows, defBody st__law_lows, defScope st__law_lows, [], []⟩
def d_is_integer : DefM := ⟨.g "is_integer", "is_integer", "is_integer", defArgs st_is_integer, defBody st_is_integer, defScope st_is_integer, [], []⟩
def d_is_within : DefM := ⟨.g "is_within", "is_within", "is_within", defArgs st_is_within, defBody st_is_within, defScope st_is_within, [], []⟩
def d_check_stops : DefM := ⟨.g "check_stops", "check_stops", "check_stops", defArgs st_check_stops, defBody st_check_stops, defScope st_check_stops, [], []⟩
def d_is_haul : DefM := ⟨.g "is_haul", "is_haul", "is_haul", defArgs st_is_haul, defBody st_is_haul, defScope st_is_haul, [], []⟩
def d_is_price : DefM := ⟨.g "is_price", "is_price", "is_price", defArgs st_is_price, defBody st_is_price, defScope st_is_price, [], []⟩
def d_is_range : DefM := ⟨.g "is_range", "is_range", "is_range", defArgs st_is_range, defBody st_is_range, defScope st_is_range, [], []⟩
def d_Bounds___init__ : DefM := ⟨.m "Bounds" "__init__", "__init__", "Bounds.__init__", defArgs st_Bounds___init__, defBody st_Bounds___init__, defScope st_Bounds___init__, [.adr (He.dflAt ("Bounds", some "__init__") 0)], []⟩
def d__law_inner : DefM := ⟨.g "_law_inner", "_law_inner", "_law_inner", defArgs st__law_inner, defBody st__law_inner, defScope st__law_inner, [], []⟩
def d__law_less : DefM := ⟨.g "_law_less", "_law_less", "_law_less", defArgs st__law_less, defBody st__law_less, defScope st__law_less, [], []⟩
def d__law_pass : DefM := ⟨.g "_law_pass", "_law_pass", "_law_pass", defArgs st__law_pass, defBody st__law_pass, defScope st__law_pass, [], []⟩
def d__law_settled : DefM := ⟨.g "_law_settled", "_law_settled", "_law_settled", defArgs st__law_settled, defBody st__law_settled, defScope st__law_settled, [], []⟩
def d_check_bounds : DefM := ⟨.g "check_bounds", "check_bounds", "check_bounds", defArgs st_check_bounds, defBody st_check_bounds, defScope st_check_bounds, [], []⟩
def d_check_haul : DefM := ⟨.g "check_haul", "check_haul", "check_haul", defArgs st_check_haul, defBody st_check_haul, defScope st_check_haul, [], []⟩
def d_Bounds_stops : DefM := ⟨.p "Bounds" "stops", "stops", "Bounds.stops", defArgs st_Bounds_stops, defBody st_Bounds_stops, defScope st_Bounds_stops, [], []⟩
def d_is_rules : DefM := ⟨.g "is_rules", "is_rules", "is_rules", defArgs st_is_rules, defBody st_is_rules, defScope st_is_rules, [], []⟩
def d_check_rules : DefM := ⟨.g "check_rules", "check_rules", "check_rules", defArgs st_check_rules, defBody st_check_rules, defScope st_check_rules, [], []⟩
def d_hauls_of : DefM := ⟨.g "hauls_of", "hauls_of", "hauls_of", defArgs st_hauls_of, defBody st_hauls_of, defScope st_hauls_of, [], []⟩
def d_lies_within : DefM := ⟨.g "lies_within", "lies_within", "lies_within", defArgs st_lies_within, defBody st_lies_within, defScope st_lies_within, [], []⟩
def d_better : DefM := ⟨.g "better", "better", "better", defArgs st_better, defBody st_better, defScope st_better, [], []⟩
def d_best_of : DefM := ⟨.g "best_of", "best_of", "best_of", defArgs st_best_of, defBody st_best_of, defScope st_best_of, [], []⟩
def d_ways_from : DefM := ⟨.g "ways_from", "ways_from", "ways_from", defArgs st_ways_from, defBody st_ways_from, defScope st_ways_from, [], []⟩
def d_covers_of : DefM := ⟨.g "covers_of", "covers_of", "covers_of", defArgs st_covers_of, defBody st_covers_of, defScope st_covers_of, [], []⟩
def d_costs_of : DefM := ⟨.g "costs_of", "costs_of", "costs_of", defArgs st_costs_of, defBody st_costs_of, defScope st_costs_of, [], []⟩
def d_Found___init__ : DefM := ⟨.m "Found" "__init__", "__init__", "Found.__init__", defArgs st_Found___init__, defBody st_Found___init__, defScope st_Found___init__, [], []⟩
def d_Bounds_ranges : DefM := ⟨.p "Bounds" "ranges", "ranges", "Bounds.ranges", defArgs st_Bounds_ranges, defBody st_Bounds_ranges, defScope st_Bounds_ranges, [], []⟩
def d_Bounds_leasts : DefM := ⟨.m "Bounds" "leasts", "leasts", "Bounds.leasts", defArgs st_Bounds_leasts, defBody st_Bounds_leasts, defScope st_Bounds_leasts, [], []⟩
def d_Bounds_greatests : DefM := ⟨.m "Bounds" "greatests", "greatests", "Bounds.greatests", defArgs st_Bounds_greatests, defBody st_Bounds_greatests, defScope st_Bounds_greatests, [], []⟩
def d_found_in : DefM := ⟨.g "found_in", "found_in", "found_in", defArgs st_found_in, defBody st_found_in, defScope st_found_in, [], []⟩
def d_cover : DefM := ⟨.g "cover", "cover", "cover", defArgs st_cover, defBody st_cover, defScope st_cover, [], [("rules", .str "both")]⟩
def d__law_is_cover : DefM := ⟨.g "_law_is_cover", "_law_is_cover", "_law_is_cover", defArgs st__law_is_cover, defBody st__law_is_cover, defScope st__law_is_cover, [], []⟩
def d__law_right : DefM := ⟨.g "_law_right", "_law_right", "_law_right", defArgs st__law_right, defBody st__law_right, defScope st__law_right, [], []⟩
def d__law_jar : DefM := ⟨.g "_law_jar", "_law_jar", "_law_jar", defArgs st__law_jar, defBody st__law_jar, defScope st__law_jar, [], []⟩
def d_law : DefM := ⟨.g "law", "law", "law", defArgs st_law, defBody st_law, defScope st_law, [], []⟩
def fn : List DefM := [d__law_dip, d__law_pick, d__law_word, d__law_rides, d__law_spans, d__law_lows, d_is_integer, d_is_within, d_check_stops, d_is_haul, d_is_price, d_is_range, d_Bounds___init__, d__law_inner, d__law_less, d__law_pass, d__law_settled, d_check_bounds, d_check_haul, d_Bounds_stops, d_is_rules, d_check_rules, d_hauls_of, d_lies_within, d_better, d_best_of, d_ways_from, d_covers_of, d_costs_of, d_Found___init__, d_Bounds_ranges, d_Bounds_leasts, d_Bounds_greatests, d_found_in, d_cover, d__law_is_cover, d__law_right, d__law_jar, d_law]
def fa : List He.Fa := ([.free "len", .free "min", .free "max", .free "range", .free "int", .glo "_law_dip", .glo "_law_pick", .glo "_law_word", .glo "_law_rides", .free "tuple", .glo "_law_spans", .glo "_law_lows", .free "isinstance", .free "bool", .glo "is_integer", .int "MOST_STOPS" 10, .glo "is_within", .glo "check_stops", .free "enumerate", .free "all", .glo "is_haul", .int "MOST_PRICE" 1000000000000, .glo "is_price", .glo "is_range", .cls "Bounds", .noat "Bounds" "all", .glo "Bounds", .free "dict", .glo "_law_inner", .glo "_law_less"] : List He.Fa) ++ ([.glo "_law_pass", .glo "_law_settled", .glo "check_bounds", .glo "check_haul", .free "str", .glo "RULES", .glo "is_rules", .glo "check_rules", .cls "Found", .noat "Found" "covers", .noat "Found" "line", .noat "Found" "kind", .noat "Found" "least", .glo "hauls_of", .glo "lies_within", .glo "better", .glo "best_of", .glo "ways_from", .glo "covers_of", .glo "costs_of", .noat "Found" "most", .mkr "Found", .meth "Bounds" "leasts", .meth "Bounds" "greatests", .glo "Found", .glo "found_in", .glo "cover", .free "repr", .glo "_law_is_cover", .free "sum"] : List He.Fa) ++ ([.free "abs", .glo "_law_jar", .glo "_law_right", .mkr "Bounds", .glo "law"] : List He.Fa)
def fm : List Fm := ([.kitA "Bounds", .clsT "Bounds", .prop "Bounds" "stops", .strs "RULES" [("both" : Str), ("long" : Str), ("parts" : Str)], .prop "Bounds" "ranges"] : List Fm)
theorem sc__law_dip : FnScope N__law_dip [("_law_jar_here" : Str), ("_law_many" : Str)] (defScope st__law_dip) := ⟨rfl, rfl, rfl, by decide +kernel, rfl, by decide +kernel, by decide +kernel⟩
theorem sc__law_pick : FnScope N__law_pick [("_law_jar_here" : Str), ("_law_menu" : Str)] (defScope st__law_pick) := ⟨rfl, rfl, rfl, by decide +kernel, rfl, by decide +kernel, by decide +kernel⟩
theorem sc__law_word : FnScope N__law_word [("_law_jar_here" : Str)] (defScope st__law_word) := ⟨rfl, rfl, rfl, by decide +kernel, rfl, by decide +kernel, by decide +kernel⟩
theorem sc__law_rides : FnScope N__law_rides [("_law_many" : Str)] (defScope st__law_rides) := ⟨rfl, rfl, rfl, by decide +kernel, rfl, by decide +kernel, by decide +kernel⟩
theorem sc__law_spans : FnScope N__law_spans [("_law_jar_here" : Str), ("_law_many" : Str), ("_law_most" : Str)] (defScope st__law_spans) := ⟨rfl, rfl, rfl, by decide +kernel, rfl, by decide +kernel, by decide +kernel⟩
theorem sc__law_lows : FnScope N__law_lows [("_law_many" : Str), ("_law_spans_here" : Str)] (defScope st__law_lows) := ⟨rfl, rfl, rfl, by decide +kernel, rfl, by decide +kernel, by decide +kernel⟩
theorem sc_is_integer : FnScope N_is_integer [("value" : Str)] (defScope st_is_integer) := ⟨rfl, rfl, rfl, by decide +kernel, rfl, by decide +kernel, by decide +kernel⟩
theorem sc_is_within : FnScope N_is_within [("value" : Str), ("low" : Str), ("high" : Str)] (defScope st_is_within) := ⟨rfl, rfl, rfl, by decide +kernel, rfl, by decide +kernel, by decide +kernel⟩
theorem sc_check_stops : FnScope N_check_stops [("stops" : Str)] (defScope st_check_stops) := ⟨rfl, rfl, rfl, by decide +kernel, rfl, by decide +kernel, by decide +kernel⟩
theorem sc_is_haul : FnScope N_is_haul [("value" : Str), ("stops" : Str)] (defScope st_is_haul) := ⟨rfl, rfl, rfl, by decide +kernel, rfl, by decide +kernel, by decide +kernel⟩
theorem sc_is_price : FnScope N_is_price [("value" : Str)] (defScope st_is_price) := ⟨rfl, rfl, rfl, by decide +kernel, rfl, by decide +kernel, by decide +kernel⟩
theorem sc_is_range : FnScope N_is_range [("value" : Str), ("stops" : Str)] (defScope st_is_range) := ⟨rfl, rfl, rfl, by decide +kernel, rfl, by decide +kernel, by decide +kernel⟩
theorem sc_Bounds___init__ : FnScope N_Bounds___init__ [("self" : Str), ("stops" : Str), ("ranges" : Str)] (defScope st_Bounds___init__) := ⟨rfl, rfl, rfl, by decide +kernel, rfl, by decide +kernel, by decide +kernel⟩
theorem sc__law_inner : FnScope N__law_inner [("_law_ride" : Str), ("_law_around" : Str)] (defScope st__law_inner) := ⟨rfl, rfl, rfl, by decide +kernel, rfl, by decide +kernel, by decide +kernel⟩
theorem sc__law_less : FnScope N__law_less [("_law_cost" : Str), ("_law_more" : Str)] (defScope st__law_less) := ⟨rfl, rfl, rfl, by decide +kernel, rfl, by decide +kernel, by decide +kernel⟩
theorem sc__law_pass : FnScope N__law_pass [("_law_many" : Str), ("_law_found" : Str), ("_law_word_here" : Str)] (defScope st__law_pass) := ⟨rfl, rfl, rfl, by decide +kernel, rfl, by decide +kernel, by decide +kernel⟩
theorem sc__law_settled : FnScope N__law_settled [("_law_many" : Str), ("_law_table" : Str), ("_law_word_here" : Str)] (defScope st__law_settled) := ⟨rfl, rfl, rfl, by decide +kernel, rfl, by decide +kernel, by decide +kernel⟩
theorem sc_check_bounds : FnScope N_check_bounds [("value" : Str)] (defScope st_check_bounds) := ⟨rfl, rfl, rfl, by decide +kernel, rfl, by decide +kernel, by decide +kernel⟩
theorem sc_check_haul : FnScope N_check_haul [("haul" : Str), ("stops" : Str)] (defScope st_check_haul) := ⟨rfl, rfl, rfl, by decide +kernel, rfl, by decide +kernel, by decide +kernel⟩
theorem sc_Bounds_stops : FnScope N_Bounds_stops [("self" : Str)] (defScope st_Bounds_stops) := ⟨rfl, rfl, rfl, by decide +kernel, rfl, by decide +kernel, by decide +kernel⟩
theorem sc_is_rules : FnScope N_is_rules [("value" : Str)] (defScope st_is_rules) := ⟨rfl, rfl, rfl, by decide +kernel, rfl, by decide +kernel, by decide +kernel⟩
theorem sc_check_rules : FnScope N_check_rules [("rules" : Str)] (defScope st_check_rules) := ⟨rfl, rfl, rfl, by decide +kernel, rfl, by decide +kernel, by decide +kernel⟩
theorem sc_hauls_of : FnScope N_hauls_of [("stops" : Str)] (defScope st_hauls_of) := ⟨rfl, rfl, rfl, by decide +kernel, rfl, by decide +kernel, by decide +kernel⟩
theorem sc_lies_within : FnScope N_lies_within [("one" : Str), ("other" : Str)] (defScope st_lies_within) := ⟨rfl, rfl, rfl, by decide +kernel, rfl, by decide +kernel, by decide +kernel⟩
theorem sc_better : FnScope N_better [("one" : Str), ("other" : Str)] (defScope st_better) := ⟨rfl, rfl, rfl, by decide +kernel, rfl, by decide +kernel, by decide +kernel⟩
theorem sc_best_of : FnScope N_best_of [("ways" : Str)] (defScope st_best_of) := ⟨rfl, rfl, rfl, by decide +kernel, rfl, by decide +kernel, by decide +kernel⟩
theorem sc_ways_from : FnScope N_ways_from [("begin" : Str), ("stops" : Str), ("greatest" : Str), ("rules" : Str)] (defScope st_ways_from) := ⟨rfl, rfl, rfl, by decide +kernel, rfl, by decide +kernel, by decide +kernel⟩
theorem sc_covers_of : FnScope N_covers_of [("stops" : Str), ("greatest" : Str), ("rules" : Str)] (defScope st_covers_of) := ⟨rfl, rfl, rfl, by decide +kernel, rfl, by decide +kernel, by decide +kernel⟩
theorem sc_costs_of : FnScope N_costs_of [("covers" : Str)] (defScope st_costs_of) := ⟨rfl, rfl, rfl, by decide +kernel, rfl, by decide +kernel, by decide +kernel⟩
theorem sc_Found___init__ : FnScope N_Found___init__ [("self" : Str), ("stops" : Str), ("least" : Str), ("greatest" : Str), ("rules" : Str)] (defScope st_Found___init__) := ⟨rfl, rfl, rfl, by decide +kernel, rfl, by decide +kernel, by decide +kernel⟩
theorem sc_Bounds_ranges : FnScope N_Bounds_ranges [("self" : Str)] (defScope st_Bounds_ranges) := ⟨rfl, rfl, rfl, by decide +kernel, rfl, by decide +kernel, by decide +kernel⟩
theorem sc_Bounds_leasts : FnScope N_Bounds_leasts [("self" : Str)] (defScope st_Bounds_leasts) := ⟨rfl, rfl, rfl, by decide +kernel, rfl, by decide +kernel, by decide +kernel⟩
theorem sc_Bounds_greatests : FnScope N_Bounds_greatests [("self" : Str)] (defScope st_Bounds_greatests) := ⟨rfl, rfl, rfl, by decide +kernel, rfl, by decide +kernel, by decide +kernel⟩
theorem sc_found_in : FnScope N_found_in [("bounds" : Str), ("rules" : Str)] (defScope st_found_in) := ⟨rfl, rfl, rfl, by decide +kernel, rfl, by decide +kernel, by decide +kernel⟩
theorem sc_cover : FnScope N_cover [("bounds" : Str), ("haul" : Str), ("rules" : Str)] (defScope st_cover) := ⟨rfl, rfl, rfl, by decide +kernel, rfl, by decide +kernel, by decide +kernel⟩
theorem sc__law_is_cover : FnScope N__law_is_cover [("_law_thing" : Str), ("_law_ride" : Str), ("_law_word_here" : Str)] (defScope st__law_is_cover) := ⟨rfl, rfl, rfl, by decide +kernel, rfl, by decide +kernel, by decide +kernel⟩
theorem sc__law_right : FnScope N__law_right [("_law_jar_here" : Str)] (defScope st__law_right) := ⟨rfl, rfl, rfl, by decide +kernel, rfl, by decide +kernel, by decide +kernel⟩
theorem sc__law_jar : FnScope N__law_jar [("_law_script" : Str), ("_law_k" : Str)] (defScope st__law_jar) := ⟨rfl, rfl, rfl, by decide +kernel, rfl, by decide +kernel, by decide +kernel⟩
theorem sc_law : FnScope N_law [("_law_script" : Str)] (defScope st_law) := ⟨rfl, rfl, rfl, by decide +kernel, rfl, by decide +kernel, by decide +kernel⟩
section
variable {P : Program} {w : World} {K : PySem.W.Frag} {h base : Heap} {mg : Str → Option Value}
theorem ok__law_dip (kx : K.In h) (G : h.Ns mainGlobals mg) (c : SaysM fa fm fn K) : FnK P w K mg base (DE K) 1 2 ((.g "_law_dip" : Loc3).at_ K) [] c__law_dip := by
  obtain ⟨fd, F⟩ := c.d 0 (d := d__law_dip) rfl
  exact fnk_of (fin := endE) F sc__law_dip rfl (F.bindsN fun _ _ _ _ _ _ us hl => match us, hl with | [_, _], _ => rfl) .nil (fun _ _ => .nil) finE fun cdv A outer s H E hr =>
    (ss_cons (ss_sub (i := 0) (u1 hr) rfl (by first | exact Or.inl rfl | exact Or.inr (Or.inl rfl)) se_int (s_bin DE.ok op2_add (SE.b (s_ix (u1 hr) (vB 0) (SE.b se_int))) (SE.b se_int))) (ss_cons (ss_if (st_cmp op2_gt (SE.b (s_ix (u1 hr) (vB 0) (SE.b se_int))) (SE.b se_int) rfl) (ss_cons (ss_set (i := 2) sc__law_dip.nd rfl (by first | exact Or.inl rfl | exact Or.inr rfl) (s_bin DE.ok op2_mod (SE.b (s_callTy DE.ok call_intS rfl (He.free_ok kx G (x := "int") (c.a 4 rfl)) (by decide +kernel) (slb_cons (SE.b (s_ix (u1 hr) (vB 0) (SE.b se_int))) slb_nil))) (vB 1))) (ss_cons (ss_sub (i := 0) (u1 hr) rfl (by first | exact Or.inl rfl | exact Or.inr (Or.inl rfl)) se_int (s_bin DE.ok op2_div (SE.b (s_callTy DE.ok call_intS rfl (He.free_ok kx G (x := "int") (c.a 4 rfl)) (by decide +kernel) (slb_cons (SE.b (s_ix (u1 hr) (vB 0) (SE.b se_int))) slb_nil))) (vB 1))) (ss_one (ss_ret DE.ok (vE 2))))) ss_nil) (ss_cons (ss_set (i := 3) sc__law_dip.nd rfl (by first | exact Or.inl rfl | exact Or.inr rfl) (s_callTy DE.ok call_intS rfl (He.free_ok kx G (x := "int") (c.a 4 rfl)) (by decide +kernel) (slb_cons (SE.b (s_ix (u1 hr) (vB 0) (SE.b se_int))) slb_nil))) (ss_cons (ss_sub (i := 0) (u1 hr) rfl (by first | exact Or.inl rfl | exact Or.inr (Or.inl rfl)) se_int (s_bin DE.ok op2_mod (SE.b (s_callTy DE.ok call_intS rfl (He.free_ok kx G (x := "int") (c.a 4 rfl)) (by decide +kernel) (slb_cons (SE.b (s_bin DE.ok op2_add (SE.b (s_bin DE.ok op2_add (SE.b (s_bin DE.ok op2_mul (vB 3) (SE.b se_int))) (SE.b (s_bin DE.ok op2_mul (SE.b (s_ix (u1 hr) (vB 0) (SE.b se_int))) (SE.b se_int))))) (SE.b se_int))) slb_nil))) (SE.b se_int))) (ss_one (ss_ret DE.ok (s_bin DE.ok op2_mod (SE.b (s_callTy DE.ok call_intS rfl (He.free_ok kx G (x := "int") (c.a 4 rfl)) (by decide +kernel) (slb_cons (SE.b (s_bin DE.ok op2_div (SE.b (s_ix (u1 hr) (vB 0) (SE.b se_int))) (SE.b se_int))) slb_nil))) (vB 1))))))))
theorem ok__law_pick (kx : K.In h) (G : h.Ns mainGlobals mg) (c : SaysM fa fm fn K) : FnK P w K mg base (DE K) 2 2 ((.g "_law_pick" : Loc3).at_ K) [] c__law_pick := by
  obtain ⟨fd, F⟩ := c.d 1 (d := d__law_pick) rfl
  exact fnk_of (fin := endE) F sc__law_pick rfl (F.bindsN fun _ _ _ _ _ _ us hl => match us, hl with | [_, _], _ => rfl) .nil (fun _ _ => .nil) finE fun cdv A outer s H E hr =>
    (ss_cons (ss_set (i := 2) sc__law_pick.nd rfl (by first | exact Or.inl rfl | exact Or.inr rfl) (s_call DE.ok (ok__law_dip kx G c) (hr.mono (by decide)) pasX rfl (He.glo_ok kx G (x := "_law_dip") (c.a 5 rfl)) (sl_cons (vE 0) (sl_cons (s_callB DE.ok call_lenS rfl (He.free_ok kx G (x := "len") (c.a 0 rfl)) (by decide +kernel) (slb_cons (vB 1) slb_nil)) sl_nil)))) (ss_one (ss_ret DE.ok (s_ix (u1 hr) (vB 1) (vB 2)))))
theorem ok__law_word (kx : K.In h) (G : h.Ns mainGlobals mg) (c : SaysM fa fm fn K) : FnK P w K mg base (DE K) 3 1 ((.g "_law_word" : Loc3).at_ K) [] c__law_word := by
  obtain ⟨fd, F⟩ := c.d 2 (d := d__law_word) rfl
  exact fnk_of (fin := endE) F sc__law_word rfl (F.bindsN fun _ _ _ _ _ _ us hl => match us, hl with | [_], _ => rfl) .nil (fun _ _ => .nil) finE fun cdv A outer s H E hr =>
    (ss_one (ss_ret DE.ok (s_call DE.ok (ok__law_pick kx G c) (hr.mono (by decide)) pasX rfl (He.glo_ok kx G (x := "_law_pick") (c.a 6 rfl)) (sl_cons (vE 0) (sl_cons (SO.e (so_lst (sl_cons se_str (sl_cons se_str (sl_cons se_str (sl_cons se_str sl_nil)))))) sl_nil)))))
theorem ok__law_rides (kx : K.In h) (G : h.Ns mainGlobals mg) (c : SaysM fa fm fn K) : FnK P w K mg base (DE K) 1 1 ((.g "_law_rides" : Loc3).at_ K) [] c__law_rides := by
  obtain ⟨fd, F⟩ := c.d 3 (d := d__law_rides) rfl
  exact fnk_of (fin := endE) F sc__law_rides rfl (F.bindsN fun _ _ _ _ _ _ us hl => match us, hl with | [_], _ => rfl) .nil (fun _ _ => .nil) finE fun cdv A outer s H E hr =>
    (ss_cons (ss_set (i := 1) sc__law_rides.nd rfl (by first | exact Or.inl rfl | exact Or.inr rfl) (SO.e (so_lst sl_nil))) (ss_cons (ss_for ownX rfl (si_rng1 (s_bin DE.ok op2_sub (vB 0) (SE.b se_int)) rfl (He.free_ok kx G (x := "range") (c.a 3 rfl))) (tg_n (j := 2)) (pgN 2 sc__law_rides.nd) (ss_one (ss_set (i := 1) sc__law_rides.nd rfl (by first | exact Or.inl rfl | exact Or.inr rfl) (s_bin DE.ok op2_add (vB 1) (SE.b (SO.e (so_lc rfl sc__law_rides.nd (SI.any (si_rng2 (s_bin DE.ok op2_add (vB 2) (SE.b se_int)) (vE 0) rfl (He.free_ok kx G (x := "range") (c.a 3 rfl)))) (own := [(("_law_end" : Str), 3)]) (blkOk_by (by kernel_rfl)) (tg_n (j := 3)) (by decide) (fun s0 H0 C0 cl0 fp0 => (pgN 3 sc__law_rides.nd)) (fun s0 H0 C0 cl0 fp0 => sts_nil) (fun s0 H0 C0 cl0 fp0 => (se_tup (sl_cons (vE 2) (sl_cons (vE 3) sl_nil))))))))))) (ss_one (ss_ret DE.ok (vE 1)))))
theorem ok__law_spans (kx : K.In h) (G : h.Ns mainGlobals mg) (c : SaysM fa fm fn K) : FnK P w K mg base (DE K) 2 3 ((.g "_law_spans" : Loc3).at_ K) [] c__law_spans := by
  obtain ⟨fd, F⟩ := c.d 4 (d := d__law_spans) rfl
  exact fnk_of (fin := endE) F sc__law_spans rfl (F.bindsN fun _ _ _ _ _ _ us hl => match us, hl with | [_, _, _], _ => rfl) .nil (fun _ _ => .nil) finE fun cdv A outer s H E hr =>
    (ss_cons (ss_own (i := 3) sc__law_spans.nd rfl (by first | exact Or.inl rfl | exact Or.inr rfl) (so_lst sl_nil)) (ss_cons (ss_for ownX rfl (si_seq (s_call DE.ok (ok__law_rides kx G c) (hr.mono (by decide)) pasX rfl (He.glo_ok kx G (x := "_law_rides") (c.a 8 rfl)) (sl_cons (vE 1) sl_nil))) (tg_n (j := 4)) (pgN 4 sc__law_spans.nd) (ss_one (ss_if (st_cmp op2_gt (SE.b (s_call DE.ok (ok__law_dip kx G c) (hr.mono (by decide)) pasX rfl (He.glo_ok kx G (x := "_law_dip") (c.a 5 rfl)) (sl_cons (vE 0) (sl_cons se_int sl_nil)))) (SE.b se_int) rfl) (ss_cons (ss_set (i := 5) sc__law_spans.nd rfl (by first | exact Or.inl rfl | exact Or.inr rfl) (s_if DE.ok (st_cmp (op2_eq hr.units) (SE.b (s_call DE.ok (ok__law_dip kx G c) (hr.mono (by decide)) pasX rfl (He.glo_ok kx G (x := "_law_dip") (c.a 5 rfl)) (sl_cons (vE 0) (sl_cons se_int sl_nil)))) (SE.b se_int) rfl) (s_call DE.ok (ok__law_dip kx G c) (hr.mono (by decide)) pasX rfl (He.glo_ok kx G (x := "_law_dip") (c.a 5 rfl)) (sl_cons (vE 0) (sl_cons (s_bin DE.ok op2_add (vB 2) (SE.b se_int)) sl_nil))) se_int)) (ss_cons (ss_set (i := 6) sc__law_spans.nd rfl (by first | exact Or.inl rfl | exact Or.inr rfl) (s_if DE.ok (st_cmp (op2_eq hr.units) (SE.b (s_call DE.ok (ok__law_dip kx G c) (hr.mono (by decide)) pasX rfl (He.glo_ok kx G (x := "_law_dip") (c.a 5 rfl)) (sl_cons (vE 0) (sl_cons se_int sl_nil)))) (SE.b se_int) rfl) se_non (s_bin DE.ok op2_add (vB 5) (SE.b (s_call DE.ok (ok__law_dip kx G c) (hr.mono (by decide)) pasX rfl (He.glo_ok kx G (x := "_law_dip") (c.a 5 rfl)) (sl_cons (vE 0) (sl_cons (s_bin DE.ok op2_add (vB 2) (SE.b se_int)) sl_nil))))))) (ss_one (ss_app (i := 3) rfl (by first | exact Or.inl rfl | exact Or.inr (Or.inl rfl)) (se_tup (sl_cons (vE 4) (sl_cons (vE 5) (sl_cons (vE 6) sl_nil)))))))) ss_nil))) (ss_one (ss_ret DE.ok (s_callTy DE.ok call_tupS rfl (He.free_ok kx G (x := "tuple") (c.a 9 rfl)) (by decide +kernel) (slb_cons (vB 3) slb_nil))))))
theorem ok__law_lows (kx : K.In h) (G : h.Ns mainGlobals mg) (c : SaysM fa fm fn K) : FnK P w K mg base (DE K) 2 2 ((.g "_law_lows" : Loc3).at_ K) [] c__law_lows := by
  obtain ⟨fd, F⟩ := c.d 5 (d := d__law_lows) rfl
  exact fnk_of (fin := endE) F sc__law_lows rfl (F.bindsN fun _ _ _ _ _ _ us hl => match us, hl with | [_, _], _ => rfl) .nil (fun _ _ => .nil) finE fun cdv A outer s H E hr =>
    (ss_cons (ss_parOO (i := 2) (j := 3) rfl sc__law_lows.nd rfl rfl (by decide) rfl rfl so_dT so_dT) (ss_cons (ss_for ownX rfl (si_seq (s_call DE.ok (ok__law_rides kx G c) (hr.mono (by decide)) pasX rfl (He.glo_ok kx G (x := "_law_rides") (c.a 8 rfl)) (sl_cons (vE 0) sl_nil))) (tg_n (j := 4)) (pgN 4 sc__law_lows.nd) (ss_one (ss_subT (i := 2) (j := 3) (u1 hr) rfl rfl (by first | exact Or.inl rfl | exact Or.inr (Or.inl rfl)) rfl (by first | exact Or.inl rfl | exact Or.inr (Or.inl rfl)) (vE 4) (vE 4) (se_tup (sl_cons se_int (sl_cons se_non sl_nil)))))) (ss_cons (ss_for ownX rfl (si_seq (vE 1)) (tg_t (tgs_cons (j := 4) (tgs_cons (j := 5) (tgs_cons (j := 6) tgs_nil))) rfl) (pg_tup rfl (pgs_cons (pgN 4 sc__law_lows.nd) (pgs_cons (pgN 5 sc__law_lows.nd) (pgs_cons (pgN 6 sc__law_lows.nd) pgs_nil)))) (ss_one (ss_subT (i := 2) (j := 3) (u1 hr) rfl rfl (by first | exact Or.inl rfl | exact Or.inr (Or.inl rfl)) rfl (by first | exact Or.inl rfl | exact Or.inr (Or.inl rfl)) (vE 4) (vE 4) (se_tup (sl_cons (vE 5) (sl_cons (vE 6) sl_nil)))))) (sss_share (i := 2) (sss_share (i := 3) (ss_one (ss_ret DE.ok (se_tup (sl_cons (vE 2) (sl_cons (vE 3) sl_nil))))))))))
theorem ok_is_integer (kx : K.In h) (G : h.Ns mainGlobals mg) (c : SaysM fa fm fn K) : FnK P w K mg base (DE K) 1 1 ((.g "is_integer" : Loc3).at_ K) [] c_is_integer := by
  obtain ⟨fd, F⟩ := c.d 6 (d := d_is_integer) rfl
  exact fnk_of (fin := endE) F sc_is_integer rfl (F.bindsN fun _ _ _ _ _ _ us hl => match us, hl with | [_], _ => rfl) .nil (fun _ _ => .nil) finE fun cdv A outer s H E hr =>
    (ss_one (ss_ret DE.ok (se_and (se_isi (isK_T tyT_int (fun _ h => nomatch h)) (vB 0) (pe_tyN (n := "int") rfl (He.free_ok kx G (x := "int") (c.a 4 rfl)) (by decide +kernel)) (.ty "int") rfl (He.free_ok kx G (x := "isinstance") (c.a 12 rfl))) (se_one (se_not (se_isi (isK_T tyT_bool (fun _ h => nomatch h)) (vB 0) (pe_tyN (n := "bool") rfl (He.free_ok kx G (x := "bool") (c.a 13 rfl)) (by decide +kernel)) (.ty "bool") rfl (He.free_ok kx G (x := "isinstance") (c.a 12 rfl))))))))
theorem ok_is_within (kx : K.In h) (G : h.Ns mainGlobals mg) (c : SaysM fa fm fn K) : FnK P w K mg base (DE K) 2 3 ((.g "is_within" : Loc3).at_ K) [] c_is_within := by
  obtain ⟨fd, F⟩ := c.d 7 (d := d_is_within) rfl
  exact fnk_of (fin := endE) F sc_is_within rfl (F.bindsN fun _ _ _ _ _ _ us hl => match us, hl with | [_, _, _], _ => rfl) .nil (fun _ _ => .nil) finE fun cdv A outer s H E hr =>
    (ss_one (ss_ret DE.ok (se_and (s_call DE.ok (ok_is_integer kx G c) (hr.mono (by decide)) pasX rfl (He.glo_ok kx G (x := "is_integer") (c.a 14 rfl)) (sl_cons (vE 0) sl_nil)) (se_one (se_ch op2_le op2_le (vB 1) (vB 0) (vB 2))))))
theorem ok_check_stops (kx : K.In h) (G : h.Ns mainGlobals mg) (c : SaysM fa fm fn K) : FnK P w K mg base (DE K) 3 1 ((.g "check_stops" : Loc3).at_ K) [] c_check_stops := by
  obtain ⟨fd, F⟩ := c.d 8 (d := d_check_stops) rfl
  exact fnk_of (fin := endE) F sc_check_stops rfl (F.bindsN fun _ _ _ _ _ _ us hl => match us, hl with | [_], _ => rfl) .nil (fun _ _ => .nil) finE fun cdv A outer s H E hr =>
    (ss_one (ss_if (st_not (st_val (s_call DE.ok (ok_is_within kx G c) (hr.mono (by decide)) pasX rfl (He.glo_ok kx G (x := "is_within") (c.a 16 rfl)) (sl_cons (vE 0) (sl_cons se_int (sl_cons (se_globI rfl (He.int_ok kx G (x := "MOST_STOPS") (i := 10) (c.a 15 rfl))) sl_nil)))))) (ss_one ss_never) ss_nil))
theorem ok_is_haul (kx : K.In h) (G : h.Ns mainGlobals mg) (c : SaysM fa fm fn K) : FnK P w K mg base (DE K) 2 2 ((.g "is_haul" : Loc3).at_ K) [] c_is_haul := by
  obtain ⟨fd, F⟩ := c.d 9 (d := d_is_haul) rfl
  exact fnk_of (fin := endE) F sc_is_haul rfl (F.bindsN fun _ _ _ _ _ _ us hl => match us, hl with | [_, _], _ => rfl) .nil (fun _ _ => .nil) finE fun cdv A outer s H E hr =>
    (ss_cons (ss_if (st_w (sw_or (st_not (st_val (se_isi (isK_T tyT_tuple (fun _ h => nomatch h)) (vB 0) (pe_tyN (n := "tuple") rfl (He.free_ok kx G (x := "tuple") (c.a 9 rfl)) (by decide +kernel)) (.ty "tuple") rfl (He.free_ok kx G (x := "isinstance") (c.a 12 rfl))))) (sw_or (st_cmp (op2_ne hr.units) (SE.b (s_callB DE.ok call_lenS rfl (He.free_ok kx G (x := "len") (c.a 0 rfl)) (by decide +kernel) (slb_cons (vB 0) slb_nil))) (SE.b se_int) rfl) (sw_or1 (st_not (st_val (s_callB DE.ok (call_allS rfl) rfl (He.free_ok kx G (x := "all") (c.a 19 rfl)) (by decide +kernel) (slb_cons (SE.b (SO.e (so_lc rfl sc_is_haul.nd (SI.any (si_seq (vE 0))) (own := [(("stop" : Str), 2)]) (blkOk_by (by kernel_rfl)) (tg_n (j := 2)) (by decide) (fun s0 H0 C0 cl0 fp0 => (pgN 2 sc_is_haul.nd)) (fun s0 H0 C0 cl0 fp0 => sts_nil) (fun s0 H0 C0 cl0 fp0 => (s_call DE.ok (ok_is_integer kx G c) (hr.mono (by decide)) pas_no rfl (He.glo_ok kx G (x := "is_integer") (c.a 14 rfl)) (sl_cons (vE 2) sl_nil)))))) slb_nil)))))))) (ss_one (ss_ret DE.ok se_bl)) ss_nil) (ss_one (ss_ret DE.ok (se_ch3 op2_le (op2_lt hr.units0) (op2_lt hr.units0) (SE.b se_int) (SE.b (s_ix (u1 hr) (vB 0) (SE.b se_int))) (SE.b (s_ix (u1 hr) (vB 0) (SE.b se_int))) (vB 1)))))
theorem ok_is_price (kx : K.In h) (G : h.Ns mainGlobals mg) (c : SaysM fa fm fn K) : FnK P w K mg base (DE K) 3 1 ((.g "is_price" : Loc3).at_ K) [] c_is_price := by
  obtain ⟨fd, F⟩ := c.d 10 (d := d_is_price) rfl
  exact fnk_of (fin := endE) F sc_is_price rfl (F.bindsN fun _ _ _ _ _ _ us hl => match us, hl with | [_], _ => rfl) .nil (fun _ _ => .nil) finE fun cdv A outer s H E hr =>
    (ss_one (ss_ret DE.ok (s_call DE.ok (ok_is_within kx G c) (hr.mono (by decide)) pasX rfl (He.glo_ok kx G (x := "is_within") (c.a 16 rfl)) (sl_cons (vE 0) (sl_cons se_int (sl_cons (se_globI rfl (He.int_ok kx G (x := "MOST_PRICE") (i := 1000000000000) (c.a 21 rfl))) sl_nil))))))
theorem ok_is_range (kx : K.In h) (G : h.Ns mainGlobals mg) (c : SaysM fa fm fn K) : FnK P w K mg base (DE K) 4 2 ((.g "is_range" : Loc3).at_ K) [] c_is_range := by
  obtain ⟨fd, F⟩ := c.d 11 (d := d_is_range) rfl
  exact fnk_of (fin := endE) F sc_is_range rfl (F.bindsN fun _ _ _ _ _ _ us hl => match us, hl with | [_, _], _ => rfl) .nil (fun _ _ => .nil) finE fun cdv A outer s H E hr =>
    (ss_cons (ss_if (st_w (sw_or (st_not (st_val (se_isi (isK_T tyT_tuple (fun _ h => nomatch h)) (vB 0) (pe_tyN (n := "tuple") rfl (He.free_ok kx G (x := "tuple") (c.a 9 rfl)) (by decide +kernel)) (.ty "tuple") rfl (He.free_ok kx G (x := "isinstance") (c.a 12 rfl))))) (sw_or (st_cmp (op2_ne hr.units) (SE.b (s_callB DE.ok call_lenS rfl (He.free_ok kx G (x := "len") (c.a 0 rfl)) (by decide +kernel) (slb_cons (vB 0) slb_nil))) (SE.b se_int) rfl) (sw_or (st_not (st_val (s_call DE.ok (ok_is_haul kx G c) (hr.mono (by decide)) pasX rfl (He.glo_ok kx G (x := "is_haul") (c.a 20 rfl)) (sl_cons (s_ix (u1 hr) (vB 0) (SE.b se_int)) (sl_cons (vE 1) sl_nil))))) (sw_or1 (st_not (st_val (s_call DE.ok (ok_is_price kx G c) (hr.mono (by decide)) pasX rfl (He.glo_ok kx G (x := "is_price") (c.a 22 rfl)) (sl_cons (s_ix (u1 hr) (vB 0) (SE.b se_int)) sl_nil))))))))) (ss_one (ss_ret DE.ok se_bl)) ss_nil) (ss_one (ss_ret DE.ok (se_or (s_cmp DE.ok op2_isN (SE.b (s_ix (u1 hr) (vB 0) (SE.b se_int))) (SE.b se_non) rfl) (se_one (se_and (s_call DE.ok (ok_is_price kx G c) (hr.mono (by decide)) pasX rfl (He.glo_ok kx G (x := "is_price") (c.a 22 rfl)) (sl_cons (s_ix (u1 hr) (vB 0) (SE.b se_int)) sl_nil)) (se_one (s_cmp DE.ok op2_le (SE.b (s_ix (u1 hr) (vB 0) (SE.b se_int))) (SE.b (s_ix (u1 hr) (vB 0) (SE.b se_int))) rfl))))))))
theorem okf_Bounds___init__ {fd : FuncData} (kx : K.In h) (G : h.Ns mainGlobals mg) (c : SaysM fa fm fn K) (F : FunD K d_Bounds___init__.name d_Bounds___init__.qual d_Bounds___init__.params d_Bounds___init__.body d_Bounds___init__.scope (d_Bounds___init__.dvs K) (d_Bounds___init__.kws K) (d_Bounds___init__.loc.at_ K) fd) : MP.FnOk P w K mg base (L2.CX P w) 5 (d_Bounds___init__.loc.at_ K) fd [("self" : Str), ("stops" : Str), ("ranges" : Str)] (spI K "Bounds" 2 c_Bounds___init__) :=
  fnoki_of F sc_Bounds___init__ rfl fun cdv A outer s H E hr =>
    (ss_cons (ss_expr (s_call DE.ok (ok_check_stops kx G c) (hr.mono (by decide)) pasX rfl (He.glo_ok kx G (x := "check_stops") (c.a 17 rfl)) (sl_cons (vE 1) sl_nil))) (ss_cons (ss_if (st_not (st_val (se_isi (isK_T tyT_tuple (fun _ h => nomatch h)) (vB 2) (pe_tyN (n := "tuple") rfl (He.free_ok kx G (x := "tuple") (c.a 9 rfl)) (by decide +kernel)) (.ty "tuple") rfl (He.free_ok kx G (x := "isinstance") (c.a 12 rfl))))) (ss_one ss_never) ss_nil) (ss_cons (ss_for ownX rfl (si_enu (vE 2) rfl (He.free_ok kx G (x := "enumerate") (c.a 18 rfl))) (tg_t (tgs_cons (j := 3) (tgs_cons (j := 4) tgs_nil)) rfl) (pg_tup rfl (pgs_cons (pgN 3 sc_Bounds___init__.nd) (pgs_cons (pgN 4 sc_Bounds___init__.nd) pgs_nil))) (ss_one (ss_if (st_w (sw_or (st_not (st_val (s_call DE.ok (ok_is_range kx G c) (hr.mono (by decide)) pasX rfl (He.glo_ok kx G (x := "is_range") (c.a 23 rfl)) (sl_cons (vE 4) (sl_cons (vE 1) sl_nil))))) (sw_or1 (st_w (sw_and (st_cmp op2_gt (vB 3) (SE.b se_int) rfl) (sw_and1 (st_cmp (op2_geT hr.units0) (SE.b (s_ix (u1 hr) (SE.b (s_ix (u1 hr) (vB 2) (SE.b (s_bin DE.ok op2_sub (vB 3) (SE.b se_int))))) (SE.b se_int))) (SE.b (s_ix (u1 hr) (vB 4) (SE.b se_int))) rfl))))))) (ss_one ss_never) ss_nil))) (ss_one (ss_fld (i := 0) rfl (by first | exact Or.inl rfl | exact Or.inr (Or.inl rfl)) (se_tup (sl_cons (vE 1) (sl_cons (vE 2) sl_nil))) (He.cls_ok (x := "Bounds") (c.a 24 rfl)) (He.noat_ok (x := "Bounds") (f := "all") (c.a 25 rfl)))))))
theorem ok_Bounds___init__ (kx : K.In h) (G : h.Ns mainGlobals mg) (c : SaysM fa fm fn K) : InK P w K mg base 5 2 "Bounds" ((d_Bounds___init__.loc).at_ K) [] c_Bounds___init__ := by
  obtain ⟨fd, F⟩ := c.d 12 (d := d_Bounds___init__) rfl
  obtain ⟨ds, hv, hb⟩ := FunD.binds1 (ps := [("self" : Str), ("stops" : Str), ("ranges" : Str)]) F 3 1 (List.cons_ne_nil _ _) rfl (fun _ _ _ _ _ _ _ us its h1 h2 => match us, its, h1, h2 with | [_, _, _], [_], _, _ => ⟨_, rfl, rfl⟩)
  exact ⟨(He.mkr_ok (x := "Bounds") (c.a 63 rfl)), fd, _, _, ds, okf_Bounds___init__ kx G c F, hb, hv, fun _ _ => .nil⟩
theorem ok__law_inner (kx : K.In h) (G : h.Ns mainGlobals mg) (c : SaysM fa fm fn K) : FnK P w K mg base (DE K) 1 2 ((.g "_law_inner" : Loc3).at_ K) [] c__law_inner := by
  obtain ⟨fd, F⟩ := c.d 13 (d := d__law_inner) rfl
  exact fnk_of (fin := endE) F sc__law_inner rfl (F.bindsN fun _ _ _ _ _ _ us hl => match us, hl with | [_, _], _ => rfl) .nil (fun _ _ => .nil) finE fun cdv A outer s H E hr =>
    (ss_one (ss_ret DE.ok (se_and (s_cmp DE.ok op2_le (SE.b (s_ix (u1 hr) (vB 1) (SE.b se_int))) (SE.b (s_ix (u1 hr) (vB 0) (SE.b se_int))) rfl) (se_one (s_cmp DE.ok op2_le (SE.b (s_ix (u1 hr) (vB 0) (SE.b se_int))) (SE.b (s_ix (u1 hr) (vB 1) (SE.b se_int))) rfl)))))
theorem ok__law_less (kx : K.In h) (G : h.Ns mainGlobals mg) (c : SaysM fa fm fn K) : FnK P w K mg base (DE K) 1 2 ((.g "_law_less" : Loc3).at_ K) [] c__law_less := by
  obtain ⟨fd, F⟩ := c.d 14 (d := d__law_less) rfl
  exact fnk_of (fin := endE) F sc__law_less rfl (F.bindsN fun _ _ _ _ _ _ us hl => match us, hl with | [_, _], _ => rfl) .nil (fun _ _ => .nil) finE fun cdv A outer s H E hr =>
    (ss_cons (ss_if (st_w (sw_or (st_cmp op2_isN (vB 0) (SE.b se_non) rfl) (sw_or1 (st_cmp op2_isN (vB 1) (SE.b se_non) rfl)))) (ss_one (ss_ret DE.ok (s_if DE.ok (st_cmp op2_isN (vB 0) (SE.b se_non) rfl) (vE 1) (vE 0)))) ss_nil) (ss_one (ss_ret DE.ok (s_callB DE.ok (call_minS rfl) rfl (He.free_ok kx G (x := "min") (c.a 1 rfl)) (by decide +kernel) (slb_cons (vB 0) (slb_cons (vB 1) slb_nil))))))
theorem ok__law_pass (kx : K.In h) (G : h.Ns mainGlobals mg) (c : SaysM fa fm fn K) : FnK P w K mg base (DE K) 2 3 ((.g "_law_pass" : Loc3).at_ K) [] c__law_pass := by
  obtain ⟨fd, F⟩ := c.d 15 (d := d__law_pass) rfl
  exact fnk_of (fin := endE) F sc__law_pass rfl (F.bindsN fun _ _ _ _ _ _ us hl => match us, hl with | [_, _, _], _ => rfl) .nil (fun _ _ => .nil) finE fun cdv A outer s H E hr =>
    (ss_cons (ss_parO (i := 3) (j := 4) rfl sc__law_pass.nd rfl rfl (by decide) rfl rfl (s_call DE.ok (ok__law_rides kx G c) (hr.mono (by decide)) pasX rfl (He.glo_ok kx G (x := "_law_rides") (c.a 8 rfl)) (sl_cons (vE 0) sl_nil)) (s_callTy DO.ok (call_dictT (u2 hr)) rfl (He.free_ok kx G (x := "dict") (c.a 27 rfl)) (by decide +kernel) (slb_cons (vB 1) slb_nil))) (ss_cons (ss_for ownX rfl (si_seq (vE 3)) (tg_n (j := 5)) (pgN 5 sc__law_pass.nd) (ss_cons (ss_if (st_cmp (op2_ne hr.units) (vB 2) (SE.b se_str) rfl) (ss_one (ss_for ownX rfl (si_seq (vE 3)) (tg_n (j := 6)) (pgN 6 sc__law_pass.nd) (ss_one (ss_if (st_val (s_call DE.ok (ok__law_inner kx G c) (hr.mono (by decide)) pasX rfl (He.glo_ok kx G (x := "_law_inner") (c.a 28 rfl)) (sl_cons (vE 5) (sl_cons (vE 6) sl_nil)))) (ss_one (ss_sub (i := 4) (u1 hr) rfl (by first | exact Or.inl rfl | exact Or.inr (Or.inl rfl)) (vE 5) (s_call DE.ok (ok__law_less kx G c) (hr.mono (by decide)) pasX rfl (He.glo_ok kx G (x := "_law_less") (c.a 29 rfl)) (sl_cons (s_ix (u1 hr) (vB 4) (vB 5)) (sl_cons (s_ix (u1 hr) (vB 4) (vB 6)) sl_nil))))) ss_nil)))) ss_nil) (ss_one (ss_if (st_cmp (op2_ne hr.units) (vB 2) (SE.b se_str) rfl) (ss_one (ss_for ownX rfl (si_rng2 (s_bin DE.ok op2_add (SE.b (s_ix (u1 hr) (vB 5) (SE.b se_int))) (SE.b se_int)) (s_ix (u1 hr) (vB 5) (SE.b se_int)) rfl (He.free_ok kx G (x := "range") (c.a 3 rfl))) (tg_n (j := 7)) (pgN 7 sc__law_pass.nd) (ss_cons (ss_par (i := 8) (j := 9) rfl sc__law_pass.nd rfl rfl (by decide) rfl rfl (s_ix (u1 hr) (vB 4) (SE.b (se_tup (sl_cons (s_ix (u1 hr) (vB 5) (SE.b se_int)) (sl_cons (vE 7) sl_nil))))) (s_ix (u1 hr) (vB 4) (SE.b (se_tup (sl_cons (vE 7) (sl_cons (s_ix (u1 hr) (vB 5) (SE.b se_int)) sl_nil)))))) (ss_one (ss_if (st_w (sw_and (st_cmp op2_notN (vB 8) (SE.b se_non) rfl) (sw_and1 (st_cmp op2_notN (vB 9) (SE.b se_non) rfl)))) (ss_one (ss_sub (i := 4) (u1 hr) rfl (by first | exact Or.inl rfl | exact Or.inr (Or.inl rfl)) (vE 5) (s_call DE.ok (ok__law_less kx G c) (hr.mono (by decide)) pasX rfl (He.glo_ok kx G (x := "_law_less") (c.a 29 rfl)) (sl_cons (s_ix (u1 hr) (vB 4) (vB 5)) (sl_cons (s_bin DE.ok op2_add (vB 8) (vB 9)) sl_nil))))) ss_nil))))) ss_nil)))) (sss_share (i := 4) (ss_one (ss_ret DE.ok (vE 4))))))
theorem ok__law_settled (kx : K.In h) (G : h.Ns mainGlobals mg) (c : SaysM fa fm fn K) : FnK P w K mg base (DE K) 3 3 ((.g "_law_settled" : Loc3).at_ K) [] c__law_settled := by
  obtain ⟨fd, F⟩ := c.d 16 (d := d__law_settled) rfl
  exact fnk_of (fin := endE) F sc__law_settled rfl (F.bindsN fun _ _ _ _ _ _ us hl => match us, hl with | [_, _, _], _ => rfl) .nil (fun _ _ => .nil) finE fun cdv A outer s H E hr =>
    (ss_cons (ss_set (i := 3) sc__law_settled.nd rfl (by first | exact Or.inl rfl | exact Or.inr rfl) (vE 1)) (ss_cons (ss_for ownX rfl (si_rng1 (s_bin DE.ok op2_mul (SE.b (s_bin DE.ok op2_mul (SE.b se_int) (vB 0))) (vB 0)) rfl (He.free_ok kx G (x := "range") (c.a 3 rfl))) (tg_n (j := 4)) (pgN 4 sc__law_settled.nd) (ss_cons (ss_set (i := 5) sc__law_settled.nd rfl (by first | exact Or.inl rfl | exact Or.inr rfl) (s_call DE.ok (ok__law_pass kx G c) (hr.mono (by decide)) pasX rfl (He.glo_ok kx G (x := "_law_pass") (c.a 30 rfl)) (sl_cons (vE 0) (sl_cons (vE 3) (sl_cons (vE 2) sl_nil))))) (ss_cons (ss_if (st_cmp (op2_eqT hr.units) (vB 5) (vB 3) rfl) (ss_one (ss_ret DE.ok (vE 3))) ss_nil) (ss_one (ss_set (i := 3) sc__law_settled.nd rfl (by first | exact Or.inl rfl | exact Or.inr rfl) (vE 5)))))) (ss_one (ss_ret DE.ok (vE 3)))))
theorem ok_check_bounds (kx : K.In h) (G : h.Ns mainGlobals mg) (c : SaysM fa fm fn K) : FnK P w K mg base (DE K) 1 1 ((.g "check_bounds" : Loc3).at_ K) [] c_check_bounds := by
  obtain ⟨fd, F⟩ := c.d 17 (d := d_check_bounds) rfl
  exact fnk_of (fin := endE) F sc_check_bounds rfl (F.bindsN fun _ _ _ _ _ _ us hl => match us, hl with | [_], _ => rfl) .nil (fun _ _ => .nil) finE fun cdv A outer s H E hr =>
    (ss_one (ss_if (st_not (st_val (se_isi (by exact isK_C (kitA_ok (c.b 0 rfl)) (clsTB_ok (c.b 1 rfl)) (fun _ h => nomatch h)) (vB 0) (by exact pe_own (He.glo_ok kx G (x := "Bounds") (c.a 26 rfl))) (.own _) rfl (He.free_ok kx G (x := "isinstance") (c.a 12 rfl))))) (ss_one ss_never) ss_nil))
theorem ok_check_haul (kx : K.In h) (G : h.Ns mainGlobals mg) (c : SaysM fa fm fn K) : FnK P w K mg base (DE K) 3 2 ((.g "check_haul" : Loc3).at_ K) [] c_check_haul := by
  obtain ⟨fd, F⟩ := c.d 18 (d := d_check_haul) rfl
  exact fnk_of (fin := endE) F sc_check_haul rfl (F.bindsN fun _ _ _ _ _ _ us hl => match us, hl with | [_, _], _ => rfl) .nil (fun _ _ => .nil) finE fun cdv A outer s H E hr =>
    (ss_one (ss_if (st_not (st_val (s_call DE.ok (ok_is_haul kx G c) (hr.mono (by decide)) pasX rfl (He.glo_ok kx G (x := "is_haul") (c.a 20 rfl)) (sl_cons (vE 0) (sl_cons (vE 1) sl_nil))))) (ss_one ss_never) ss_nil))
theorem ok_Bounds_stops (kx : K.In h) (G : h.Ns mainGlobals mg) (c : SaysM fa fm fn K) : FnK P w K mg base (DE K) 1 1 ((.p "Bounds" "stops" : Loc3).at_ K) [] c_Bounds_stops := by
  obtain ⟨fd, F⟩ := c.d 19 (d := d_Bounds_stops) rfl
  exact fnk_of (fin := endE) F sc_Bounds_stops rfl (F.bindsN fun _ _ _ _ _ _ us hl => match us, hl with | [_], _ => rfl) .nil (fun _ _ => .nil) finE fun cdv A outer s H E hr =>
    (ss_one (ss_ret DE.ok (s_ix (u1 hr) (SE.b (s_attrB DE.ok (op1_fld (He.cls_ok (x := "Bounds") (c.a 24 rfl)) (He.noat_ok (x := "Bounds") (f := "all") (c.a 25 rfl))) (vB 0))) (SE.b se_int))))
theorem ok_is_rules (kx : K.In h) (G : h.Ns mainGlobals mg) (c : SaysM fa fm fn K) : FnK P w K mg base (DE K) 1 1 ((.g "is_rules" : Loc3).at_ K) [] c_is_rules := by
  obtain ⟨fd, F⟩ := c.d 20 (d := d_is_rules) rfl
  exact fnk_of (fin := endE) F sc_is_rules rfl (F.bindsN fun _ _ _ _ _ _ us hl => match us, hl with | [_], _ => rfl) .nil (fun _ _ => .nil) finE fun cdv A outer s H E hr =>
    (ss_one (ss_ret DE.ok (se_and (se_isi (isK_T tyT_str (fun _ h => nomatch h)) (vB 0) (pe_tyN (n := "str") rfl (He.free_ok kx G (x := "str") (c.a 34 rfl)) (by decide +kernel)) (.ty "str") rfl (He.free_ok kx G (x := "isinstance") (c.a 12 rfl))) (se_one (s_cmp DE.ok op2_in (vB 0) (SE.b (se_globT (ws := [("both" : Str), ("long" : Str), ("parts" : Str)]) rfl (He.glo_ok kx G (x := "RULES") (c.a 35 rfl)) (c.b 3 rfl))) rfl)))))
theorem ok_check_rules (kx : K.In h) (G : h.Ns mainGlobals mg) (c : SaysM fa fm fn K) : FnK P w K mg base (DE K) 2 1 ((.g "check_rules" : Loc3).at_ K) [] c_check_rules := by
  obtain ⟨fd, F⟩ := c.d 21 (d := d_check_rules) rfl
  exact fnk_of (fin := endE) F sc_check_rules rfl (F.bindsN fun _ _ _ _ _ _ us hl => match us, hl with | [_], _ => rfl) .nil (fun _ _ => .nil) finE fun cdv A outer s H E hr =>
    (ss_one (ss_if (st_not (st_val (s_call DE.ok (ok_is_rules kx G c) (hr.mono (by decide)) pasX rfl (He.glo_ok kx G (x := "is_rules") (c.a 36 rfl)) (sl_cons (vE 0) sl_nil)))) (ss_one ss_never) ss_nil))
theorem ok_hauls_of (kx : K.In h) (G : h.Ns mainGlobals mg) (c : SaysM fa fm fn K) : FnK P w K mg base (DE K) 1 1 ((.g "hauls_of" : Loc3).at_ K) [] c_hauls_of := by
  obtain ⟨fd, F⟩ := c.d 22 (d := d_hauls_of) rfl
  exact fnk_of (fin := endE) F sc_hauls_of rfl (F.bindsN fun _ _ _ _ _ _ us hl => match us, hl with | [_], _ => rfl) .nil (fun _ _ => .nil) finE fun cdv A outer s H E hr =>
    (ss_cons (ss_set (i := 1) sc_hauls_of.nd rfl (by first | exact Or.inl rfl | exact Or.inr rfl) (SO.e (so_lst sl_nil))) (ss_cons (ss_for ownX rfl (si_rng1 (s_bin DE.ok op2_sub (vB 0) (SE.b se_int)) rfl (He.free_ok kx G (x := "range") (c.a 3 rfl))) (tg_n (j := 2)) (pgN 2 sc_hauls_of.nd) (ss_one (ss_set (i := 1) sc_hauls_of.nd rfl (by first | exact Or.inl rfl | exact Or.inr rfl) (s_bin DE.ok op2_add (vB 1) (SE.b (SO.e (so_lc rfl sc_hauls_of.nd (SI.any (si_rng2 (s_bin DE.ok op2_add (vB 2) (SE.b se_int)) (vE 0) rfl (He.free_ok kx G (x := "range") (c.a 3 rfl)))) (own := [(("end" : Str), 3)]) (blkOk_by (by kernel_rfl)) (tg_n (j := 3)) (by decide) (fun s0 H0 C0 cl0 fp0 => (pgN 3 sc_hauls_of.nd)) (fun s0 H0 C0 cl0 fp0 => sts_nil) (fun s0 H0 C0 cl0 fp0 => (se_tup (sl_cons (vE 2) (sl_cons (vE 3) sl_nil))))))))))) (ss_one (ss_ret DE.ok (vE 1)))))
theorem ok_lies_within (kx : K.In h) (G : h.Ns mainGlobals mg) (c : SaysM fa fm fn K) : FnK P w K mg base (DE K) 1 2 ((.g "lies_within" : Loc3).at_ K) [] c_lies_within := by
  obtain ⟨fd, F⟩ := c.d 23 (d := d_lies_within) rfl
  exact fnk_of (fin := endE) F sc_lies_within rfl (F.bindsN fun _ _ _ _ _ _ us hl => match us, hl with | [_, _], _ => rfl) .nil (fun _ _ => .nil) finE fun cdv A outer s H E hr =>
    (ss_one (ss_ret DE.ok (se_and (s_cmp DE.ok op2_le (SE.b (s_ix (u1 hr) (vB 1) (SE.b se_int))) (SE.b (s_ix (u1 hr) (vB 0) (SE.b se_int))) rfl) (se_one (s_cmp DE.ok op2_le (SE.b (s_ix (u1 hr) (vB 0) (SE.b se_int))) (SE.b (s_ix (u1 hr) (vB 1) (SE.b se_int))) rfl)))))
theorem ok_better (kx : K.In h) (G : h.Ns mainGlobals mg) (c : SaysM fa fm fn K) : FnK P w K mg base (DE K) 1 2 ((.g "better" : Loc3).at_ K) [] c_better := by
  obtain ⟨fd, F⟩ := c.d 24 (d := d_better) rfl
  exact fnk_of (fin := endE) F sc_better rfl (F.bindsN fun _ _ _ _ _ _ us hl => match us, hl with | [_, _], _ => rfl) .nil (fun _ _ => .nil) finE fun cdv A outer s H E hr =>
    (ss_cons (ss_if (st_w (sw_or (st_cmp op2_isN (vB 0) (SE.b se_non) rfl) (sw_or1 (st_cmp op2_isN (vB 1) (SE.b se_non) rfl)))) (ss_one (ss_ret DE.ok (s_if DE.ok (st_cmp op2_isN (vB 0) (SE.b se_non) rfl) (vE 1) (vE 0)))) ss_nil) (ss_one (ss_ret DE.ok (s_if DE.ok (st_cmp (op2_lt hr.units0) (SE.b (se_tup (sl_cons (s_ix (u1 hr) (vB 1) (SE.b se_int)) (sl_cons (s_callB DE.ok call_lenS rfl (He.free_ok kx G (x := "len") (c.a 0 rfl)) (by decide +kernel) (slb_cons (SE.b (s_ix (u1 hr) (vB 1) (SE.b se_int))) slb_nil)) sl_nil)))) (SE.b (se_tup (sl_cons (s_ix (u1 hr) (vB 0) (SE.b se_int)) (sl_cons (s_callB DE.ok call_lenS rfl (He.free_ok kx G (x := "len") (c.a 0 rfl)) (by decide +kernel) (slb_cons (SE.b (s_ix (u1 hr) (vB 0) (SE.b se_int))) slb_nil)) sl_nil)))) rfl) (vE 1) (vE 0)))))
theorem ok_best_of (kx : K.In h) (G : h.Ns mainGlobals mg) (c : SaysM fa fm fn K) : FnK P w K mg base (DE K) 2 1 ((.g "best_of" : Loc3).at_ K) [] c_best_of := by
  obtain ⟨fd, F⟩ := c.d 25 (d := d_best_of) rfl
  exact fnk_of (fin := endE) F sc_best_of rfl (F.bindsN fun _ _ _ _ _ _ us hl => match us, hl with | [_], _ => rfl) .nil (fun _ _ => .nil) finE fun cdv A outer s H E hr =>
    (ss_cons (ss_set (i := 1) sc_best_of.nd rfl (by first | exact Or.inl rfl | exact Or.inr rfl) se_non) (ss_cons (ss_for ownX rfl (si_seq (vE 0)) (tg_n (j := 2)) (pgN 2 sc_best_of.nd) (ss_one (ss_set (i := 1) sc_best_of.nd rfl (by first | exact Or.inl rfl | exact Or.inr rfl) (s_call DE.ok (ok_better kx G c) (hr.mono (by decide)) pasX rfl (He.glo_ok kx G (x := "better") (c.a 45 rfl)) (sl_cons (vE 1) (sl_cons (vE 2) sl_nil)))))) (ss_one (ss_ret DE.ok (vE 1)))))
theorem ok_ways_from (kx : K.In h) (G : h.Ns mainGlobals mg) (c : SaysM fa fm fn K) : FnK P w K mg base (DE K) 2 4 ((.g "ways_from" : Loc3).at_ K) [] c_ways_from := by
  obtain ⟨fd, F⟩ := c.d 26 (d := d_ways_from) rfl
  exact fnk_of (fin := endE) F sc_ways_from rfl (F.bindsN fun _ _ _ _ _ _ us hl => match us, hl with | [_, _, _, _], _ => rfl) .nil (fun _ _ => .nil) finE fun cdv A outer s H E hr =>
    (ss_cons (ss_own (i := 4) sc_ways_from.nd rfl (by first | exact Or.inl rfl | exact Or.inr rfl) (so_disp1 (vE 0) (se_tup (sl_cons se_int (sl_cons (se_tup sl_nil) sl_nil))))) (ss_cons (ss_for ownX rfl (si_rng2 (vE 0) (vE 1) rfl (He.free_ok kx G (x := "range") (c.a 3 rfl))) (tg_n (j := 5)) (pgN 5 sc_ways_from.nd) (ss_cons (ss_set (i := 6) sc_ways_from.nd rfl (by first | exact Or.inl rfl | exact Or.inr rfl) (se_get1 (u1 hr) (vB 4) (vE 5) ⟨rfl, rfl, rfl, rfl⟩)) (ss_one (ss_for ownX rfl (si_items (vE 2)) (tg_t (tgs_cons (j := 7) (tgs_cons (j := 8) tgs_nil)) rfl) (pg_tup rfl (pgs_cons (pgN 7 sc_ways_from.nd) (pgs_cons (pgN 8 sc_ways_from.nd) pgs_nil))) (ss_cons (ss_set (i := 9) sc_ways_from.nd rfl (by first | exact Or.inl rfl | exact Or.inr rfl) (s_if DE.ok (st_cmp (op2_eq hr.units) (vB 3) (SE.b se_str) rfl) (s_cmp DE.ok (op2_eq hr.units) (SE.b (s_ix (u1 hr) (vB 7) (SE.b se_int))) (vB 5) rfl) (se_ch op2_le (op2_lt hr.units0) (SE.b (s_ix (u1 hr) (vB 7) (SE.b se_int))) (vB 5) (SE.b (s_ix (u1 hr) (vB 7) (SE.b se_int)))))) (ss_one (ss_if (st_w (sw_and (st_cmp op2_notN (vB 6) (SE.b se_non) rfl) (sw_and (st_cmp op2_notN (vB 8) (SE.b se_non) rfl) (sw_and1 (st_val (vE 9)))))) (ss_one (ss_sub (i := 4) (u1 hr) rfl (by first | exact Or.inl rfl | exact Or.inr (Or.inl rfl)) (s_ix (u1 hr) (vB 7) (SE.b se_int)) (s_call DE.ok (ok_better kx G c) (hr.mono (by decide)) pasX rfl (He.glo_ok kx G (x := "better") (c.a 45 rfl)) (sl_cons (se_get1 (u1 hr) (vB 4) (s_ix (u1 hr) (vB 7) (SE.b se_int)) ⟨rfl, rfl, rfl, rfl⟩) (sl_cons (se_tup (sl_cons (s_bin DE.ok op2_add (SE.b (s_ix (u1 hr) (vB 6) (SE.b se_int))) (vB 8)) (sl_cons (se_tup (sl_star (SE.b (s_ix (u1 hr) (vB 6) (SE.b se_int))) (sl_cons (vE 7) sl_nil))) sl_nil))) sl_nil))))) ss_nil))))))) (sss_share (i := 4) (ss_one (ss_ret DE.ok (vE 4))))))
theorem ok_covers_of (kx : K.In h) (G : h.Ns mainGlobals mg) (c : SaysM fa fm fn K) : FnK P w K mg base (DE K) 3 3 ((.g "covers_of" : Loc3).at_ K) [] c_covers_of := by
  obtain ⟨fd, F⟩ := c.d 27 (d := d_covers_of) rfl
  exact fnk_of (fin := endE) F sc_covers_of rfl (F.bindsN fun _ _ _ _ _ _ us hl => match us, hl with | [_, _, _], _ => rfl) .nil (fun _ _ => .nil) finE fun cdv A outer s H E hr =>
    (ss_cons (ss_own (i := 3) sc_covers_of.nd rfl (by first | exact Or.inl rfl | exact Or.inr rfl) so_dT) (ss_cons (ss_if (st_cmp (op2_eq hr.units) (vB 2) (SE.b se_str) rfl) (ss_cons (ss_for ownX rfl (si_seq (s_call DE.ok (ok_hauls_of kx G c) (hr.mono (by decide)) pasX rfl (He.glo_ok kx G (x := "hauls_of") (c.a 43 rfl)) (sl_cons (vE 0) sl_nil))) (tg_n (j := 4)) (pgN 4 sc_covers_of.nd) (ss_cons (ss_lc (i := 5) rfl sc_covers_of.nd rfl rfl rfl (SI.any (si_seq (vE 1))) (own := [(("other" : Str), 9)]) (blkOk_by (by kernel_rfl)) (tg_n (j := 9)) (by decide) (fun s0 H0 C0 cl0 fp0 => (pgN 9 sc_covers_of.nd)) (fun s0 H0 C0 cl0 fp0 => (sts_one (st_val (s_call DE.ok (ok_lies_within kx G c) (hr.mono (by decide)) pas_no rfl (He.glo_ok kx G (x := "lies_within") (c.a 44 rfl)) (sl_cons (vE 4) (sl_cons (vE 9) sl_nil)))))) (fun s0 H0 C0 cl0 fp0 => (se_tup (sl_cons (s_ix (u1 hr) (vB 1) (vB 9)) (sl_cons (se_tup (sl_cons (vE 9) sl_nil)) sl_nil))))) (sss_share (i := 5) (ss_one (ss_sub (i := 3) (u1 hr) rfl (by first | exact Or.inl rfl | exact Or.inr (Or.inl rfl)) (vE 4) (s_call DE.ok (ok_best_of kx G c) (hr.mono (by decide)) pasX rfl (He.glo_ok kx G (x := "best_of") (c.a 46 rfl)) (sl_cons (SO.e (so_lc rfl sc_covers_of.nd (SI.any (si_seq (vE 5))) (own := [(("way" : Str), 10)]) (blkOk_by (by kernel_rfl)) (tg_n (j := 10)) (by decide) (fun s0 H0 C0 cl0 fp0 => (pgN 10 sc_covers_of.nd)) (fun s0 H0 C0 cl0 fp0 => (sts_one (st_cmp op2_notN (SE.b (s_ix (u1 hr) (vB 10) (SE.b se_int))) (SE.b se_non) rfl))) (fun s0 H0 C0 cl0 fp0 => (vE 10)))) sl_nil))))))) (sss_share (i := 3) (ss_one (ss_ret DE.ok (vE 3))))) ss_nil) (ss_cons (ss_for ownX rfl (si_rng1 (s_bin DE.ok op2_sub (vB 0) (SE.b se_int)) rfl (He.free_ok kx G (x := "range") (c.a 3 rfl))) (tg_n (j := 6)) (pgN 6 sc_covers_of.nd) (ss_cons (ss_set (i := 7) sc_covers_of.nd rfl (by first | exact Or.inl rfl | exact Or.inr rfl) (s_call DE.ok (ok_ways_from kx G c) (hr.mono (by decide)) pasX rfl (He.glo_ok kx G (x := "ways_from") (c.a 47 rfl)) (sl_cons (vE 6) (sl_cons (vE 0) (sl_cons (vE 1) (sl_cons (vE 2) sl_nil)))))) (ss_one (ss_for ownX rfl (si_rng2 (s_bin DE.ok op2_add (vB 6) (SE.b se_int)) (vE 0) rfl (He.free_ok kx G (x := "range") (c.a 3 rfl))) (tg_n (j := 8)) (pgN 8 sc_covers_of.nd) (ss_one (ss_sub (i := 3) (u1 hr) rfl (by first | exact Or.inl rfl | exact Or.inr (Or.inl rfl)) (se_tup (sl_cons (vE 6) (sl_cons (vE 8) sl_nil))) (s_if DE.ok (st_cmp (op2_eq hr.units) (vB 2) (SE.b se_str) rfl) (se_get1 (u1 hr) (vB 7) (vE 8) ⟨rfl, rfl, rfl, rfl⟩) (s_call DE.ok (ok_best_of kx G c) (hr.mono (by decide)) pasX rfl (He.glo_ok kx G (x := "best_of") (c.a 46 rfl)) (sl_cons (SO.e (so_lc rfl sc_covers_of.nd (SI.any (si_rng2 (vE 8) (vE 0) rfl (He.free_ok kx G (x := "range") (c.a 3 rfl)))) (own := [(("stop" : Str), 11)]) (blkOk_by (by kernel_rfl)) (tg_n (j := 11)) (by decide) (fun s0 H0 C0 cl0 fp0 => (pgN 11 sc_covers_of.nd)) (fun s0 H0 C0 cl0 fp0 => sts_nil) (fun s0 H0 C0 cl0 fp0 => (se_get1 (u1 hr) (vB 7) (vE 11) ⟨rfl, rfl, rfl, rfl⟩)))) sl_nil))))))))) (sss_share (i := 3) (ss_one (ss_ret DE.ok (vE 3)))))))
theorem ok_costs_of (kx : K.In h) (G : h.Ns mainGlobals mg) (c : SaysM fa fm fn K) : FnK P w K mg base (DE K) 1 1 ((.g "costs_of" : Loc3).at_ K) [] c_costs_of := by
  obtain ⟨fd, F⟩ := c.d 28 (d := d_costs_of) rfl
  exact fnk_of (fin := endE) F sc_costs_of rfl (F.bindsN fun _ _ _ _ _ _ us hl => match us, hl with | [_], _ => rfl) .nil (fun _ _ => .nil) finE fun cdv A outer s H E hr =>
    (ss_one (ss_ret DE.ok (SO.e (so_dcT (u1 hr) rfl sc_costs_of.nd (SI.any (si_items (vE 0))) (own := [(("haul" : Str), 1), (("way" : Str), 2)]) (blkOk_by (by kernel_rfl)) (tg_t (tgs_cons (j := 1) (tgs_cons (j := 2) tgs_nil)) rfl) (by decide) (fun s0 H0 C0 cl0 fp0 => (pg_tup rfl (pgs_cons (pgN 1 sc_costs_of.nd) (pgs_cons (pgN 2 sc_costs_of.nd) pgs_nil)))) (fun s0 H0 C0 cl0 fp0 => sts_nil) (fun s0 H0 C0 cl0 fp0 => (vE 1)) (fun s0 H0 C0 cl0 fp0 => (s_if DE.ok (st_cmp op2_isN (vB 2) (SE.b se_non) rfl) se_non (s_ix (u1 hr) (vB 2) (SE.b se_int))))))))
theorem ok_Found___init__ (kx : K.In h) (G : h.Ns mainGlobals mg) (c : SaysM fa fm fn K) : InK P w K mg base 4 4 "Found" ((.m "Found" "__init__" : Loc3).at_ K) [] c_Found___init__ := by
  obtain ⟨fd, F⟩ := c.d 29 (d := d_Found___init__) rfl
  exact ink_of (He.mkr_ok (x := "Found") (c.a 51 rfl)) F sc_Found___init__ rfl (F.bindsN fun _ _ _ _ _ _ us hl => match us, hl with | [_, _, _, _, _], _ => rfl) .nil (fun _ _ => .nil) fun cdv A outer s H E hr =>
    (ss_cons (ss_fld (i := 0) rfl (by first | exact Or.inl rfl | exact Or.inr (Or.inl rfl)) (vE 1) (He.cls_ok (x := "Found") (c.a 38 rfl)) (He.noat_ok (x := "Found") (f := "line") (c.a 40 rfl))) (ss_cons (ss_fld (i := 0) rfl (by first | exact Or.inl rfl | exact Or.inr (Or.inl rfl)) (vE 4) (He.cls_ok (x := "Found") (c.a 38 rfl)) (He.noat_ok (x := "Found") (f := "kind") (c.a 41 rfl))) (ss_cons (ss_fld (i := 0) rfl (by first | exact Or.inl rfl | exact Or.inr (Or.inl rfl)) (vE 2) (He.cls_ok (x := "Found") (c.a 38 rfl)) (He.noat_ok (x := "Found") (f := "least") (c.a 42 rfl))) (ss_cons (ss_fld (i := 0) rfl (by first | exact Or.inl rfl | exact Or.inr (Or.inl rfl)) (s_call DE.ok (ok_covers_of kx G c) (hr.mono (by decide)) pasX rfl (He.glo_ok kx G (x := "covers_of") (c.a 48 rfl)) (sl_cons (vE 1) (sl_cons (vE 3) (sl_cons (vE 4) sl_nil)))) (He.cls_ok (x := "Found") (c.a 38 rfl)) (He.noat_ok (x := "Found") (f := "covers") (c.a 39 rfl))) (ss_one (ss_fld (i := 0) rfl (by first | exact Or.inl rfl | exact Or.inr (Or.inl rfl)) (s_call DE.ok (ok_costs_of kx G c) (hr.mono (by decide)) pasX rfl (He.glo_ok kx G (x := "costs_of") (c.a 49 rfl)) (sl_cons (s_attrB DE.ok (op1_fld (He.cls_ok (x := "Found") (c.a 38 rfl)) (He.noat_ok (x := "Found") (f := "covers") (c.a 39 rfl))) (vB 0)) sl_nil)) (He.cls_ok (x := "Found") (c.a 38 rfl)) (He.noat_ok (x := "Found") (f := "most") (c.a 50 rfl))))))))
theorem ok_Bounds_ranges (kx : K.In h) (G : h.Ns mainGlobals mg) (c : SaysM fa fm fn K) : FnK P w K mg base (DE K) 1 1 ((.p "Bounds" "ranges" : Loc3).at_ K) [] c_Bounds_ranges := by
  obtain ⟨fd, F⟩ := c.d 30 (d := d_Bounds_ranges) rfl
  exact fnk_of (fin := endE) F sc_Bounds_ranges rfl (F.bindsN fun _ _ _ _ _ _ us hl => match us, hl with | [_], _ => rfl) .nil (fun _ _ => .nil) finE fun cdv A outer s H E hr =>
    (ss_one (ss_ret DE.ok (s_ix (u1 hr) (SE.b (s_attrB DE.ok (op1_fld (He.cls_ok (x := "Bounds") (c.a 24 rfl)) (He.noat_ok (x := "Bounds") (f := "all") (c.a 25 rfl))) (vB 0))) (SE.b se_int))))
theorem ok_Bounds_leasts (kx : K.In h) (G : h.Ns mainGlobals mg) (c : SaysM fa fm fn K) : FnK P w K mg base (DE K) 3 1 ((.m "Bounds" "leasts" : Loc3).at_ K) [] c_Bounds_leasts := by
  obtain ⟨fd, F⟩ := c.d 31 (d := d_Bounds_leasts) rfl
  exact fnk_of (fin := endE) F sc_Bounds_leasts rfl (F.bindsN fun _ _ _ _ _ _ us hl => match us, hl with | [_], _ => rfl) .nil (fun _ _ => .nil) finE fun cdv A outer s H E hr =>
    (ss_cons (ss_set (i := 1) sc_Bounds_leasts.nd rfl (by first | exact Or.inl rfl | exact Or.inr rfl) (SO.e (so_dcT (u1 hr) rfl sc_Bounds_leasts.nd (SI.any (si_seq (s_attr DE.ok (op1_prop (He.cls_ok (x := "Bounds") (c.a 24 rfl)) (propB_ok (C := "Bounds") (f := "ranges") (c.b 4 rfl)) (ok_Bounds_ranges kx G c) (hr.mono (by decide))) (vE 0)))) (own := [(("haul" : Str), 2), (("least" : Str), 3), (("greatest" : Str), 4)]) (blkOk_by (by kernel_rfl)) (tg_t (tgs_cons (j := 2) (tgs_cons (j := 3) (tgs_cons (j := 4) tgs_nil))) rfl) (by decide) (fun s0 H0 C0 cl0 fp0 => (pg_tup rfl (pgs_cons (pgN 2 sc_Bounds_leasts.nd) (pgs_cons (pgN 3 sc_Bounds_leasts.nd) (pgs_cons (pgN 4 sc_Bounds_leasts.nd) pgs_nil))))) (fun s0 H0 C0 cl0 fp0 => sts_nil) (fun s0 H0 C0 cl0 fp0 => (vE 2)) (fun s0 H0 C0 cl0 fp0 => (vE 3))))) (ss_one (ss_ret DE.ok (SO.e (so_dcT (u1 hr) rfl sc_Bounds_leasts.nd (SI.any (si_seq (s_call DE.ok (ok_hauls_of kx G c) (hr.mono (by decide)) pasX rfl (He.glo_ok kx G (x := "hauls_of") (c.a 43 rfl)) (sl_cons (s_attr DE.ok (op1_prop (He.cls_ok (x := "Bounds") (c.a 24 rfl)) (propB_ok (C := "Bounds") (f := "stops") (c.b 2 rfl)) (ok_Bounds_stops kx G c) (hr.mono (by decide))) (vE 0)) sl_nil)))) (own := [(("haul" : Str), 2)]) (blkOk_by (by kernel_rfl)) (tg_n (j := 2)) (by decide) (fun s0 H0 C0 cl0 fp0 => (pgN 2 sc_Bounds_leasts.nd)) (fun s0 H0 C0 cl0 fp0 => sts_nil) (fun s0 H0 C0 cl0 fp0 => (vE 2)) (fun s0 H0 C0 cl0 fp0 => (se_get2 (u1 hr) (vB 1) (vE 2) se_int ⟨rfl, rfl, rfl, rfl⟩)))))))
theorem ok_Bounds_greatests (kx : K.In h) (G : h.Ns mainGlobals mg) (c : SaysM fa fm fn K) : FnK P w K mg base (DE K) 3 1 ((.m "Bounds" "greatests" : Loc3).at_ K) [] c_Bounds_greatests := by
  obtain ⟨fd, F⟩ := c.d 32 (d := d_Bounds_greatests) rfl
  exact fnk_of (fin := endE) F sc_Bounds_greatests rfl (F.bindsN fun _ _ _ _ _ _ us hl => match us, hl with | [_], _ => rfl) .nil (fun _ _ => .nil) finE fun cdv A outer s H E hr =>
    (ss_cons (ss_set (i := 1) sc_Bounds_greatests.nd rfl (by first | exact Or.inl rfl | exact Or.inr rfl) (SO.e (so_dcT (u1 hr) rfl sc_Bounds_greatests.nd (SI.any (si_seq (s_attr DE.ok (op1_prop (He.cls_ok (x := "Bounds") (c.a 24 rfl)) (propB_ok (C := "Bounds") (f := "ranges") (c.b 4 rfl)) (ok_Bounds_ranges kx G c) (hr.mono (by decide))) (vE 0)))) (own := [(("haul" : Str), 2), (("least" : Str), 3), (("greatest" : Str), 4)]) (blkOk_by (by kernel_rfl)) (tg_t (tgs_cons (j := 2) (tgs_cons (j := 3) (tgs_cons (j := 4) tgs_nil))) rfl) (by decide) (fun s0 H0 C0 cl0 fp0 => (pg_tup rfl (pgs_cons (pgN 2 sc_Bounds_greatests.nd) (pgs_cons (pgN 3 sc_Bounds_greatests.nd) (pgs_cons (pgN 4 sc_Bounds_greatests.nd) pgs_nil))))) (fun s0 H0 C0 cl0 fp0 => sts_nil) (fun s0 H0 C0 cl0 fp0 => (vE 2)) (fun s0 H0 C0 cl0 fp0 => (vE 4))))) (ss_one (ss_ret DE.ok (SO.e (so_dcT (u1 hr) rfl sc_Bounds_greatests.nd (SI.any (si_seq (s_call DE.ok (ok_hauls_of kx G c) (hr.mono (by decide)) pasX rfl (He.glo_ok kx G (x := "hauls_of") (c.a 43 rfl)) (sl_cons (s_attr DE.ok (op1_prop (He.cls_ok (x := "Bounds") (c.a 24 rfl)) (propB_ok (C := "Bounds") (f := "stops") (c.b 2 rfl)) (ok_Bounds_stops kx G c) (hr.mono (by decide))) (vE 0)) sl_nil)))) (own := [(("haul" : Str), 2)]) (blkOk_by (by kernel_rfl)) (tg_n (j := 2)) (by decide) (fun s0 H0 C0 cl0 fp0 => (pgN 2 sc_Bounds_greatests.nd)) (fun s0 H0 C0 cl0 fp0 => sts_nil) (fun s0 H0 C0 cl0 fp0 => (vE 2)) (fun s0 H0 C0 cl0 fp0 => (se_get1 (u1 hr) (vB 1) (vE 2) ⟨rfl, rfl, rfl, rfl⟩)))))))
theorem ok_found_in (kx : K.In h) (G : h.Ns mainGlobals mg) (c : SaysM fa fm fn K) : FnK P w K mg base (DE K) 6 2 ((.g "found_in" : Loc3).at_ K) [] c_found_in := by
  obtain ⟨fd, F⟩ := c.d 33 (d := d_found_in) rfl
  exact fnk_of (fin := endE) F sc_found_in rfl (F.bindsN fun _ _ _ _ _ _ us hl => match us, hl with | [_, _], _ => rfl) .nil (fun _ _ => .nil) finE fun cdv A outer s H E hr =>
    (ss_one (ss_ret DE.ok (SO.e (so_make (ok_Found___init__ kx G c) (hr.mono (by decide)) pasX rfl (He.glo_ok kx G (x := "Found") (c.a 54 rfl)) (sl_cons (s_attr DE.ok (op1_prop (He.cls_ok (x := "Bounds") (c.a 24 rfl)) (propB_ok (C := "Bounds") (f := "stops") (c.b 2 rfl)) (ok_Bounds_stops kx G c) (hr.mono (by decide))) (vE 0)) (sl_cons (s_meth0 DE.ok (He.cls_ok (x := "Bounds") (c.a 24 rfl)) (He.meth_ok (x := "Bounds") (m := "leasts") (c.a 52 rfl)) (ok_Bounds_leasts kx G c) (hr.mono (by decide)) pasX (vE 0)) (sl_cons (s_meth0 DE.ok (He.cls_ok (x := "Bounds") (c.a 24 rfl)) (He.meth_ok (x := "Bounds") (m := "greatests") (c.a 53 rfl)) (ok_Bounds_greatests kx G c) (hr.mono (by decide)) pasX (vE 0)) (sl_cons (vE 1) sl_nil))))))))
theorem okf_cover {fd : FuncData} (kx : K.In h) (G : h.Ns mainGlobals mg) (c : SaysM fa fm fn K) (F : FunD K d_cover.name d_cover.qual d_cover.params d_cover.body d_cover.scope (d_cover.dvs K) (d_cover.kws K) (d_cover.loc.at_ K) fd) : MP.FnOk P w K mg base (L2.CX P w) 7 (d_cover.loc.at_ K) fd [("bounds" : Str), ("haul" : Str), ("rules" : Str)] (spD K (DE K) 3 c_cover) :=
  fnok_of (fin := endE) F sc_cover rfl finE fun cdv A outer s H E hr =>
    (ss_cons (ss_expr (s_call DE.ok (ok_check_bounds kx G c) (hr.mono (by decide)) pasX rfl (He.glo_ok kx G (x := "check_bounds") (c.a 32 rfl)) (sl_cons (vE 0) sl_nil))) (ss_cons (ss_expr (s_call DE.ok (ok_check_haul kx G c) (hr.mono (by decide)) pasX rfl (He.glo_ok kx G (x := "check_haul") (c.a 33 rfl)) (sl_cons (vE 1) (sl_cons (s_attr DE.ok (op1_prop (He.cls_ok (x := "Bounds") (c.a 24 rfl)) (propB_ok (C := "Bounds") (f := "stops") (c.b 2 rfl)) (ok_Bounds_stops kx G c) (hr.mono (by decide))) (vE 0)) sl_nil)))) (ss_cons (ss_expr (s_call DE.ok (ok_check_rules kx G c) (hr.mono (by decide)) pasX rfl (He.glo_ok kx G (x := "check_rules") (c.a 37 rfl)) (sl_cons (vE 2) sl_nil))) (ss_one (ss_ret DE.ok (s_ix (u1 hr) (SE.b (s_attrB DE.ok (op1_fld (He.cls_ok (x := "Found") (c.a 38 rfl)) (He.noat_ok (x := "Found") (f := "covers") (c.a 39 rfl))) (SE.b (s_call DE.ok (ok_found_in kx G c) (hr.mono (by decide)) pasX rfl (He.glo_ok kx G (x := "found_in") (c.a 55 rfl)) (sl_cons (vE 0) (sl_cons (vE 2) sl_nil)))))) (vB 1)))))))
theorem ok_cover (kx : K.In h) (G : h.Ns mainGlobals mg) (c : SaysM fa fm fn K) : FnK P w K mg base (DE K) 7 3 ((d_cover.loc).at_ K) [.str "both"] c_cover := by
  obtain ⟨fd, F⟩ := c.d 34 (d := d_cover) rfl
  obtain ⟨ds, hv, hb⟩ := FunD.binds0 (ps := [("bounds" : Str), ("haul" : Str), ("rules" : Str)]) F 2 (List.cons_ne_nil _ _) rfl (fun _ _ _ _ _ _ us ks hl hk => match us, ks, hl, hk with | [_, _], [_], _, _ => ⟨_, _, _, _, _, _, rfl, rfl, rfl⟩)
  exact ⟨fd, _, _, ds, okf_cover kx G c F, hb, hv, fun _ _ => (.cons (by first | exact .str | exact .int) .nil), F.kp⟩
theorem okq_cover_0 (kx : K.In h) (G : h.Ns mainGlobals mg) (c : SaysM fa fm fn K) : FnQ P w K mg base (DE K) 7 3 2 [("rules" : Str)] [0, 1, 2] ((d_cover.loc).at_ K) [] c_cover := by
  obtain ⟨fd, F⟩ := c.d 34 (d := d_cover) rfl
  exact fnq_of F (okf_cover kx G c F) fun _ _ _ _ _ _ us ws hl hw => match us, ws, hl, hw with | [_, _], [_], _, _ => rfl
theorem okq_cover_1 (kx : K.In h) (G : h.Ns mainGlobals mg) (c : SaysM fa fm fn K) : FnQ P w K mg base (DE K) 7 3 0 [("rules" : Str), ("haul" : Str), ("bounds" : Str)] [2, 1, 0] ((d_cover.loc).at_ K) [] c_cover := by
  obtain ⟨fd, F⟩ := c.d 34 (d := d_cover) rfl
  exact fnq_of F (okf_cover kx G c F) fun _ _ _ _ _ _ us ws hl hw => match us, ws, hl, hw with | [], [_, _, _], _, _ => rfl
theorem ok__law_is_cover (kx : K.In h) (G : h.Ns mainGlobals mg) (c : SaysM fa fm fn K) : FnK P w K mg base (DE K) 2 3 ((.g "_law_is_cover" : Loc3).at_ K) [] c__law_is_cover := by
  obtain ⟨fd, F⟩ := c.d 35 (d := d__law_is_cover) rfl
  exact fnk_of (fin := endE) F sc__law_is_cover rfl (F.bindsN fun _ _ _ _ _ _ us hl => match us, hl with | [_, _, _], _ => rfl) .nil (fun _ _ => .nil) finE fun cdv A outer s H E hr =>
    (ss_cons (ss_if (st_w (sw_or (st_not (st_val (se_isi (isK_T tyT_tuple (fun _ h => nomatch h)) (vB 0) (pe_tyN (n := "tuple") rfl (He.free_ok kx G (x := "tuple") (c.a 9 rfl)) (by decide +kernel)) (.ty "tuple") rfl (He.free_ok kx G (x := "isinstance") (c.a 12 rfl))))) (sw_or1 (st_cmp (op2_eq hr.units) (vB 0) (SE.b (se_tup sl_nil)) rfl)))) (ss_one (ss_ret DE.ok se_bl)) ss_nil) (ss_cons (ss_if (st_cmp (op2_eq hr.units) (vB 2) (SE.b se_str) rfl) (ss_one (ss_ret DE.ok (se_and (s_cmp DE.ok (op2_eq hr.units) (SE.b (s_callB DE.ok call_lenS rfl (He.free_ok kx G (x := "len") (c.a 0 rfl)) (by decide +kernel) (slb_cons (vB 0) slb_nil))) (SE.b se_int) rfl) (se_one (s_call DE.ok (ok__law_inner kx G c) (hr.mono (by decide)) pasX rfl (He.glo_ok kx G (x := "_law_inner") (c.a 28 rfl)) (sl_cons (vE 1) (sl_cons (s_ix (u1 hr) (vB 0) (SE.b se_int)) sl_nil))))))) ss_nil) (ss_cons (ss_set (i := 3) sc__law_is_cover.nd rfl (by first | exact Or.inl rfl | exact Or.inr rfl) (s_ix (u1 hr) (vB 1) (SE.b se_int))) (ss_cons (ss_for ownX rfl (si_rng1 (s_callB DE.ok call_lenS rfl (He.free_ok kx G (x := "len") (c.a 0 rfl)) (by decide +kernel) (slb_cons (vB 0) slb_nil)) rfl (He.free_ok kx G (x := "range") (c.a 3 rfl))) (tg_n (j := 4)) (pgN 4 sc__law_is_cover.nd) (ss_cons (ss_setT (tgs_cons (j := 5) (tgs_cons (j := 6) tgs_nil)) rfl (pg_tup rfl (pgs_cons (pgN 5 sc__law_is_cover.nd) (pgs_cons (pgN 6 sc__law_is_cover.nd) pgs_nil))) (s_ix (u1 hr) (vB 0) (vB 4))) (ss_cons (ss_if (st_w (sw_or (st_w (sw_and (st_cmp (op2_eq hr.units) (vB 2) (SE.b se_str) rfl) (sw_and1 (st_cmp (op2_ne hr.units) (vB 5) (vB 3) rfl)))) (sw_or (st_cmp op2_gt (vB 5) (vB 3) rfl) (sw_or1 (st_w (sw_and (st_cmp op2_le (vB 6) (vB 3) rfl) (sw_and1 (st_cmp op2_gt (vB 4) (SE.b se_int) rfl)))))))) (ss_one (ss_ret DE.ok se_bl)) ss_nil) (ss_cons (ss_if (st_w (sw_and (st_cmp (op2_eq hr.units) (vB 2) (SE.b se_str) rfl) (sw_and1 (st_cmp (op2_ne hr.units) (SE.b (s_cmp DE.ok op2_ge (vB 6) (SE.b (s_ix (u1 hr) (vB 1) (SE.b se_int))) rfl)) (SE.b (s_cmp DE.ok (op2_eq hr.units) (vB 4) (SE.b (s_bin DE.ok op2_sub (SE.b (s_callB DE.ok call_lenS rfl (He.free_ok kx G (x := "len") (c.a 0 rfl)) (by decide +kernel) (slb_cons (vB 0) slb_nil))) (SE.b se_int))) rfl)) rfl)))) (ss_one (ss_ret DE.ok se_bl)) ss_nil) (ss_one (ss_set (i := 3) sc__law_is_cover.nd rfl (by first | exact Or.inl rfl | exact Or.inr rfl) (vE 6))))))) (ss_one (ss_ret DE.ok (s_if DE.ok (st_cmp (op2_eq hr.units) (vB 2) (SE.b se_str) rfl) (s_cmp DE.ok op2_ge (vB 3) (SE.b (s_ix (u1 hr) (vB 1) (SE.b se_int))) rfl) (s_cmp DE.ok (op2_eq hr.units) (vB 3) (SE.b (s_ix (u1 hr) (vB 1) (SE.b se_int))) rfl))))))))
theorem ok__law_right (kx : K.In h) (G : h.Ns mainGlobals mg) (c : SaysM fa fm fn K) : FnK P w K mg base (DE K) 8 1 ((.g "_law_right" : Loc3).at_ K) [] c__law_right := by
  obtain ⟨fd, F⟩ := c.d 36 (d := d__law_right) rfl
  exact fnk_of (fin := endE) F sc__law_right rfl (F.bindsN fun _ _ _ _ _ _ us hl => match us, hl with | [_], _ => rfl) .nil (fun _ _ => .nil) finE fun cdv A outer s H E hr =>
    (ss_cons (ss_par (i := 1) (j := 2) rfl sc__law_right.nd rfl rfl (by decide) rfl rfl (s_bin DE.ok op2_add (SE.b se_int) (SE.b (s_call DE.ok (ok__law_dip kx G c) (hr.mono (by decide)) pasX rfl (He.glo_ok kx G (x := "_law_dip") (c.a 5 rfl)) (sl_cons (vE 0) (sl_cons se_int sl_nil))))) (s_call DE.ok (ok__law_word kx G c) (hr.mono (by decide)) pasX rfl (He.glo_ok kx G (x := "_law_word") (c.a 7 rfl)) (sl_cons (vE 0) sl_nil))) (ss_cons (ss_set (i := 3) sc__law_right.nd rfl (by first | exact Or.inl rfl | exact Or.inr rfl) (s_call DE.ok (ok__law_spans kx G c) (hr.mono (by decide)) pasX rfl (He.glo_ok kx G (x := "_law_spans") (c.a 10 rfl)) (sl_cons (vE 0) (sl_cons (vE 1) (sl_cons (s_call DE.ok (ok__law_pick kx G c) (hr.mono (by decide)) pasX rfl (He.glo_ok kx G (x := "_law_pick") (c.a 6 rfl)) (sl_cons (vE 0) (sl_cons (SO.e (so_lst (sl_cons se_int (sl_cons se_int (sl_cons (s_bin DE.ok op2_pow (SE.b se_int) (SE.b se_int)) sl_nil))))) sl_nil))) sl_nil))))) (ss_cons (ss_set (i := 4) sc__law_right.nd rfl (by first | exact Or.inl rfl | exact Or.inr rfl) (s_ix (u1 hr) (SE.b (s_call DE.ok (ok__law_lows kx G c) (hr.mono (by decide)) pasX rfl (He.glo_ok kx G (x := "_law_lows") (c.a 11 rfl)) (sl_cons (vE 1) (sl_cons (vE 3) sl_nil)))) (SE.b se_int))) (ss_cons (ss_par (i := 5) (j := 6) rfl sc__law_right.nd rfl rfl (by decide) rfl rfl (SO.e (so_make (ok_Bounds___init__ kx G c) (hr.mono (by decide)) pasX rfl (He.glo_ok kx G (x := "Bounds") (c.a 26 rfl)) (sl_cons (vE 1) (sl_cons (vE 3) sl_nil)))) (s_call DE.ok (ok__law_settled kx G c) (hr.mono (by decide)) pasX rfl (He.glo_ok kx G (x := "_law_settled") (c.a 31 rfl)) (sl_cons (vE 1) (sl_cons (vE 4) (sl_cons (vE 2) sl_nil))))) (ss_cons (ss_for ownX rfl (si_seq (s_call DE.ok (ok__law_rides kx G c) (hr.mono (by decide)) pasX rfl (He.glo_ok kx G (x := "_law_rides") (c.a 8 rfl)) (sl_cons (vE 1) sl_nil))) (tg_n (j := 7)) (pgN 7 sc__law_right.nd) (ss_cons (ss_set (i := 8) sc__law_right.nd rfl (by first | exact Or.inl rfl | exact Or.inr rfl) (s_callQ DE.ok (okq_cover_0 kx G c) (hr.mono (by decide)) pasX rfl (He.glo_ok kx G (x := "cover") (c.a 56 rfl)) (sl_cons (vE 5) (sl_cons (vE 7) sl_nil)) (sk_cons (vE 2) sk_nil))) (ss_cons (ss_if (st_cmp (op2_ne hr.units) (SE.b (s_callB DE.ok (call_reprA hr) rfl (He.free_ok kx G (x := "repr") (c.a 57 rfl)) (by decide +kernel) (slb_cons (SE.b (s_callQ0 DE.ok (okq_cover_1 kx G c) (hr.mono (by decide)) pasX rfl (He.glo_ok kx G (x := "cover") (c.a 56 rfl)) (sk_cons (vE 2) (sk_cons (vE 7) (sk_cons (vE 5) sk_nil))))) slb_nil))) (SE.b (s_callB DE.ok (call_reprA hr) rfl (He.free_ok kx G (x := "repr") (c.a 57 rfl)) (by decide +kernel) (slb_cons (vB 8) slb_nil))) rfl) (ss_one (ss_ret DE.ok se_bl)) ss_nil) (ss_cons (ss_if (st_cmp op2_isN (SE.b (s_ix (u1 hr) (vB 6) (vB 7))) (SE.b se_non) rfl) (ss_cons (ss_if (st_cmp op2_notN (vB 8) (SE.b se_non) rfl) (ss_one (ss_ret DE.ok se_bl)) ss_nil) (ss_one ss_cont)) ss_nil) (ss_cons (ss_if (st_w (sw_or (st_not (st_val (se_isi (isK_T tyT_tuple (fun _ h => nomatch h)) (vB 8) (pe_tyN (n := "tuple") rfl (He.free_ok kx G (x := "tuple") (c.a 9 rfl)) (by decide +kernel)) (.ty "tuple") rfl (He.free_ok kx G (x := "isinstance") (c.a 12 rfl))))) (sw_or (st_cmp (op2_ne hr.units) (SE.b (s_callB DE.ok call_lenS rfl (He.free_ok kx G (x := "len") (c.a 0 rfl)) (by decide +kernel) (slb_cons (vB 8) slb_nil))) (SE.b se_int) rfl) (sw_or1 (st_cmp (op2_ne hr.units) (SE.b (s_callB DE.ok (call_reprA hr) rfl (He.free_ok kx G (x := "repr") (c.a 57 rfl)) (by decide +kernel) (slb_cons (SE.b (s_ix (u1 hr) (vB 8) (SE.b se_int))) slb_nil))) (SE.b (s_callB DE.ok (call_reprA hr) rfl (He.free_ok kx G (x := "repr") (c.a 57 rfl)) (by decide +kernel) (slb_cons (SE.b (s_ix (u1 hr) (vB 6) (vB 7))) slb_nil))) rfl))))) (ss_one (ss_ret DE.ok se_bl)) ss_nil) (ss_cons (ss_if (st_w (sw_or (st_not (st_val (s_call DE.ok (ok__law_is_cover kx G c) (hr.mono (by decide)) pasX rfl (He.glo_ok kx G (x := "_law_is_cover") (c.a 58 rfl)) (sl_cons (s_ix (u1 hr) (vB 8) (SE.b se_int)) (sl_cons (vE 7) (sl_cons (vE 2) sl_nil)))))) (sw_or1 (st_cmp op2_inF (SE.b se_non) (SE.b (SO.e (so_lc rfl sc__law_right.nd (SI.any (si_seq (s_ix (u1 hr) (vB 8) (SE.b se_int)))) (own := [(("_law_one" : Str), 9)]) (blkOk_by (by kernel_rfl)) (tg_n (j := 9)) (by decide) (fun s0 H0 C0 cl0 fp0 => (pgN 9 sc__law_right.nd)) (fun s0 H0 C0 cl0 fp0 => sts_nil) (fun s0 H0 C0 cl0 fp0 => (s_ix (u1 hr) (vB 4) (vB 9)))))) rfl)))) (ss_one (ss_ret DE.ok se_bl)) ss_nil) (ss_one (ss_if (st_cmp (op2_ne hr.units) (SE.b (s_callB DE.ok (call_sumS rfl) rfl (He.free_ok kx G (x := "sum") (c.a 59 rfl)) (by decide +kernel) (slb_cons (SE.b (SO.e (so_lc rfl sc__law_right.nd (SI.any (si_seq (s_ix (u1 hr) (vB 8) (SE.b se_int)))) (own := [(("_law_one" : Str), 9)]) (blkOk_by (by kernel_rfl)) (tg_n (j := 9)) (by decide) (fun s0 H0 C0 cl0 fp0 => (pgN 9 sc__law_right.nd)) (fun s0 H0 C0 cl0 fp0 => sts_nil) (fun s0 H0 C0 cl0 fp0 => (s_ix (u1 hr) (vB 4) (vB 9)))))) slb_nil))) (SE.b (s_ix (u1 hr) (vB 8) (SE.b se_int))) rfl) (ss_one (ss_ret DE.ok se_bl)) ss_nil)))))))) (ss_one (ss_ret DE.ok (se_or (s_cmp DE.ok (op2_ne hr.units) (vB 2) (SE.b se_str) rfl) (se_one (s_cmp DE.ok (op2_eq hr.units) (SE.b (s_callB DE.ok (call_reprA hr) rfl (He.free_ok kx G (x := "repr") (c.a 57 rfl)) (by decide +kernel) (slb_cons (SE.b (s_call DE.ok (ok_cover kx G c) (hr.mono (by decide)) pasX rfl (He.glo_ok kx G (x := "cover") (c.a 56 rfl)) (sl_cons (vE 5) (sl_cons (se_tup (sl_cons se_int (sl_cons se_int sl_nil))) sl_nil)))) slb_nil))) (SE.b (s_callB DE.ok (call_reprA hr) rfl (He.free_ok kx G (x := "repr") (c.a 57 rfl)) (by decide +kernel) (slb_cons (SE.b (s_callQ DE.ok (okq_cover_0 kx G c) (hr.mono (by decide)) pasX rfl (He.glo_ok kx G (x := "cover") (c.a 56 rfl)) (sl_cons (vE 5) (sl_cons (se_tup (sl_cons se_int (sl_cons se_int sl_nil))) sl_nil)) (sk_cons se_str sk_nil))) slb_nil))) rfl))))))))))
theorem ok__law_jar (kx : K.In h) (G : h.Ns mainGlobals mg) (c : SaysM fa fm fn K) : FnK P w K mg base (DE K) 1 2 ((.g "_law_jar" : Loc3).at_ K) [] c__law_jar := by
  obtain ⟨fd, F⟩ := c.d 37 (d := d__law_jar) rfl
  exact fnk_of (fin := endE) F sc__law_jar rfl (F.bindsN fun _ _ _ _ _ _ us hl => match us, hl with | [_, _], _ => rfl) .nil (fun _ _ => .nil) finE fun cdv A outer s H E hr =>
    (ss_cons (ss_set (i := 2) sc__law_jar.nd rfl (by first | exact Or.inl rfl | exact Or.inr rfl) (s_bin DE.ok op2_add (SE.b (s_bin DE.ok op2_mul (SE.b (s_bin DE.ok op2_mul (SE.b se_int) (SE.b (s_bin DE.ok op2_add (vB 1) (SE.b se_int))))) (SE.b (s_bin DE.ok op2_add (vB 1) (SE.b se_int))))) (SE.b (s_bin DE.ok op2_mul (SE.b se_int) (SE.b (s_callB DE.ok call_lenS rfl (He.free_ok kx G (x := "len") (c.a 0 rfl)) (by decide +kernel) (slb_cons (vB 0) slb_nil))))))) (ss_cons (ss_for ownX rfl (si_seq (se_sl (vB 0) sp_none (sp_some se_int))) (tg_n (j := 3)) (pgN 3 sc__law_jar.nd) (ss_one (ss_set (i := 2) sc__law_jar.nd rfl (by first | exact Or.inl rfl | exact Or.inr rfl) (s_bin DE.ok op2_mod (SE.b (s_callTy DE.ok call_intS rfl (He.free_ok kx G (x := "int") (c.a 4 rfl)) (by decide +kernel) (slb_cons (SE.b (s_bin DE.ok op2_add (SE.b (s_bin DE.ok op2_mul (vB 2) (SE.b se_int))) (vB 3))) slb_nil))) (SE.b se_int))))) (ss_cons (ss_set (i := 4) sc__law_jar.nd rfl (by first | exact Or.inl rfl | exact Or.inr rfl) (s_if DE.ok (st_cmp (op2_lt hr.units0) (vB 1) (SE.b (s_callB DE.ok call_lenS rfl (He.free_ok kx G (x := "len") (c.a 0 rfl)) (by decide +kernel) (slb_cons (vB 0) slb_nil))) rfl) (s_ix (u1 hr) (vB 0) (vB 1)) se_int)) (ss_cons (ss_set (i := 5) sc__law_jar.nd rfl (by first | exact Or.inl rfl | exact Or.inr rfl) (s_if DE.ok (st_w (sw_or (st_cmp (op2_lt hr.units0) (vB 4) (SE.b se_int) rfl) (sw_or1 (st_cmp op2_ge (vB 4) (SE.b (s_bin DE.ok op2_pow (SE.b se_int) (SE.b se_int))) rfl)))) (s_callB DE.ok call_absS rfl (He.free_ok kx G (x := "abs") (c.a 60 rfl)) (by decide +kernel) (slb_cons (vB 4) slb_nil)) se_int)) (ss_one (ss_ret DE.ok (SO.cell (so_lst (sl_cons (vE 5) (sl_cons (s_bin DE.ok op2_mod (SE.b (s_callTy DE.ok call_intS rfl (He.free_ok kx G (x := "int") (c.a 4 rfl)) (by decide +kernel) (slb_cons (SE.b (s_bin DE.ok op2_add (SE.b (s_bin DE.ok op2_add (SE.b (s_bin DE.ok op2_mul (vB 2) (SE.b se_int))) (SE.b (s_bin DE.ok op2_mul (vB 4) (SE.b se_int))))) (SE.b (s_bin DE.ok op2_mul (SE.b se_int) (SE.b (s_bin DE.ok op2_add (vB 1) (SE.b se_int))))))) slb_nil))) (SE.b se_int)) (sl_cons se_int sl_nil)))))))))))
theorem ok_law {fd : FuncData} (kx : K.In h) (G : h.Ns mainGlobals mg) (c : SaysM fa fm fn K) (F : FunD K d_law.name d_law.qual d_law.params d_law.body d_law.scope (d_law.dvs K) (d_law.kws K) (d_law.loc.at_ K) fd) : MP.FnOk P w K mg base (L2.CX P w) 9 (He.ga K "law") fd ["_law_script"] (spD K (DE K) 1 c_law) :=
  fnok_of (fin := endE) F sc_law rfl finE fun cdv A outer s H E hr =>
    (ss_one (ss_ret DE.ok (s_callB DE.ok (call_allS rfl) rfl (He.free_ok kx G (x := "all") (c.a 19 rfl)) (by decide +kernel) (slb_cons (SE.b (SO.e (so_lc rfl sc_law.nd (SI.any (si_rng1 (s_callB DE.ok (call_maxS rfl) rfl (He.free_ok kx G (x := "max") (c.a 2 rfl)) (by decide +kernel) (slb_cons (SE.b se_int) (slb_cons (SE.b (s_callB DE.ok (call_minS rfl) rfl (He.free_ok kx G (x := "min") (c.a 1 rfl)) (by decide +kernel) (slb_cons (SE.b (s_callB DE.ok call_lenS rfl (He.free_ok kx G (x := "len") (c.a 0 rfl)) (by decide +kernel) (slb_cons (vB 0) slb_nil))) (slb_cons (SE.b se_int) slb_nil)))) slb_nil))) rfl (He.free_ok kx G (x := "range") (c.a 3 rfl)))) (own := [(("_law_k" : Str), 1)]) (blkOk_by (by kernel_rfl)) (tg_n (j := 1)) (by decide) (fun s0 H0 C0 cl0 fp0 => (pgN 1 sc_law.nd)) (fun s0 H0 C0 cl0 fp0 => sts_nil) (fun s0 H0 C0 cl0 fp0 => (s_call DE.ok (ok__law_right kx G c) (hr.mono (by decide)) pas_no rfl (He.glo_ok kx G (x := "_law_right") (c.a 62 rfl)) (sl_cons (s_call DE.ok (ok__law_jar kx G c) (hr.mono (by decide)) pas_no rfl (He.glo_ok kx G (x := "_law_jar") (c.a 61 rfl)) (sl_cons (vE 0) (sl_cons (vE 1) sl_nil))) sl_nil)))))) slb_nil))))
end
theorem law_F {w : World} {K : PySem.W.Frag} {h : Heap} {mg : Str → Option Value} (kx : K.In h) (G : h.Ns mainGlobals mg) (c : SaysM fa fm fn K) :
    ∃ (K' : PySem.W.Frag) (fd : FuncData) (sp : Sp), K'.In h ∧ (∀ (s : Shared) (u : Value), BindsTo s fd ⟨[u], []⟩ [("_law_script", u)]) ∧
      (∀ (H : Hp) (a : Addr) (ns : List Int), ns.length ≤ 63 → Only H → SqL K' H a (ns.map V.int) → sp [.ref a] H (fun v _ => v = .bl true) fun _ _ _ => False) ∧
      ∀ base : Heap, K'.In base → base.Ns mainGlobals mg → MP.FnOk (PySem.Challenge.rw_haulprices_k11_whole_covers).prog w K' mg base (CXa (PySem.Challenge.rw_haulprices_k11_whole_covers).prog) 9 (He.ga K "law") fd ["_law_script"] sp := by
  obtain ⟨fd, F⟩ := c.d 38 (d := d_law) rfl
  refine ⟨K, fd, spD K (DE K) 1 c_law, kx, fun s u => ?_, fun H a ns hl _ hS => law_sp hS (law_ok hl), fun base hb hm => ?_⟩
  · exact FunD.bindsA (ps := ["_law_script"]) F (fun _ _ _ _ _ _ us hl => match us, hl with | [_], _ => rfl) s [u] rfl
  · exact fn_any (ok_law kx G c F)
end HP

set_option maxRecDepth 100000
set_option maxHeartbeats 0
namespace HP
open PySem PySem.W PySem.Calls PyProof.Rows MP
abbrev Rr : OpenRow := OpenLaw.row PySem.Challenge.rw_haulprices_k11_whole_covers
abbrev hk : PySem.W.Hook := hookM 6 fa fm fn
def ob (s : PySem.W.SharedT) : AlM := obG 6 fa fm fn (HandSHeadRun.getT s)
theorem ob_eq (s : PySem.W.SharedT) : ob s = hk.obs s.abs := obG_eq (HandSHeadRun.getT_eq s)
def names : List PySem.Str := ([("_wall" : PySem.Str), ("WrongValue" : PySem.Str), ("InvalidStops" : PySem.Str), ("InvalidHaul" : PySem.Str), ("InvalidRules" : PySem.Str), ("InvalidText" : PySem.Str), ("NotBounds" : PySem.Str), ("InvalidRanges" : PySem.Str), ("WrongRow" : PySem.Str), ("MOST_STOPS" : PySem.Str), ("MOST_PRICE" : PySem.Str), ("RULES" : PySem.Str), ("is_integer" : PySem.Str), ("is_within" : PySem.Str), ("is_price" : PySem.Str), ("is_haul" : PySem.Str), ("is_rules" : PySem.Str), ("lies_within" : PySem.Str), ("hauls_of" : PySem.Str), ("check_stops" : PySem.Str), ("check_haul" : PySem.Str), ("check_rules" : PySem.Str), ("better" : PySem.Str), ("ways_from" : PySem.Str), ("best_of" : PySem.Str), ("covers_of" : PySem.Str), ("costs_of" : PySem.Str), ("DIGITS" : PySem.Str), ("is_range" : PySem.Str), ("number_in" : PySem.Str), ("stops_in" : PySem.Str), ("range_in" : PySem.Str), ("Bounds" : PySem.Str), ("check_bounds" : PySem.Str), ("Found" : PySem.Str)] : List PySem.Str) ++ ([("found_in" : PySem.Str), ("cover" : PySem.Str), ("_law_jar" : PySem.Str), ("_law_dip" : PySem.Str), ("_law_pick" : PySem.Str), ("_law_rides" : PySem.Str), ("_law_inner" : PySem.Str), ("_law_less" : PySem.Str), ("_law_pass" : PySem.Str), ("_law_settled" : PySem.Str), ("_law_word" : PySem.Str), ("_law_spans" : PySem.Str), ("_law_lows" : PySem.Str), ("_law_is_cover" : PySem.Str), ("_law_right" : PySem.Str)] : List PySem.Str)
theorem run (w : World) : HandSHeadRun.RunEq Rr (view Rr.prog [56]) hk ob 20000 names w := by
  intro os
  kernel_rfl
end HP

set_option maxRecDepth 100000
set_option maxHeartbeats 0
open PySem PySem.W PySem.Calls PyProof.Rows
theorem PySem.Challenge.cw_haulprices_k11_whole_covers_holds : PySem.Challenge.rw_haulprices_k11_whole_covers.Holds := by
  w_on; o_law
  refine HandSHeadRun.head_any (r := HP.Rr) (q := view HP.Rr.prog [56]) (H := HP.hk) (ob := HP.ob) (M := 20000) (loose := HP.names) (d := HandSHeadRun.topDef HP.Rr.prog 56) (kwd := []) HP.ob_eq
    (by kernel_rfl) (fun s => by kernel_rfl) HP.run (by kernel_rfl) (by kernel_rfl) (by kernel_rfl) (by rfl) (by first | assumption | decide +kernel) (by decide +kernel) ⟨rfl, rfl, rfl, rfl, rfl, by decide +kernel⟩ ?hw ?hc
  case hw => w_witness2
  case hc =>
    refine MP.walk_ofG (l := PySem.Challenge.rw_haulprices_k11_whole_covers) (n := 63) (k := 9) (x := "_law_script") (CX := MP.CXa (PySem.Challenge.rw_haulprices_k11_whole_covers).prog) rfl (by decide) (by kernel_rfl) ⟨rfl, by decide, by decide⟩ ?F MP.cxa_end
    intro w mg fa h Y G hmg0
    obtain ⟨K, KX, c⟩ := Y
    have hmg : mg ("law" : PySem.Str) = some (.ref fa) := by
      have e : (HandSHeadRun.topDef HP.Rr.prog 56).name = ("law" : PySem.Str) := by kernel_rfl
      rw [← e]
      exact hmg0
    have eg := hmg.symm.trans (He.glo_ok KX G (x := "law") (c.a 64 rfl))
    cases eg
    exact HP.law_F KX G c
