import PyProof.Rows.All
import Wide.All
import OpenK.AllK
import Wide.FinOn
import HandS.Base
import HandS.Call
import HandS.List
import HandS.Comp
import HandS.Ends
import HandS.Dict
import HandS.Iter
import HandS.Exc
import HandS.Wide
import HandS.Property
import HandS.IsInst
import HandS.Defaults
import HandS.HeadHook1
import HandS.HeadHook2
import HandS.HeadHook3
import HandS.HeadHook4
import HandS.TupAny
import HandS.TupLe
import HandS.DictTup
import HandS.Text
import HandS.ExcOwn
import HandS.CallSlots
import KE.GoesEnum
import HandS.Walk
import KE.KStateDown
import HandS.Head0
import HandS.Head1
import HandS.Head2
import HandS.HeadEnd
import HandS.Words
import PySem.Challenge.RW_haulprices_k26_whole_fares_far_away
import HandS.Codes
set_option Elab.async false
set_option linter.all false
set_option maxRecDepth 100000
set_option maxHeartbeats 1000000
namespace MP
open PySem PySem.Spec PyProof.Rows L2
abbrev St := L2.St

/-- data: values without a heap; cel n is the n-th shared object -/
inductive D where
  | non | bl (b : Bool) | int (i : Int) | str (s : Str)
  | tup (xs : List D) | lst (xs : List D)
  | dK (kvs : List (Key × D)) | dT (kvs : List (List Key × D))
  | ins (c : Str) (fs : List (Str × D))
  | cel (n : Nat)
  /-- the script; a tuple of the module's -/
  | scr (ns : List Int) | ktp (xs : List D)

/-- a locked dict is read as the dict -/
def nrm : Option HO → Option HO
  | some (.frz _ (.dK k)) => some (.dK k)
  | some (.frz _ (.dT k)) => some (.dT k)
  | o => o
def FLe (F F' : Hp) : Prop := ∀ a u, nrm (F a) = some u → nrm (F' a) = some u
theorem FLe.refl (F : Hp) : FLe F F := fun _ _ h => h
theorem FLe.trans {F G H : Hp} (a : FLe F G) (b : FLe G H) : FLe F H := fun x u h => b x u (a x u h)
theorem nrm_lst {o : Option HO} {xs} (h : nrm o = some (.lst xs)) : o = some (.lst xs) := by
  unfold nrm at h; split at h <;> first | exact h | cases h
theorem nrm_tup {o : Option HO} {xs} (h : nrm o = some (.tup xs)) : o = some (.tup xs) := by
  unfold nrm at h; split at h <;> first | exact h | cases h
theorem nrm_ins {o : Option HO} {c d f} (h : nrm o = some (.ins c d f)) : o = some (.ins c d f) := by
  unfold nrm at h; split at h <;> first | exact h | cases h
theorem nrm_frzL {o : Option HO} {b xs} (h : nrm o = some (.frz b (.lst xs))) : o = some (.frz b (.lst xs)) := by
  unfold nrm at h; split at h <;> first | exact h | cases h
theorem nrm_frzT {o : Option HO} {b xs} (h : nrm o = some (.frz b (.tup xs))) : o = some (.frz b (.tup xs)) := by
  unfold nrm at h; split at h <;> first | exact h | cases h
theorem sqL_fle {K F F' a xs} (l : FLe F F') (h : SqL K F a xs) : SqL K F' a xs := by
  rcases h with (h | ⟨o, h⟩) | h
  · exact .inl (.inl (nrm_lst (l a (.lst xs) (by rw [h]; rfl))))
  · exact .inl (.inr ⟨o, nrm_frzL (l a (.frz o (.lst xs)) (by rw [h]; rfl))⟩)
  · exact .inr h
theorem sqT_fle {K F F' a xs} (l : FLe F F') (h : SqT K F a xs) : SqT K F' a xs := by
  rcases h with (h | ⟨o, h⟩) | h
  · exact .inl (.inl (nrm_tup (l a (.tup xs) (by rw [h]; rfl))))
  · exact .inl (.inr ⟨o, nrm_frzT (l a (.frz o (.tup xs)) (by rw [h]; rfl))⟩)
  · exact .inr h

mutual
inductive Den (K : PySem.W.Frag) (F : Hp) (Ad : List Addr) : V → D → Prop
  | non : Den K F Ad .non .non
  | bl {b} : Den K F Ad (.bl b) (.bl b)
  | int {i} : Den K F Ad (.int i) (.int i)
  | str {s} : Den K F Ad (.str s) (.str s)
  | tup {a vs ds} : F a = some (.tup vs) → DenL K F Ad vs ds → Den K F Ad (.ref a) (.tup ds)
  | ktp {a vs ds} : SqT K F a vs → DenL K F Ad vs ds → Den K F Ad (.ref a) (.ktp ds)
  | lst {a vs ds} : F a = some (.lst vs) → DenL K F Ad vs ds → Den K F Ad (.ref a) (.lst ds)
  | scr {a ns} : SqL K F a (ns.map V.int) → Den K F Ad (.ref a) (.scr ns)
  | dK {a vs ds} : nrm (F a) = some (.dK vs) → DenK K F Ad vs ds → Den K F Ad (.ref a) (.dK ds)
  | dT {a vs ds} : nrm (F a) = some (.dT vs) → DenT K F Ad vs ds → Den K F Ad (.ref a) (.dT ds)
  | ins {a c dx vs ds} : F a = some (.ins (He.ga K c) dx vs) → DenF K F Ad vs ds → Den K F Ad (.ref a) (.ins c ds)
  | cel {a n} : Ad[n]? = some a → Den K F Ad (.ref a) (.cel n)
inductive DenL (K : PySem.W.Frag) (F : Hp) (Ad : List Addr) : List V → List D → Prop
  | nil : DenL K F Ad [] []
  | cons {v d vs ds} : Den K F Ad v d → DenL K F Ad vs ds → DenL K F Ad (v :: vs) (d :: ds)
inductive DenK (K : PySem.W.Frag) (F : Hp) (Ad : List Addr) : List (Key × V) → List (Key × D) → Prop
  | nil : DenK K F Ad [] []
  | cons {k v d vs ds} : Den K F Ad v d → DenK K F Ad vs ds → DenK K F Ad ((k, v) :: vs) ((k, d) :: ds)
inductive DenT (K : PySem.W.Frag) (F : Hp) (Ad : List Addr) : List (List Key × V) → List (List Key × D) → Prop
  | nil : DenT K F Ad [] []
  | cons {k v d vs ds} : Den K F Ad v d → DenT K F Ad vs ds → DenT K F Ad ((k, v) :: vs) ((k, d) :: ds)
inductive DenF (K : PySem.W.Frag) (F : Hp) (Ad : List Addr) : List (Str × V) → List (Str × D) → Prop
  | nil : DenF K F Ad [] []
  | cons {k v d vs ds} : Den K F Ad v d → DenF K F Ad vs ds → DenF K F Ad ((k, v) :: vs) ((k, d) :: ds)
end

section
variable {K : PySem.W.Frag} {F F' : Hp} {Ad Ad' : List Addr}
mutual
theorem Den.mono (l : FLe F F') (p : ∀ (n : Nat) (a : Addr), Ad[n]? = some a → Ad'[n]? = some a) : ∀ {v d}, Den K F Ad v d → Den K F' Ad' v d
  | _, _, .non => .non
  | _, _, .bl => .bl
  | _, _, .int => .int
  | _, _, .str => .str
  | _, _, .tup h r => .tup (nrm_tup (l _ (.tup _) (by rw [h]; rfl))) (r.mono l p)
  | _, _, .ktp h r => .ktp (sqT_fle l h) (r.mono l p)
  | _, _, .lst h r => .lst (nrm_lst (l _ (.lst _) (by rw [h]; rfl))) (r.mono l p)
  | _, _, .scr h => .scr (sqL_fle l h)
  | _, _, .dK h r => .dK (l _ _ h) (r.mono l p)
  | _, _, .dT h r => .dT (l _ _ h) (r.mono l p)
  | _, _, .ins h r => .ins (nrm_ins (l _ (.ins _ _ _) (by rw [h]; rfl))) (r.mono l p)
  | _, _, .cel h => .cel (p _ _ h)
theorem DenL.mono (l : FLe F F') (p : ∀ (n : Nat) (a : Addr), Ad[n]? = some a → Ad'[n]? = some a) : ∀ {v d}, DenL K F Ad v d → DenL K F' Ad' v d
  | _, _, .nil => .nil
  | _, _, .cons h r => .cons (h.mono l p) (r.mono l p)
theorem DenK.mono (l : FLe F F') (p : ∀ (n : Nat) (a : Addr), Ad[n]? = some a → Ad'[n]? = some a) : ∀ {v d}, DenK K F Ad v d → DenK K F' Ad' v d
  | _, _, .nil => .nil
  | _, _, .cons h r => .cons (h.mono l p) (r.mono l p)
theorem DenT.mono (l : FLe F F') (p : ∀ (n : Nat) (a : Addr), Ad[n]? = some a → Ad'[n]? = some a) : ∀ {v d}, DenT K F Ad v d → DenT K F' Ad' v d
  | _, _, .nil => .nil
  | _, _, .cons h r => .cons (h.mono l p) (r.mono l p)
theorem DenF.mono (l : FLe F F') (p : ∀ (n : Nat) (a : Addr), Ad[n]? = some a → Ad'[n]? = some a) : ∀ {v d}, DenF K F Ad v d → DenF K F' Ad' v d
  | _, _, .nil => .nil
  | _, _, .cons h r => .cons (h.mono l p) (r.mono l p)
end
theorem DenL.length : ∀ {vs ds}, DenL K F Ad vs ds → vs.length = ds.length
  | _, _, .nil => rfl
  | _, _, .cons _ r => by simp [DenL.length r]
theorem DenL.get : ∀ {vs ds} {i : Nat} {d : D}, DenL K F Ad vs ds → ds[i]? = some d → ∃ v, vs[i]? = some v ∧ Den K F Ad v d
  | _, _, _, _, .nil, e => by simp at e
  | _, _, 0, _, .cons h _, e => by simp at e; subst e; exact ⟨_, rfl, h⟩
  | _, _, i + 1, d, .cons _ r, e => by
    obtain ⟨v, h1, h2⟩ := DenL.get (i := i) (d := d) r (by simpa using e)
    exact ⟨v, by simpa using h1, h2⟩
theorem DenL.getV : ∀ {vs ds} {i : Nat} {v : V}, DenL K F Ad vs ds → vs[i]? = some v → ∃ d, ds[i]? = some d ∧ Den K F Ad v d
  | _, _, _, _, .nil, e => by simp at e
  | _, _, 0, _, .cons h _, e => by simp at e; subst e; exact ⟨_, rfl, h⟩
  | _, _, i + 1, d, .cons _ r, e => by
    obtain ⟨v, h1, h2⟩ := DenL.getV (i := i) (v := d) r (by simpa using e)
    exact ⟨v, by simpa using h1, h2⟩
theorem DenL.append : ∀ {vs ds ws es}, DenL K F Ad vs ds → DenL K F Ad ws es → DenL K F Ad (vs ++ ws) (ds ++ es)
  | _, _, _, _, .nil, s => s
  | _, _, _, _, .cons h r, s => .cons h (r.append s)
theorem DenL.set : ∀ {vs ds} {v d} (i : Nat), Den K F Ad v d → DenL K F Ad vs ds → DenL K F Ad (vs.set i v) (ds.set i d)
  | _, _, _, _, _, _, .nil => .nil
  | _, _, _, _, 0, h, .cons _ r => .cons h r
  | _, _, _, _, i + 1, h, .cons q r => .cons q (DenL.set i h r)
theorem DenL.take : ∀ {vs ds} (n : Nat), DenL K F Ad vs ds → DenL K F Ad (vs.take n) (ds.take n)
  | _, _, 0, _ => .nil
  | _, _, _ + 1, .nil => .nil
  | _, _, n + 1, .cons r t => .cons r (DenL.take n t)
theorem DenL.drop : ∀ {vs ds} (n : Nat), DenL K F Ad vs ds → DenL K F Ad (vs.drop n) (ds.drop n)
  | _, _, 0, r => r
  | _, _, _ + 1, .nil => .nil
  | _, _, n + 1, .cons _ t => DenL.drop n t
theorem DenF.lookup : ∀ {vs ds} {f : Str} {d : D}, DenF K F Ad vs ds → ds.lookup f = some d → ∃ v, vs.lookup f = some v ∧ Den K F Ad v d
  | _, _, _, _, .nil, e => by simp at e
  | _, _, f, d, .cons (k := k) h r, e => by
    rw [List.lookup_cons] at e ⊢
    cases q : f == k with
    | true => rw [q] at e; simp at e; subst e; exact ⟨_, rfl, h⟩
    | false => rw [q] at e; exact DenF.lookup r e
theorem DenF.none : ∀ {vs ds} {f : Str}, DenF K F Ad vs ds → ds.lookup f = Option.none → vs.lookup f = Option.none
  | _, _, _, .nil, e => by simp
  | _, _, f, .cons (k := k) h r, e => by
    rw [List.lookup_cons] at e ⊢
    cases q : f == k with
    | true => rw [q] at e; simp at e
    | false => rw [q] at e; exact DenF.none r e
theorem DenF.length : ∀ {vs ds}, DenF K F Ad vs ds → vs.length = ds.length
  | _, _, .nil => rfl
  | _, _, .cons _ r => by simp [DenF.length r]
theorem DenK.length : ∀ {vs ds}, DenK K F Ad vs ds → vs.length = ds.length
  | _, _, .nil => rfl
  | _, _, .cons _ r => by simp [DenK.length r]
theorem DenT.length : ∀ {vs ds}, DenT K F Ad vs ds → vs.length = ds.length
  | _, _, .nil => rfl
  | _, _, .cons _ r => by simp [DenT.length r]
end
/-! ### the state -/
/-- a root that may be written, at a -/
inductive Root (K : PySem.W.Frag) (F : Hp) (Ad : List Addr) (H : Hp) (a : Addr) : D → Prop
  | lst {vs ds} : H a = some (.lst vs) → DenL K F Ad vs ds → Root K F Ad H a (.lst ds)
  | dK {vs ds} : H a = some (.dK vs) → DenK K F Ad vs ds → Root K F Ad H a (.dK ds)
  | dT {vs ds} : H a = some (.dT vs) → DenT K F Ad vs ds → Root K F Ad H a (.dT ds)
  | ins {c dx vs ds} : H a = some (.ins (He.ga K c) dx vs) → DenF K F Ad vs ds → Root K F Ad H a (.ins c ds)
/-- what a root's object is -/
def RootO : HO → Prop
  | .lst _ => True | .dK _ => True | .dT _ => True | .ins _ _ _ => True | _ => False
theorem Root.obj {K F Ad H a d} (r : Root K F Ad H a d) : ∃ o, H a = some o ∧ RootO o := by
  cases r with
  | lst h _ => exact ⟨_, h, trivial⟩
  | dK h _ => exact ⟨_, h, trivial⟩
  | dT h _ => exact ⟨_, h, trivial⟩
  | ins h _ => exact ⟨_, h, trivial⟩
theorem Root.mono {K F F' Ad Ad' H H' a d} (l : FLe F F') (p : ∀ (n : Nat) (a : Addr), Ad[n]? = some a → Ad'[n]? = some a) (e : H' a = H a) (r : Root K F Ad H a d) : Root K F' Ad' H' a d := by
  cases r with
  | lst h r => exact .lst (e.trans h) (r.mono l p)
  | dK h r => exact .dK (e.trans h) (r.mono l p)
  | dT h r => exact .dT (e.trans h) (r.mono l p)
  | ins h r => exact .ins (e.trans h) (r.mono l p)
/-- the shared objects' contents are M -/
structure MemOk (K : PySem.W.Frag) (F : Hp) (Ad : List Addr) (M : List D) (H : Hp) : Prop where
  sub : ∀ a u, F a = some u → H a = some u
  len : Ad.length = M.length
  nd : Ad.Nodup
  cel : ∀ (n : Nat) (a : Addr) (d : D), Ad[n]? = some a → M[n]? = some d → F a = none ∧ Root K F Ad H a d
/-- from one state to a later one: what stands stays but the shared objects -/
structure Gr (F : Hp) (Ad : List Addr) (H F' : Hp) (Ad' : List Addr) (H' : Hp) : Prop where
  fle : FLe F F'
  fnew : ∀ a, F a = none → H a ≠ none → F' a = none
  apre : ∃ more, Ad' = Ad ++ more ∧ ∀ a ∈ more, H a = none
  keep : ∀ a o, H a = some o → a ∉ Ad → (∀ ps, o ≠ .tbl ps) → H' a = some o
  alive : ∀ a, H a ≠ none → H' a ≠ none
section
variable {K : PySem.W.Frag} {F F1 F2 H H1 H2 : Hp} {Ad Ad1 Ad2 : List Addr} {M : List D}
theorem Gr.refl : Gr F Ad H F Ad H := ⟨FLe.refl F, fun _ h _ => h, ⟨[], by simp, by simp⟩, fun _ _ h _ _ => h, fun _ h => h⟩
theorem Gr.pre (g : Gr F Ad H F1 Ad1 H1) : ∀ (n : Nat) (a : Addr), Ad[n]? = some a → Ad1[n]? = some a := fun n a h => by
  obtain ⟨more, e, _⟩ := g.apre
  rw [e, List.getElem?_append_left (List.getElem?_eq_some_iff.mp h).1]; exact h
theorem Gr.trans (g : Gr F Ad H F1 Ad1 H1) (g' : Gr F1 Ad1 H1 F2 Ad2 H2) : Gr F Ad H F2 Ad2 H2 := by
  obtain ⟨m1, e1, n1⟩ := g.apre
  obtain ⟨m2, e2, n2⟩ := g'.apre
  refine ⟨g.fle.trans g'.fle, fun a h h' => g'.fnew a (g.fnew a h h') (g.alive a h'), ⟨m1 ++ m2, by rw [e2, e1, List.append_assoc], fun a ha => ?_⟩, fun a o h na nt => g'.keep a o (g.keep a o h na nt) ?_ nt, fun a h => g'.alive a (g.alive a h)⟩
  · rcases List.mem_append.mp ha with h | h
    · exact n1 a h
    · cases q : H a with
      | none => rfl
      | some o => exact absurd (n2 a h) (g.alive a (by rw [q]; simp))
  · rw [e1]
    intro z
    rcases List.mem_append.mp z with z | z
    · exact na z
    · rw [n1 a z] at h; cases h
theorem Gr.notin (g : Gr F Ad H F1 Ad1 H1) {a : Addr} (h : H a ≠ none) (n : a ∉ Ad) : a ∉ Ad1 := fun z => by
  obtain ⟨m1, e1, n1⟩ := g.apre
  rw [e1] at z
  rcases List.mem_append.mp z with z | z
  · exact n z
  · exact h (n1 a z)
theorem Root.gr {a d} (g : Gr F Ad H F1 Ad1 H1) (na : a ∉ Ad) (r : Root K F Ad H a d) : Root K F1 Ad1 H1 a d := by
  obtain ⟨o, h, ro⟩ := r.obj
  refine r.mono g.fle g.pre ?_
  rw [h]
  exact g.keep a o h na (fun ps z => by rw [z] at ro; exact ro)
end

/-- a name's binding: a value, an own object, nothing -/
inductive B where
  | no | shr (d : D) | own (d : D) | slf (d : D)
/-- a call's begin: the heap; self's address, where __init__ runs -/
structure Ent where
  hp : Hp
  fz : Hp
  ad : List Addr
  me : Addr := 0
abbrev EnvM := List B
/-- the names: H0 the heap at the entry -/
structure EnvOk (K : PySem.W.Frag) (N0 : Ent) (F : Hp) (Ad : List Addr) (H : Hp) (σ : St) (env : EnvM) : Prop where
  len : env.length = σ.length
  shr : ∀ (i : Nat) (d : D), env[i]? = some (.shr d) → ∃ v, σ[i]? = some (some v) ∧ Den K F Ad v d
  own : ∀ (i : Nat) (d : D), env[i]? = some (.own d) → ∃ a, σ[i]? = some (some (.ref a)) ∧ F a = none ∧ a ∉ Ad ∧ N0.hp a = none ∧ Root K F Ad H a d
  dis : ∀ (i j : Nat) (d e : D) (a : Addr), env[i]? = some (.own d) → env[j]? = some (.own e) → σ[i]? = some (some (.ref a)) → σ[j]? = some (some (.ref a)) → i = j
  slf : ∀ (i : Nat) (d : D), env[i]? = some (.slf d) → i = 0 ∧ σ[i]? = some (some (.ref N0.me)) ∧ F N0.me = none ∧ N0.me ∉ Ad ∧ N0.hp N0.me = none ∧ Root K F Ad H N0.me d ∧ ∀ (j : Nat) (e : D), env[j]? = some (.own e) → σ[j]? ≠ some (some (.ref N0.me))
section
variable {K : PySem.W.Frag} {N0 : Ent} {F F1 H H1 : Hp} {Ad Ad1 : List Addr} {σ : St} {env : EnvM}
theorem EnvOk.gr (e : EnvOk K N0 F Ad H σ env) (g : Gr F Ad H F1 Ad1 H1) : EnvOk K N0 F1 Ad1 H1 σ env := by
  refine ⟨e.len, fun i d h => ?_, fun i d h => ?_, e.dis, fun i d h => ?_⟩
  · obtain ⟨v, h1, h2⟩ := e.shr i d h
    exact ⟨v, h1, h2.mono g.fle g.pre⟩
  · obtain ⟨a, h1, h2, h3, h4, h5⟩ := e.own i d h
    obtain ⟨o, ho, _⟩ := h5.obj
    exact ⟨a, h1, g.fnew a h2 (by rw [ho]; simp), g.notin (by rw [ho]; simp) h3, h4, h5.gr g h3⟩
  · obtain ⟨h0, h1, h2, h3, h4, h5, h6⟩ := e.slf i d h
    obtain ⟨o, ho, _⟩ := h5.obj
    exact ⟨h0, h1, g.fnew _ h2 (by rw [ho]; simp), g.notin (by rw [ho]; simp) h3, h4, h5.gr g h3, h6⟩
end

/-- an exception: the class's name, its fields -/
structure Xc where
  c : Str
  fs : List (Str × D)
inductive R where
  | ok (d : D) (M : List D) | exc (x : Xc) (M : List D) | stuck
inductive RL where
  | ok (d : List D) (M : List D) | exc (x : Xc) (M : List D) | stuck
inductive RS where
  | next (env : EnvM) (M : List D) | ret (d : D) (M : List D) | brk (env : EnvM) (M : List D) | cont (env : EnvM) (M : List D)
  | exc (x : Xc) (env : EnvM) (M : List D) | stuck
abbrev EF := EnvM → List D → R
abbrev LF := EnvM → List D → RL
abbrev SF := EnvM → List D → RS
def R.bind (r : R) (k : D → List D → R) : R := match r with
  | .ok d M => k d M | .exc x M => .exc x M | .stuck => .stuck
def R.bindL (r : R) (k : D → List D → RL) : RL := match r with
  | .ok d M => k d M | .exc x M => .exc x M | .stuck => .stuck
def RL.bind (r : RL) (k : List D → List D → R) : R := match r with
  | .ok d M => k d M | .exc x M => .exc x M | .stuck => .stuck
def RL.bindL (r : RL) (k : List D → List D → RL) : RL := match r with
  | .ok d M => k d M | .exc x M => .exc x M | .stuck => .stuck
def R.bindS (r : R) (env : EnvM) (k : D → List D → RS) : RS := match r with
  | .ok d M => k d M | .exc x M => .exc x env M | .stuck => .stuck
@[simp] theorem R.bind_ok {d M k} : (R.ok d M).bind k = k d M := rfl
@[simp] theorem R.bindL_ok {d M k} : (R.ok d M).bindL k = k d M := rfl
@[simp] theorem RL.bind_ok {d M k} : (RL.ok d M).bind k = k d M := rfl
@[simp] theorem RL.bindL_ok {d M k} : (RL.ok d M).bindL k = k d M := rfl
@[simp] theorem R.bindS_ok {d M env k} : (R.ok d M).bindS env k = k d M := rfl

/-- how a value lies: DR H F Ad H' v d, H the heap ahead -/
abbrev DRel := Hp → Hp → List Addr → Hp → V → D → Prop
/-- a value that stays -/
def DE (K : PySem.W.Frag) : DRel := fun _ F Ad _ v d => Den K F Ad v d
/-- a value that is looked at now -/
def DB (K : PySem.W.Frag) : DRel := fun _ F Ad H v d => Den K F Ad v d ∨ ∃ a, v = .ref a ∧ F a = none ∧ a ∉ Ad ∧ Root K F Ad H a d
/-- a new object that nobody else knows -/
def DO (K : PySem.W.Frag) : DRel := fun H0 F Ad H v d => ∃ a, v = .ref a ∧ F a = none ∧ a ∉ Ad ∧ H0 a = none ∧ Root K F Ad H a d
/-- the wish of an exception as it lies -/
def XOk (K : PySem.W.Frag) (F : Hp) (Ad : List Addr) (H : Hp) (x : Xc) (cls : Value) (dx : Option Addr) : Prop :=
  cls = .ref (He.ga K x.c) ∧ match dx with
    | none => x.fs = []
    | some d => ∃ vs, H d = some (.xd vs) ∧ DenF K F Ad vs x.fs
/-- what a result asks of the end -/
def RP (K : PySem.W.Frag) (E : XK) (DR : DRel) (F : Hp) (Ad : List Addr) (H : Hp) (Q : VK) : R → Prop
  | .ok d M' => ∀ v F' Ad' H', Gr F Ad H F' Ad' H' → MemOk K F' Ad' M' H' → DR H F' Ad' H' v d → Q v H'
  | .exc x M' => ∀ cls dx F' Ad' H', Gr F Ad H F' Ad' H' → MemOk K F' Ad' M' H' → XOk K F' Ad' H' x cls dx → E cls dx H'
  | .stuck => False
abbrev DRelL := Hp → List Addr → Hp → List V → List D → Prop
def RPL (K : PySem.W.Frag) (E : XK) (DL : DRelL) (F : Hp) (Ad : List Addr) (H : Hp) (Q : List V → Hp → Prop) : RL → Prop
  | .ok d M' => ∀ v F' Ad' H', Gr F Ad H F' Ad' H' → MemOk K F' Ad' M' H' → DL F' Ad' H' v d → Q v H'
  | .exc x M' => ∀ cls dx F' Ad' H', Gr F Ad H F' Ad' H' → MemOk K F' Ad' M' H' → XOk K F' Ad' H' x cls dx → E cls dx H'
  | .stuck => False
/-- DR stays under growth of the heap ahead -/
def DRok (DR : DRel) : Prop := ∀ F0 Ad0 H0 F Ad H F' Ad' H' v d, Gr F0 Ad0 H0 F Ad H → DR H F' Ad' H' v d → DR H0 F' Ad' H' v d
theorem DE.ok {K} : DRok (DE K) := fun _ _ _ _ _ _ _ _ _ _ _ _ h => h
theorem DB.ok {K} : DRok (DB K) := fun _ _ _ _ _ _ _ _ _ _ _ _ h => h
theorem DO.ok {K} : DRok (DO K) := fun _ _ H0 _ _ H _ _ _ _ _ g ⟨a, h1, h2, h3, h4, h5⟩ => ⟨a, h1, h2, h3, by
  cases q : H0 a with
  | none => rfl
  | some o => exact absurd h4 (g.alive a (by rw [q]; simp)), h5⟩
/-- a list of values that stay; that are looked at -/
def DLE (K : PySem.W.Frag) : DRelL := fun F Ad _ vs ds => DenL K F Ad vs ds
inductive DLB (K : PySem.W.Frag) (F : Hp) (Ad : List Addr) (H : Hp) : List V → List D → Prop
  | nil : DLB K F Ad H [] []
  | cons {v d vs ds} : DB K H F Ad H v d → DLB K F Ad H vs ds → DLB K F Ad H (v :: vs) (d :: ds)
section
variable {K : PySem.W.Frag} {E : XK} {DR : DRel} {DL : DRelL} {F F1 H H1 : Hp} {Ad Ad1 : List Addr} {Q : VK}
theorem RP.gr {r : R} (dr : DRok DR) (h : RP K E DR F Ad H Q r) (g : Gr F Ad H F1 Ad1 H1) : RP K E DR F1 Ad1 H1 Q r := by
  cases r with
  | ok d M => exact fun v F' Ad' H' g' m x => h v F' Ad' H' (g.trans g') m (dr _ _ _ _ _ _ _ _ _ _ _ g x)
  | exc x M => exact fun c dx F' Ad' H' g' m z => h c dx F' Ad' H' (g.trans g') m z
  | stuck => exact h
theorem RPL.gr {r : RL} {Q : List V → Hp → Prop} (h : RPL K E DL F Ad H Q r) (g : Gr F Ad H F1 Ad1 H1) : RPL K E DL F1 Ad1 H1 Q r := by
  cases r with
  | ok d M => exact fun v F' Ad' H' g' m x => h v F' Ad' H' (g.trans g') m x
  | exc x M => exact fun c dx F' Ad' H' g' m z => h c dx F' Ad' H' (g.trans g') m z
  | stuck => exact h
theorem DB.gr {v d H0 H0'} (g : Gr F Ad H F1 Ad1 H1) (h : DB K H0 F Ad H v d) : DB K H0' F1 Ad1 H1 v d := by
  rcases h with h | ⟨a, e, n, na, r⟩
  · exact .inl (h.mono g.fle g.pre)
  · obtain ⟨o, ho, _⟩ := r.obj
    exact .inr ⟨a, e, g.fnew a n (by rw [ho]; simp), g.notin (by rw [ho]; simp) na, r.gr g na⟩
theorem DLB.gr (g : Gr F Ad H F1 Ad1 H1) : ∀ {vs ds}, DLB K F Ad H vs ds → DLB K F1 Ad1 H1 vs ds
  | _, _, .nil => .nil
  | _, _, .cons h r => .cons (DB.gr g h) (DLB.gr g r)
theorem DLB.of : ∀ {vs ds}, DenL K F Ad vs ds → DLB K F Ad H vs ds
  | _, _, .nil => .nil
  | _, _, .cons h r => .cons (.inl h) (DLB.of r)
end

/-! ### what an expression is -/
def tG (K : PySem.W.Frag) (W : WX) (DR : DRel) (f : EF) : TE := fun σ H Q => ∃ N0 F Ad M env, MemOk K F Ad M H ∧ EnvOk K N0 F Ad H σ env ∧ RP K (fun c d H => W c d σ H) DR F Ad H Q (f env M)
def tL (K : PySem.W.Frag) (W : WX) (DL : DRelL) (f : LF) : TA := fun σ H Q => ∃ N0 F Ad M env, MemOk K F Ad M H ∧ EnvOk K N0 F Ad H σ env ∧ RPL K (fun c d H => W c d σ H) DL F Ad H Q (f env M)
abbrev SE (X : Cx) (W : WX) (e : Expr) (f : EF) : Prop := PE X e (tG X.K W (DE X.K) f)
abbrev SB (X : Cx) (W : WX) (e : Expr) (f : EF) : Prop := PE X e (tG X.K W (DB X.K) f)
abbrev SO (X : Cx) (W : WX) (e : Expr) (f : EF) : Prop := PE X e (tG X.K W (DO X.K) f)
abbrev SL (X : Cx) (W : WX) (es : List Expr) (f : LF) : Prop := PA X es (tL X.K W (DLE X.K) f)
abbrev SLB (X : Cx) (W : WX) (es : List Expr) (f : LF) : Prop := PA X es (tL X.K W (DLB X.K) f)
theorem PE.imp {X : Cx} {e : Expr} {t u : TE} (h : PE X e t) (i : ∀ σ H Q, u σ H Q → t σ H Q) : PE X e u := ⟨fun pins s σ H Q I q => h.run pins s σ H Q I (i σ H Q q)⟩
theorem PA.imp {X : Cx} {e : List Expr} {t u : TA} (h : PA X e t) (i : ∀ σ H Q, u σ H Q → t σ H Q) : PA X e u := ⟨fun pos pins s σ H Q I q => h.run pos pins s σ H Q I (i σ H Q q)⟩
theorem PT.imp {X : Cx} {e : Expr} {t u : TT} (h : PT X e t) (i : ∀ σ H Q, u σ H Q → t σ H Q) : PT X e u := ⟨fun pins s σ H Q I q => h.run pins s σ H Q I (i σ H Q q)⟩
theorem PW.imp {X : Cx} {e : Expr} {t u : TT} (h : PW X e t) (i : ∀ σ H Q, u σ H Q → t σ H Q) : PW X e u := ⟨fun w pins s σ H Q I q => h.run w pins s σ H Q I (i σ H Q q)⟩
theorem PS.imp {X : Cx} {e : Stmt} {t u : TS} (h : PS X e t) (i : ∀ D σ H, u D σ H → t D σ H) : PS X e u := ⟨fun pins s σ H D I q => h.run pins s σ H D I (i D σ H q)⟩
theorem PSs.imp {X : Cx} {e : List Stmt} {t u : TS} (h : PSs X e t) (i : ∀ D σ H, u D σ H → t D σ H) : PSs X e u := ⟨fun pins s σ H D I q => h.run pins s σ H D I (i D σ H q)⟩
section
variable {K : PySem.W.Frag} {W : WX} {DR' : DRel} {DL : DRelL} {N0 : Ent} {F : Hp} {Ad : List Addr} {M : List D} {env : EnvM} {σ : St} {H : Hp}
/-- one part, then the rest: P is what the rest's result must meet -/
theorem tG_of {f : EF} {Q' : VK} (m : MemOk K F Ad M H) (e : EnvOk K N0 F Ad H σ env) (hx : ∀ x M1, f env M = .exc x M1 → RP K (fun c d H => W c d σ H) DR' F Ad H Q' (.exc x M1)) (hs : f env M ≠ .stuck)
    (hq : ∀ d M1, f env M = .ok d M1 → ∀ v F1 Ad1 H1, Gr F Ad H F1 Ad1 H1 → MemOk K F1 Ad1 M1 H1 → EnvOk K N0 F1 Ad1 H1 σ env → DR' H F1 Ad1 H1 v d → Q' v H1) : tG K W DR' f σ H Q' := by
  refine ⟨N0, F, Ad, M, env, m, e, ?_⟩
  cases q : f env M with
  | ok d M1 => exact fun v F' Ad' H' g m' x => hq d M1 q v F' Ad' H' g m' (e.gr g) x
  | exc x M1 => exact hx x M1 q
  | stuck => exact absurd q hs
theorem tG_seq {DR : DRel} {f : EF} {k : D → List D → R} {Q : VK} (dr : DRok DR) (m : MemOk K F Ad M H) (e : EnvOk K N0 F Ad H σ env)
    (h : RP K (fun c d H => W c d σ H) DR F Ad H Q ((f env M).bind k)) {Q' : VK}
    (hq : ∀ d M1 v F1 Ad1 H1, Gr F Ad H F1 Ad1 H1 → MemOk K F1 Ad1 M1 H1 → EnvOk K N0 F1 Ad1 H1 σ env → DR' H F1 Ad1 H1 v d → RP K (fun c d H => W c d σ H) DR F1 Ad1 H1 Q (k d M1) → Q' v H1) : tG K W DR' f σ H Q' := by
  refine ⟨N0, F, Ad, M, env, m, e, ?_⟩
  cases q : f env M with
  | ok d M1 => rw [q] at h; exact fun v F' Ad' H' g m' x => hq d M1 v F' Ad' H' g m' (e.gr g) x (RP.gr dr h g)
  | exc x M1 => rw [q] at h; exact h
  | stuck => rw [q] at h; exact h
theorem tL_seq {DR : DRel} {f : LF} {k : List D → List D → R} {Q : VK} (dr : DRok DR) (m : MemOk K F Ad M H) (e : EnvOk K N0 F Ad H σ env)
    (h : RP K (fun c d H => W c d σ H) DR F Ad H Q ((f env M).bind k)) {Q' : List V → Hp → Prop}
    (hq : ∀ d M1 v F1 Ad1 H1, Gr F Ad H F1 Ad1 H1 → MemOk K F1 Ad1 M1 H1 → EnvOk K N0 F1 Ad1 H1 σ env → DL F1 Ad1 H1 v d → RP K (fun c d H => W c d σ H) DR F1 Ad1 H1 Q (k d M1) → Q' v H1) : tL K W DL f σ H Q' := by
  refine ⟨N0, F, Ad, M, env, m, e, ?_⟩
  cases q : f env M with
  | ok d M1 => rw [q] at h; exact fun v F' Ad' H' g m' x => hq d M1 v F' Ad' H' g m' (e.gr g) x (RP.gr dr h g)
  | exc x M1 => rw [q] at h; exact h
  | stuck => rw [q] at h; exact h
theorem tG_seqL {f : EF} {k : D → List D → RL} {Q : List V → Hp → Prop} (m : MemOk K F Ad M H) (e : EnvOk K N0 F Ad H σ env)
    (h : RPL K (fun c d H => W c d σ H) DL F Ad H Q ((f env M).bindL k)) {Q' : VK}
    (hq : ∀ d M1 v F1 Ad1 H1, Gr F Ad H F1 Ad1 H1 → MemOk K F1 Ad1 M1 H1 → EnvOk K N0 F1 Ad1 H1 σ env → DR' H F1 Ad1 H1 v d → RPL K (fun c d H => W c d σ H) DL F1 Ad1 H1 Q (k d M1) → Q' v H1) : tG K W DR' f σ H Q' := by
  refine ⟨N0, F, Ad, M, env, m, e, ?_⟩
  cases q : f env M with
  | ok d M1 => rw [q] at h; exact fun v F' Ad' H' g m' x => hq d M1 v F' Ad' H' g m' (e.gr g) x (RPL.gr h g)
  | exc x M1 => rw [q] at h; exact h
  | stuck => rw [q] at h; exact h
theorem tL_seqL {DL' : DRelL} {f : LF} {k : List D → List D → RL} {Q : List V → Hp → Prop} (m : MemOk K F Ad M H) (e : EnvOk K N0 F Ad H σ env)
    (h : RPL K (fun c d H => W c d σ H) DL F Ad H Q ((f env M).bindL k)) {Q' : List V → Hp → Prop}
    (hq : ∀ d M1 v F1 Ad1 H1, Gr F Ad H F1 Ad1 H1 → MemOk K F1 Ad1 M1 H1 → EnvOk K N0 F1 Ad1 H1 σ env → DL' F1 Ad1 H1 v d → RPL K (fun c d H => W c d σ H) DL F1 Ad1 H1 Q (k d M1) → Q' v H1) : tL K W DL' f σ H Q' := by
  refine ⟨N0, F, Ad, M, env, m, e, ?_⟩
  cases q : f env M with
  | ok d M1 => rw [q] at h; exact fun v F' Ad' H' g m' x => hq d M1 v F' Ad' H' g m' (e.gr g) x (RPL.gr h g)
  | exc x M1 => rw [q] at h; exact h
  | stuck => rw [q] at h; exact h
end
end MP

set_option maxRecDepth 100000
set_option maxHeartbeats 1000000
namespace MP
open PySem PySem.Spec PyProof.Rows L2
section
variable {X : Cx} {W : WX} {K : PySem.W.Frag} {E : XK} {DR : DRel} {N0 : Ent} {H0 F H : Hp} {Ad : List Addr} {M : List D} {env : EnvM} {σ : St} {Q : VK}

theorem RP.here {v d} (h : RP K E DR F Ad H Q (.ok d M)) (m : MemOk K F Ad M H) (x : DR H F Ad H v d) : Q v H := h v F Ad H Gr.refl m x
/-- a new object is laid and stays: the frozen part grows -/
theorem mem_new {p : Addr} {o : HO} (m : MemOk K F Ad M H) (hp : H p = none) : MemOk K (upd F p o) Ad M (upd H p o) := by
  have hF : F p = none := by
    cases q : F p with
    | none => rfl
    | some u => rw [m.sub p u q] at hp; cases hp
  refine ⟨fun a u h => ?_, m.len, m.nd, fun n a d h1 h2 => ?_⟩
  · by_cases e : a = p
    · subst e; rw [upd_same] at h ⊢; exact h
    · rw [upd_ne e] at h ⊢; exact m.sub a u h
  · obtain ⟨f, r⟩ := m.cel n a d h1 h2
    obtain ⟨u, hu, _⟩ := r.obj
    have e : a ≠ p := fun e => by rw [e, hp] at hu; cases hu
    refine ⟨by rw [upd_ne e]; exact f, r.mono (fun b u hb => ?_) (fun _ _ h => h) (by rw [upd_ne e])⟩
    by_cases eb : b = p
    · subst eb; rw [hF] at hb; cases hb
    · rw [upd_ne eb]; exact hb
theorem fle_new {p : Addr} {o : HO} (h : F p = none) : FLe F (upd F p o) := fun b u hb => by
  by_cases eb : b = p
  · subst eb; rw [h] at hb; cases hb
  · rw [upd_ne eb]; exact hb
theorem MemOk.none (m : MemOk K F Ad M H) {p : Addr} (hp : H p = Option.none) : F p = Option.none := by
  cases q : F p with
  | none => rfl
  | some u => rw [m.sub p u q] at hp; cases hp
theorem MemOk.notin (m : MemOk K F Ad M H) {p : Addr} (hp : H p = Option.none) : p ∉ Ad := fun z => by
  obtain ⟨n, hn, e⟩ := List.mem_iff_getElem.mp z
  have h1 : Ad[n]? = some p := by rw [List.getElem?_eq_getElem hn, e]
  have h2 : n < M.length := by rw [← m.len]; exact hn
  obtain ⟨_, r⟩ := m.cel n p M[n] h1 (List.getElem?_eq_getElem h2)
  obtain ⟨o, ho, _⟩ := r.obj
  rw [hp] at ho; cases ho
theorem gr_new {p : Addr} {o : HO} (m : MemOk K F Ad M H) (hp : H p = none) : Gr F Ad H (upd F p o) Ad (upd H p o) := by
  refine ⟨fle_new (m.none hp), fun a h h' => ?_, ⟨[], by simp, by simp⟩, fun a u h _ _ => ?_, fun a h => ?_⟩
  · rw [upd_ne (fun e => h' (by rw [e]; exact hp))]; exact h
  · rw [upd_ne (fun e => by rw [e, hp] at h; cases h)]; exact h
  · rw [upd_ne (fun e => h (by rw [e]; exact hp))]; exact h
/-- the same, an own object: the frozen part stays -/
theorem mem_own {p : Addr} {o : HO} (m : MemOk K F Ad M H) (hp : H p = none) : MemOk K F Ad M (upd H p o) := by
  refine ⟨fun a u h => ?_, m.len, m.nd, fun n a d h1 h2 => ?_⟩
  · rw [upd_ne (fun e => by rw [e, m.none hp] at h; cases h)]; exact m.sub a u h
  · obtain ⟨f, r⟩ := m.cel n a d h1 h2
    obtain ⟨u, hu, _⟩ := r.obj
    have e : a ≠ p := fun e => by rw [e, hp] at hu; cases hu
    exact ⟨f, r.mono (FLe.refl F) (fun _ _ h => h) (by rw [upd_ne e])⟩
theorem gr_own {p : Addr} {o : HO} (hp : H p = none) : Gr F Ad H F Ad (upd H p o) := by
  refine ⟨FLe.refl F, fun a h _ => h, ⟨[], by simp, by simp⟩, fun a u h _ _ => ?_, fun a h => ?_⟩
  · rw [upd_ne (fun e => by rw [e, hp] at h; cases h)]; exact h
  · rw [upd_ne (fun e => h (by rw [e]; exact hp))]; exact h
/-- a new tuple, a new list that stays -/
theorem RP.newTup {vs ds} {p : Addr} (h : RP K E (DE K) F Ad H Q (.ok (.tup ds) M)) (m : MemOk K F Ad M H) (x : DenL K F Ad vs ds) (hp : H p = none) : Q (.ref p) (upd H p (.tup vs)) :=
  h _ _ _ _ (gr_new m hp) (mem_new m hp) (.tup upd_same (x.mono (fle_new (m.none hp)) fun _ _ h => h))
theorem RP.newLst {vs ds} {p : Addr} (h : RP K E (DE K) F Ad H Q (.ok (.lst ds) M)) (m : MemOk K F Ad M H) (x : DenL K F Ad vs ds) (hp : H p = none) : Q (.ref p) (upd H p (.lst vs)) :=
  h _ _ _ _ (gr_new m hp) (mem_new m hp) (.lst upd_same (x.mono (fle_new (m.none hp)) fun _ _ h => h))
theorem RP.newDT {vs ds} {p : Addr} (h : RP K E (DE K) F Ad H Q (.ok (.dT ds) M)) (m : MemOk K F Ad M H) (x : DenT K F Ad vs ds) (hp : H p = none) : Q (.ref p) (upd H p (.dT vs)) :=
  h _ _ _ _ (gr_new m hp) (mem_new m hp) (.dT (by rw [upd_same]; rfl) (x.mono (fle_new (m.none hp)) fun _ _ h => h))
theorem RP.newDK {vs ds} {p : Addr} (h : RP K E (DE K) F Ad H Q (.ok (.dK ds) M)) (m : MemOk K F Ad M H) (x : DenK K F Ad vs ds) (hp : H p = none) : Q (.ref p) (upd H p (.dK vs)) :=
  h _ _ _ _ (gr_new m hp) (mem_new m hp) (.dK (by rw [upd_same]; rfl) (x.mono (fle_new (m.none hp)) fun _ _ h => h))
/-- an own list -/
theorem RP.ownLst {vs ds} {p : Addr} (h : RP K E (DO K) F Ad H Q (.ok (.lst ds) M)) (m : MemOk K F Ad M H) (x : DenL K F Ad vs ds) (hp : H p = none) : Q (.ref p) (upd H p (.lst vs)) :=
  h _ _ _ _ (gr_own hp) (mem_own m hp) ⟨p, rfl, m.none hp, m.notin hp, hp, .lst upd_same x⟩
theorem RP.ownDT {vs ds} {p : Addr} (h : RP K E (DO K) F Ad H Q (.ok (.dT ds) M)) (m : MemOk K F Ad M H) (x : DenT K F Ad vs ds) (hp : H p = none) : Q (.ref p) (upd H p (.dT vs)) :=
  h _ _ _ _ (gr_own hp) (mem_own m hp) ⟨p, rfl, m.none hp, m.notin hp, hp, .dT upd_same x⟩
theorem RP.ownDK {vs ds} {p : Addr} (h : RP K E (DO K) F Ad H Q (.ok (.dK ds) M)) (m : MemOk K F Ad M H) (x : DenK K F Ad vs ds) (hp : H p = none) : Q (.ref p) (upd H p (.dK vs)) :=
  h _ _ _ _ (gr_own hp) (mem_own m hp) ⟨p, rfl, m.none hp, m.notin hp, hp, .dK upd_same x⟩

/-- an own object is frozen -/
theorem freeze {F0 H0' : Hp} {Ad0 : List Addr} {v d} (g : Gr F0 Ad0 H0' F Ad H) (m : MemOk K F Ad M H) (h : DO K H0' F Ad H v d) : ∃ F', Gr F0 Ad0 H0' F' Ad H ∧ MemOk K F' Ad M H ∧ Den K F' Ad v d ∧ FLe F F' ∧ ∀ b, F b = none → v ≠ .ref b → F' b = none := by
  obtain ⟨a, rfl, n, na, n0, r⟩ := h
  obtain ⟨o, ho, _⟩ := r.obj
  have fl : FLe F (upd F a o) := fle_new n
  refine ⟨upd F a o, ⟨g.fle.trans fl, fun b h1 h2 => ?_, g.apre, g.keep, g.alive⟩, ⟨fun b u h => ?_, m.len, m.nd, fun k b e h1 h2 => ?_⟩, ?_, fl, fun b hb ne => ?_⟩
  · rw [upd_ne (fun e => h2 (by rw [e]; exact n0))]; exact g.fnew b h1 h2
  · by_cases e : b = a
    · subst e; rw [upd_same] at h; cases h; exact ho
    · rw [upd_ne e] at h; exact m.sub b u h
  · obtain ⟨f, q⟩ := m.cel k b e h1 h2
    have ne : b ≠ a := fun z => na (z ▸ List.mem_of_getElem? h1)
    exact ⟨by rw [upd_ne ne]; exact f, q.mono fl (fun _ _ h => h) rfl⟩
  · cases r with
    | lst h r => rw [h] at ho; cases ho; exact .lst upd_same (r.mono fl fun _ _ h => h)
    | dK h r => rw [h] at ho; cases ho; exact .dK (by rw [upd_same]; rfl) (r.mono fl fun _ _ h => h)
    | dT h r => rw [h] at ho; cases ho; exact .dT (by rw [upd_same]; rfl) (r.mono fl fun _ _ h => h)
    | ins h r => rw [h] at ho; cases ho; exact .ins upd_same (r.mono fl fun _ _ h => h)
  · rw [upd_ne (fun e => ne (by rw [e]))]; exact hb
theorem SO.e {e : Expr} {f : EF} (h : SO X W e f) : SE X W e f := PE.imp h fun σ H Q ⟨N0, F, Ad, M, env, m, en, r⟩ => ⟨N0, F, Ad, M, env, m, en, by
  cases q : f env M with
  | ok d M1 =>
    rw [q] at r
    intro v F' Ad' H' g m' x
    obtain ⟨F2, g2, m2, x2, _⟩ := freeze g m' x
    exact r v F2 Ad' H' g2 m2 x2
  | exc x M1 => rw [q] at r; exact r
  | stuck => rw [q] at r; exact r⟩
theorem SE.b {e : Expr} {f : EF} (h : SE X W e f) : SB X W e f := PE.imp h fun σ H Q ⟨N0, F, Ad, M, env, m, en, r⟩ => ⟨N0, F, Ad, M, env, m, en, by
  cases q : f env M with
  | ok d M1 => rw [q] at r; exact fun v F' Ad' H' g m' x => r v F' Ad' H' g m' (.inl x)
  | exc x M1 => rw [q] at r; exact r
  | stuck => rw [q] at r; exact r⟩
/-- a new object becomes a shared one -/
def eCell (f : EF) : EF := fun env M => (f env M).bind fun d M1 => .ok (.cel M1.length) (M1 ++ [d])
theorem SO.cell {e : Expr} {f : EF} (h : SO X W e f) : SE X W e (eCell f) := PE.imp h fun σ H Q ⟨N0, F, Ad, M, env, m, en, r⟩ => ⟨N0, F, Ad, M, env, m, en, by
  unfold eCell at r
  cases q : f env M with
  | ok d M1 =>
    rw [q] at r
    rintro v F' Ad' H' g m' ⟨a, rfl, n, na, n0, x⟩
    obtain ⟨more, e1, e2⟩ := g.apre
    obtain ⟨o, ho, _⟩ := x.obj
    have pre : ∀ (k : Nat) (b : Addr), Ad'[k]? = some b → (Ad' ++ [a])[k]? = some b := fun k b h => by
      rw [List.getElem?_append_left (List.getElem?_eq_some_iff.mp h).1]; exact h
    have hl : (Ad' ++ [a])[M1.length]? = some a := by
      rw [← m'.len, List.getElem?_append_right (Nat.le_refl _)]; simp
    refine r (.ref a) F' (Ad' ++ [a]) H' ⟨g.fle, g.fnew, ⟨more ++ [a], by rw [e1, List.append_assoc], fun b hb => ?_⟩, g.keep, g.alive⟩ ⟨m'.sub, by simp [m'.len], ?_, fun k b d' h1 h2 => ?_⟩ (.cel hl)
    · rcases List.mem_append.mp hb with z | z
      · exact e2 b z
      · simp at z; subst z; exact n0
    · rw [List.nodup_append]
      exact ⟨m'.nd, by simp, fun x hx y hy => by simp at hy; subst hy; exact fun z => na (z ▸ hx)⟩
    · by_cases hk : k < Ad'.length
      · rw [List.getElem?_append_left hk] at h1
        rw [List.getElem?_append_left (by rw [← m'.len]; exact hk)] at h2
        obtain ⟨f1, q1⟩ := m'.cel k b d' h1 h2
        exact ⟨f1, q1.mono (FLe.refl _) pre rfl⟩
      · have hk2 : k = Ad'.length := by
          have := (List.getElem?_eq_some_iff.mp h1).1
          simp at this; omega
        subst hk2
        rw [m'.len, hl] at h1
        rw [m'.len] at h2
        simp at h1 h2
        subst h1; subst h2
        exact ⟨n, x.mono (FLe.refl _) pre rfl⟩
  | exc x M1 => rw [q] at r; exact r
  | stuck => rw [q] at r; exact r⟩

/-! ### names and constants -/
def eC (d : D) : EF := fun _ M => .ok d M
theorem se_int {i j pos} : SE X W (.Constant (.int i) j pos) (eC (.int i)) := PE.imp pe_int fun _ _ _ ⟨_, _, _, _, _, m, _, h⟩ => RP.here h m .int
theorem se_bl {i j pos} : SE X W (.Constant (.bool i) j pos) (eC (.bl i)) := PE.imp pe_bl fun _ _ _ ⟨_, _, _, _, _, m, _, h⟩ => RP.here h m .bl
theorem se_non {j pos} : SE X W (.Constant .none j pos) (eC .non) := PE.imp pe_non fun _ _ _ ⟨_, _, _, _, _, m, _, h⟩ => RP.here h m .non
theorem se_str {i j pos} : SE X W (.Constant (.str i) j pos) (eC (.str i)) := PE.imp pe_str fun _ _ _ ⟨_, _, _, _, _, m, _, h⟩ => RP.here h m .str
theorem se_globI {x : Str} {i : Int} {pos} (hg : Gl X x) (hm : ∃ t, X.mg x = some (.int i t)) (hd : (x == ("__debug__" : Str)) = false := by decide) : SE X W (.Name x pos) (eC (.int i)) := by
  obtain ⟨t, e⟩ := hm
  exact PE.imp (pe_glob (v := .int i) hg e ⟨t, rfl⟩ hd) fun _ _ _ ⟨_, _, _, _, _, m, _, h⟩ => RP.here h m .int
theorem se_globS {x : Str} {i : Str} {pos} (hg : Gl X x) (hm : ∃ t, X.mg x = some (.str i t)) (hd : (x == ("__debug__" : Str)) = false := by decide) : SE X W (.Name x pos) (eC (.str i)) := by
  obtain ⟨t, e⟩ := hm
  exact PE.imp (pe_glob (v := .str i) hg e ⟨t, rfl⟩ hd) fun _ _ _ ⟨_, _, _, _, _, m, _, h⟩ => RP.here h m .str
def eV (i : Nat) : EF := fun env M => match env[i]? with | some (.shr d) => .ok d M | _ => .stuck
def eVB (i : Nat) : EF := fun env M => match env[i]? with | some (.shr d) => .ok d M | some (.own d) => .ok d M | some (.slf d) => .ok d M | _ => .stuck
theorem se_var {i : Nat} {x : Str} {pos : Pos} (hN : X.N[i]? = some x) (hv : Vis X.env.scope x) (hd : (x == ("__debug__" : Str)) = false := by decide) (hcd : (x == ("__classdict__" : Str)) = false := by decide) : SE X W (.Name x pos) (eV i) :=
  PE.imp (pe_var hN hv hd hcd) fun σ H Q ⟨N0, F, Ad, M, env, m, en, r⟩ => by
    unfold eV at r
    split at r
    · rename_i d e
      obtain ⟨v, h1, h2⟩ := en.shr i d e
      exact ⟨v, h1, RP.here r m h2⟩
    · exact r.elim
theorem sb_var {i : Nat} {x : Str} {pos : Pos} (hN : X.N[i]? = some x) (hv : Vis X.env.scope x) (hd : (x == ("__debug__" : Str)) = false := by decide) (hcd : (x == ("__classdict__" : Str)) = false := by decide) : SB X W (.Name x pos) (eVB i) :=
  PE.imp (pe_var hN hv hd hcd) fun σ H Q ⟨N0, F, Ad, M, env, m, en, r⟩ => by
    unfold eVB at r
    split at r
    · rename_i d e
      obtain ⟨v, h1, h2⟩ := en.shr i d e
      exact ⟨v, h1, RP.here r m (.inl h2)⟩
    · rename_i d e
      obtain ⟨a, h1, h2, h3, h4, h5⟩ := en.own i d e
      exact ⟨.ref a, h1, RP.here r m (.inr ⟨a, rfl, h2, h3, h5⟩)⟩
    · rename_i d e
      obtain ⟨h0, h1, h2, h3, h4, h5, h6⟩ := en.slf i d e
      exact ⟨.ref _, h1, RP.here r m (.inr ⟨_, rfl, h2, h3, h5⟩)⟩
    · exact r.elim

/-! ### operators -/
/-- a shared object is looked up -/
def view (M : List D) : D → D
  | .cel n => (M[n]?).getD (.cel n)
  | d => d
/-- a two-place operation over values: g tells it over data -/
def Op2 (X : Cx) (DR : DRel) (f : Value → Value → Sem Value) (g : D → D → List D → R) : Prop :=
  ∀ (pins : List (Addr × Obj)) (s : Shared) (σ : St) (H F : Hp) (Ad : List Addr) (M : List D) (E : XK) (x y : V) (v u : Value) (dx dy : D) (Q : VK), Inv X pins σ H s → MemOk X.K F Ad M H → RelV x v → RelV y u → DB X.K H F Ad H x dx → DB X.K H F Ad H y dy →
    RP X.K E DR F Ad H Q (g dx dy M) → wpAny (model X.prog X.w) X.A (f v u) (EP X pins σ Q) X.xe s
def e2 (g : D → D → List D → R) (a b : EF) : EF := fun env M => (a env M).bind fun x M1 => (b env M1).bind fun y M2 => g x y M2
theorem s_bin {DR : DRel} (dr : DRok DR) {op : Operator} {g : D → D → List D → R} {a b : Expr} {fa fb : EF} {pos : Pos} (ho : Op2 X DR (binaryOp op) g) (ha : SB X W a fa) (hb : SB X W b fb) : PE X (.BinOp a op b pos) (tG X.K W DR (e2 g fa fb)) := by
  refine ⟨fun pins s σ H Q I ⟨N0, F, Ad, M, env, m, en, r⟩ => ?_⟩
  refine wpAny_BinOp (binT (R := fun x y H2 => ∃ F2 Ad2 M2 dx dy, MemOk X.K F2 Ad2 M2 H2 ∧ DB X.K H2 F2 Ad2 H2 x dx ∧ DB X.K H2 F2 Ad2 H2 y dy ∧ RP X.K (fun c d H => W c d σ H) DR F2 Ad2 H2 Q (g dx dy M2)) ha hb I ?_ ?_)
  · refine tG_seq dr m en r fun d M1 v F1 Ad1 H1 g1 m1 en1 x1 r1 => ?_
    refine tG_seq dr m1 en1 r1 fun d2 M2 v2 F2 Ad2 H2 g2 m2 en2 x2 r2 => ?_
    exact ⟨F2, Ad2, M2, d, d2, m2, DB.gr g2 x1, x2, r2⟩
  · rintro v u s2 x y H2 I2 rx ry ⟨F2, Ad2, M2, dx, dy, m2, x1, x2, r2⟩
    exact ho pins s2 σ H2 F2 Ad2 M2 _ x y v u dx dy Q I2 m2 rx ry x1 x2 r2
theorem s_pc {DR : DRel} (dr : DRok DR) {op : CmpOp} {g : D → D → List D → R} {a b : Expr} {fa fb : EF} (ho : Op2 X DR (compareOp op) g) (ha : SB X W a fa) (hb : SB X W b fb) : PC X op a b (tG X.K W DR (e2 g fa fb)) := by
  refine ⟨fun pins s σ H Q I ⟨N0, F, Ad, M, env, m, en, r⟩ => ?_⟩
  refine binT (R := fun x y H2 => ∃ F2 Ad2 M2 dx dy, MemOk X.K F2 Ad2 M2 H2 ∧ DB X.K H2 F2 Ad2 H2 x dx ∧ DB X.K H2 F2 Ad2 H2 y dy ∧ RP X.K (fun c d H => W c d σ H) DR F2 Ad2 H2 Q (g dx dy M2)) ha hb I ?_ ?_
  · refine tG_seq dr m en r fun d M1 v F1 Ad1 H1 g1 m1 en1 x1 r1 => ?_
    refine tG_seq dr m1 en1 r1 fun d2 M2 v2 F2 Ad2 H2 g2 m2 en2 x2 r2 => ?_
    exact ⟨F2, Ad2, M2, d, d2, m2, DB.gr g2 x1, x2, r2⟩
  · rintro v u s2 x y H2 I2 rx ry ⟨F2, Ad2, M2, dx, dy, m2, x1, x2, r2⟩
    exact ho pins s2 σ H2 F2 Ad2 M2 _ x y v u dx dy Q I2 m2 rx ry x1 x2 r2
theorem s_cmp {DR : DRel} (dr : DRok DR) {op : CmpOp} {g : D → D → List D → R} {a b : Expr} {fa fb : EF} {pos : Pos} (ho : Op2 X DR (compareOp op) g) (ha : SB X W a fa) (hb : SB X W b fb) (hm : behindInMarks op b = false) : PE X (.Compare a [op] [b] pos) (tG X.K W DR (e2 g fa fb)) :=
  pe_cmp (s_pc dr ho ha hb) hm
/-- a one-place one -/
def Op1 (X : Cx) (DR : DRel) (f : Value → Sem Value) (g : D → List D → R) : Prop :=
  ∀ (pins : List (Addr × Obj)) (s : Shared) (σ : St) (H F : Hp) (Ad : List Addr) (M : List D) (E : XK) (x : V) (v : Value) (dx : D) (Q : VK), Inv X pins σ H s → MemOk X.K F Ad M H → RelV x v → DB X.K H F Ad H x dx →
    RP X.K E DR F Ad H Q (g dx M) → wpAny (model X.prog X.w) X.A (f v) (EP X pins σ Q) X.xe s
def e1 (g : D → List D → R) (a : EF) : EF := fun env M => (a env M).bind g
theorem s_un {DR : DRel} (dr : DRok DR) {op : UnaryOp} {g : D → List D → R} {a : Expr} {fa : EF} {pos : Pos} (ho : Op1 X DR (unaryOp op) g) (ha : SB X W a fa) : PE X (.UnaryOp op a pos) (tG X.K W DR (e1 g fa)) := by
  refine ⟨fun pins s σ H Q I ⟨N0, F, Ad, M, env, m, en, r⟩ => ?_⟩
  refine UnaryOp_ (thn (ha.run pins s σ H _ I (tG_seq (Q' := fun v H1 => ∃ F1 Ad1 M1 d, MemOk X.K F1 Ad1 M1 H1 ∧ DB X.K H1 F1 Ad1 H1 v d ∧ RP X.K (fun c d H => W c d σ H) DR F1 Ad1 H1 Q (g d M1)) dr m en r fun d M1 v F1 Ad1 H1 g1 m1 en1 x1 r1 => ⟨F1, Ad1, M1, d, m1, x1, r1⟩)) fun u s1 ⟨x, H1, I1, rx, F1, Ad1, M1, d, m1, x1, r1⟩ => ?_)
  exact ho pins s1 σ H1 F1 Ad1 M1 _ x u d Q I1 m1 rx x1 r1
end
end MP

set_option maxRecDepth 100000
set_option maxHeartbeats 1000000
namespace MP
open PySem PySem.Spec PyProof.Rows L2
section
variable {X : Cx} {W : WX} {K : PySem.W.Frag} {E : XK} {DR : DRel} {N0 : Ent} {H0 F H : Hp} {Ad : List Addr} {M : List D} {env : EnvM} {σ : St} {Q : VK} {x : V}
/-! ### how data lies -/
/-- a value that is looked at now, a shared object too -/
def DV (K : PySem.W.Frag) (F : Hp) (Ad : List Addr) (H : Hp) (v : V) (d : D) : Prop := Den K F Ad v d ∨ ∃ a, v = .ref a ∧ Root K F Ad H a d
theorem DB.view (m : MemOk K F Ad M H) {d} (h : DB K H0 F Ad H x d) : DV K F Ad H x (view M d) := by
  cases d with
  | cel n =>
    rcases h with h | ⟨a, e, nn, na, r⟩
    · cases h with
      | @cel a _ h =>
        have hn : n < M.length := by rw [← m.len]; exact (List.getElem?_eq_some_iff.mp h).1
        have e2 : M[n]? = some M[n] := List.getElem?_eq_getElem hn
        obtain ⟨f, r⟩ := m.cel n a M[n] h e2
        show DV K F Ad H (.ref a) ((M[n]?).getD (.cel n))
        rw [e2]
        exact .inr ⟨a, rfl, r⟩
    · cases r
  | _ =>
    rcases h with h | ⟨a, e, nn, na, r⟩
    · exact .inl h
    · exact .inr ⟨a, e, r⟩
theorem DV.int {i} (h : DV K F Ad H x (.int i)) : x = .int i := by
  rcases h with h | ⟨a, e, r⟩
  · cases h; rfl
  · cases r
theorem DV.bl {i} (h : DV K F Ad H x (.bl i)) : x = .bl i := by
  rcases h with h | ⟨a, e, r⟩
  · cases h; rfl
  · cases r
theorem DV.str {i} (h : DV K F Ad H x (.str i)) : x = .str i := by
  rcases h with h | ⟨a, e, r⟩
  · cases h; rfl
  · cases r
theorem DV.non (h : DV K F Ad H x .non) : x = .non := by
  rcases h with h | ⟨a, e, r⟩
  · cases h; rfl
  · cases r
theorem sqT_sub (m : MemOk K F Ad M H) {a vs} (h : SqT K F a vs) : SqT K H a vs := by
  rcases h with (h | ⟨o, h⟩) | h
  · exact .inl (.inl (m.sub a _ h))
  · exact .inl (.inr ⟨o, m.sub a _ h⟩)
  · exact .inr h
theorem sqL_sub (m : MemOk K F Ad M H) {a vs} (h : SqL K F a vs) : SqL K H a vs := by
  rcases h with (h | ⟨o, h⟩) | h
  · exact .inl (.inl (m.sub a _ h))
  · exact .inl (.inr ⟨o, m.sub a _ h⟩)
  · exact .inr h
theorem DV.tup (m : MemOk K F Ad M H) {ds} (h : DV K F Ad H x (.tup ds)) : ∃ a vs, x = .ref a ∧ H a = some (.tup vs) ∧ DenL K F Ad vs ds := by
  rcases h with h | ⟨a, e, r⟩
  · cases h with | tup h r => exact ⟨_, _, rfl, m.sub _ _ h, r⟩
  · cases r
theorem DV.ktp (m : MemOk K F Ad M H) {ds} (h : DV K F Ad H x (.ktp ds)) : ∃ a vs, x = .ref a ∧ SqT K H a vs ∧ DenL K F Ad vs ds := by
  rcases h with h | ⟨a, e, r⟩
  · cases h with | ktp h r => exact ⟨_, _, rfl, sqT_sub m h, r⟩
  · cases r
theorem DV.lst (m : MemOk K F Ad M H) {ds} (h : DV K F Ad H x (.lst ds)) : ∃ a vs, x = .ref a ∧ H a = some (.lst vs) ∧ DenL K F Ad vs ds := by
  rcases h with h | ⟨a, e, r⟩
  · cases h with | lst h r => exact ⟨_, _, rfl, m.sub _ _ h, r⟩
  · cases r with | lst h r => exact ⟨_, _, e, h, r⟩
theorem DV.scr (m : MemOk K F Ad M H) {ns} (h : DV K F Ad H x (.scr ns)) : ∃ a, x = .ref a ∧ SqL K H a (ns.map V.int) := by
  rcases h with h | ⟨a, e, r⟩
  · cases h with | scr h => exact ⟨_, rfl, sqL_sub m h⟩
  · cases r
theorem DV.ins (m : MemOk K F Ad M H) {c ds} (h : DV K F Ad H x (.ins c ds)) : ∃ a dx vs, x = .ref a ∧ H a = some (.ins (He.ga K c) dx vs) ∧ DenF K F Ad vs ds := by
  rcases h with h | ⟨a, e, r⟩
  · cases h with | ins h r => exact ⟨_, _, _, rfl, m.sub _ _ h, r⟩
  · cases r with | ins h r => exact ⟨_, _, _, e, h, r⟩
theorem DV.den {d} (h : DV K F Ad H x d) (n : ∀ a, ¬ Root K F Ad H a d) : Den K F Ad x d := by
  rcases h with h | ⟨a, e, r⟩
  · exact h
  · exact absurd r (n a)

/-! ### operators on ints, texts, tuples, lists -/
def oAdd (x y : D) (M : List D) : R := match view M x, view M y with
  | .int i, .int j => .ok (.int (i + j)) M
  | .str a, .str b => if a.length + b.length ≤ sizeLine then .ok (.str (a ++ b)) M else .stuck
  | .tup a, .tup b => if a.length + b.length ≤ sizeLine then .ok (.tup (a ++ b)) M else .stuck
  | .lst a, .lst b => if a.length + b.length ≤ sizeLine then .ok (.lst (a ++ b)) M else .stuck
  | _, _ => .stuck
theorem op2_add : Op2 X (DE X.K) (binaryOp .Add) oAdd := by
  intro pins s σ H F Ad M E x y v u dx dy Q I m rx ry hx hy r
  have ax := DB.view m hx
  have ay := DB.view m hy
  unfold oAdd at r
  revert r ax ay
  generalize view M dx = ex
  generalize view M dy = ey
  intro r ax ay
  split at r
  · exact op_add pins s σ H x y v u Q I rx ry ⟨_, _, ax.int, ay.int, RP.here r m .int⟩
  · rename_i a b
    split at r
    · rename_i h; exact op_add_str pins s σ H x y v u Q I rx ry ⟨_, _, ax.str, ay.str, h, RP.here r m .str⟩
    · exact r.elim
  · rename_i a b
    split at r
    · rename_i h
      obtain ⟨p, vs, rfl, h1, d1⟩ := ax.tup m
      obtain ⟨q, ws, rfl, h2, d2⟩ := ay.tup m
      have l1 := d1.length
      have l2 := d2.length
      refine op_catA pins s σ H _ _ v u Q I rx ry ⟨p, q, vs, ws, rfl, rfl, SqT.of h1, SqT.of h2, by omega, fun e => ?_, fun e e2 => ?_, fun e e2 c hc => ?_⟩
      · subst e; cases d1; exact RP.here r m (ay.den fun _ h => nomatch h)
      · subst e2; cases d2; rw [List.append_nil] at r; exact RP.here r m (ax.den fun _ h => nomatch h)
      · exact RP.newTup r m (d1.append d2) hc
    · exact r.elim
  · rename_i a b
    split at r
    · rename_i h
      obtain ⟨p, vs, rfl, h1, d1⟩ := ax.lst m
      obtain ⟨q, ws, rfl, h2, d2⟩ := ay.lst m
      have l1 := d1.length
      have l2 := d2.length
      refine op_cat pins s σ H _ _ v u Q I rx ry ⟨p, q, vs, ws, rfl, rfl, h1, h2, by omega, fun c hc => RP.newLst r m (d1.append d2) hc⟩
    · exact r.elim
  · exact r.elim
/-- an operation on two ints -/
theorem op2_int {f : Value → Value → Sem Value} {C : Int → Int → Prop} [DecidableRel C] {g : Int → Int → Int} (h : OpR X f (rI C fun i j => .int (g i j))) :
    Op2 X (DE X.K) f (fun x y M => match view M x, view M y with | .int i, .int j => if C i j then .ok (.int (g i j)) M else .stuck | _, _ => .stuck) := by
  intro pins s σ H F Ad M E x y v u dx dy Q I m rx ry hx hy r
  have ax := DB.view m hx
  have ay := DB.view m hy
  dsimp only at r
  revert r ax ay
  generalize view M dx = ex
  generalize view M dy = ey
  intro r ax ay
  split at r
  · rename_i i j
    split at r
    · rename_i hc; exact h pins s σ H x y v u Q I rx ry ⟨i, j, ax.int, ay.int, hc, RP.here r m .int⟩
    · exact r.elim
  · exact r.elim
def oSub (x y : D) (M : List D) : R := match view M x, view M y with | .int i, .int j => .ok (.int (i - j)) M | _, _ => .stuck
theorem op2_sub : Op2 X (DE X.K) (binaryOp .Sub) oSub := by
  intro pins s σ H F Ad M E x y v u dx dy Q I m rx ry hx hy r
  have ax := DB.view m hx
  have ay := DB.view m hy
  unfold oSub at r
  revert r ax ay
  generalize view M dx = ex
  generalize view M dy = ey
  intro r ax ay
  split at r
  · exact op_sub pins s σ H x y v u Q I rx ry ⟨_, _, ax.int, ay.int, RP.here r m .int⟩
  · exact r.elim
/-- one factor small, said so that the kernel can't count it off -/
def CMulB (i j : Int) : Prop := i.natAbs / 9223372036854775808 = 0 ∨ j.natAbs / 9223372036854775808 = 0
instance : DecidableRel CMulB := fun i j => by unfold CMulB; exact inferInstance
theorem small_of {i : Int} (h : i.natAbs / 9223372036854775808 = 0) : -(2 ^ 64) < i ∧ i < 2 ^ 64 := by
  have h1 : i.natAbs < 9223372036854775808 := (Nat.div_eq_zero_iff_lt (by decide)).mp h
  have e : (2 : Int) ^ 64 = 18446744073709551616 := by decide
  rw [e]; omega
theorem CMulB.c {i j : Int} (h : CMulB i j) : CMul i j := by
  rcases h with h | h
  · exact .inl (small_of h)
  · exact .inr (small_of h)
instance : DecidableRel CDivW := fun i j => by unfold CDivW; exact inferInstance
instance : DecidableRel CPow := fun i j => by unfold CPow; exact inferInstance
def oMul (x y : D) (M : List D) : R := match view M x, view M y with | .int i, .int j => if CMulB i j then .ok (.int (i * j)) M else .stuck | _, _ => .stuck
def oDiv (x y : D) (M : List D) : R := match view M x, view M y with | .int i, .int j => if CDivW i j then .ok (.int (i / j)) M else .stuck | _, _ => .stuck
def oMod (x y : D) (M : List D) : R := match view M x, view M y with | .int i, .int j => if 0 < j then .ok (.int (i % j)) M else .stuck | _, _ => .stuck
def oPow (x y : D) (M : List D) : R := match view M x, view M y with | .int i, .int j => if CPow i j then .ok (.int (i ^ j.toNat)) M else .stuck | _, _ => .stuck
theorem op2_mul : Op2 X (DE X.K) (binaryOp .Mult) oMul := op2_int (C := CMulB) fun pins s σ H x y v u Q I rx ry ⟨i, j, e1, e2, hc, q⟩ => op_mul pins s σ H x y v u Q I rx ry ⟨i, j, e1, e2, hc.c, q⟩
theorem op2_div : Op2 X (DE X.K) (binaryOp .FloorDiv) oDiv := op2_int op_fdivW
theorem op2_mod : Op2 X (DE X.K) (binaryOp .Mod) oMod := op2_int (C := fun _ j => 0 < j) op_mod
theorem op2_pow : Op2 X (DE X.K) (binaryOp .Pow) oPow := op2_int op_pow
def oNeg (x : D) (M : List D) : R := match view M x with | .int i => .ok (.int (-i)) M | _ => .stuck
theorem op1_neg : Op1 X (DE X.K) (unaryOp .USub) oNeg := by
  intro pins s σ H F Ad M E x v dx Q I m rx hx r
  have ax := DB.view m hx
  unfold oNeg at r
  revert r ax
  generalize view M dx = ex
  intro r ax
  split at r
  · exact un_neg pins s σ H x v Q I rx ⟨_, ax.int, RP.here r m .int⟩
  · exact r.elim

/-! ### comparisons -/
/-- the ints of a tuple of ints -/
def intsOf : List D → Option (List Int)
  | [] => some []
  | .int i :: r => (intsOf r).map (i :: ·)
  | _ :: _ => none
theorem DenL.ints : ∀ {vs ds ns}, DenL K F Ad vs ds → intsOf ds = some ns → vs = ns.map V.int
  | _, _, ns, .nil, e => by simp [intsOf] at e; subst e; rfl
  | _, _, ns, .cons (d := d) h r, e => by
    cases d with
    | int i =>
      simp only [intsOf, Option.map_eq_some_iff] at e
      obtain ⟨ms, e1, rfl⟩ := e
      cases h
      simp [DenL.ints r e1]
    | _ => simp [intsOf] at e
def oLt (x y : D) (M : List D) : R := match view M x, view M y with
  | .int i, .int j => .ok (.bl (decide (i < j))) M
  | .tup a, .tup b => (match intsOf a, intsOf b with
    | some ns, some ms => .ok (.bl (HT.lexLt ns ms)) M
    | _, _ => .stuck)
  | _, _ => .stuck
theorem op2_lt (hu : X.A.units < cLine) : Op2 X (DE X.K) (compareOp .Lt) oLt := by
  intro pins s σ H F Ad M E x y v u dx dy Q I m rx ry hx hy r
  have ax := DB.view m hx
  have ay := DB.view m hy
  unfold oLt at r
  revert r ax ay
  generalize view M dx = ex
  generalize view M dy = ey
  intro r ax ay
  split at r
  · exact op_lt pins s σ H x y v u Q I rx ry ⟨_, _, ax.int, ay.int, RP.here r m .bl⟩
  · rename_i a b
    split at r
    · rename_i ns ms e1 e2
      obtain ⟨p, vs, rfl, h1, d1⟩ := ax.tup m
      obtain ⟨q, ws, rfl, h2, d2⟩ := ay.tup m
      rw [d1.ints e1] at h1
      rw [d2.ints e2] at h2
      exact op_ltT hu pins s σ H _ _ v u Q I rx ry ⟨p, q, ns, ms, rfl, rfl, SqT.of h1, SqT.of h2, RP.here r m .bl⟩
    · exact r.elim
  · exact r.elim
theorem op2_intB {f : Value → Value → Sem Value} {g : Int → Int → Bool} (h : OpR X f (rI0 fun i j => .bl (g i j))) :
    Op2 X (DE X.K) f (fun x y M => match view M x, view M y with | .int i, .int j => .ok (.bl (g i j)) M | _, _ => .stuck) := by
  intro pins s σ H F Ad M E x y v u dx dy Q I m rx ry hx hy r
  have ax := DB.view m hx
  have ay := DB.view m hy
  dsimp only at r
  revert r ax ay
  generalize view M dx = ex
  generalize view M dy = ey
  intro r ax ay
  split at r
  · exact h pins s σ H x y v u Q I rx ry ⟨_, _, ax.int, ay.int, RP.here r m .bl⟩
  · exact r.elim
def oLe (x y : D) (M : List D) : R := match view M x, view M y with | .int i, .int j => .ok (.bl (decide (i ≤ j))) M | _, _ => .stuck
def oGt (x y : D) (M : List D) : R := match view M x, view M y with | .int i, .int j => .ok (.bl (decide (j < i))) M | _, _ => .stuck
def oGe (x y : D) (M : List D) : R := match view M x, view M y with | .int i, .int j => .ok (.bl (decide (j ≤ i))) M | _, _ => .stuck
theorem op2_le : Op2 X (DE X.K) (compareOp .LtE) oLe := op2_intB op_le
theorem op2_gt : Op2 X (DE X.K) (compareOp .Gt) oGt := op2_intB op_gt
theorem op2_ge : Op2 X (DE X.K) (compareOp .GtE) oGe := op2_intB op_ge
/-! plain data -/
mutual
def D.pd : D → Option PyData
  | .non => some .none
  | .bl b => some (.bool b)
  | .int i => some (.int i)
  | .str s => some (.str s)
  | .tup ds => (D.pdL ds).map .tuple
  | .lst ds => (D.pdL ds).map .list
  | _ => none
def D.pdL : List D → Option (List PyData)
  | [] => some []
  | d :: ds => match D.pd d, D.pdL ds with
    | some p, some ps => some (p :: ps)
    | _, _ => none
end
section
variable {M : List D}
mutual
theorem Den.dp (m : MemOk K F Ad M H) : ∀ {v d p}, Den K F Ad v d → d.pd = some p → Dp K H v p
  | _, _, p, .non, e => by simp [D.pd] at e; subst e; exact .non
  | _, _, p, .bl, e => by simp [D.pd] at e; subst e; exact .bl _
  | _, _, p, .int, e => by simp [D.pd] at e; subst e; exact .int _
  | _, _, p, .str, e => by simp [D.pd] at e; subst e; exact .str _
  | _, _, p, .tup h r, e => by
    simp only [D.pd, Option.map_eq_some_iff] at e
    obtain ⟨ps, e1, rfl⟩ := e
    exact .tup (SqT.of (m.sub _ _ h)) (r.dp m e1)
  | _, _, p, .lst h r, e => by
    simp only [D.pd, Option.map_eq_some_iff] at e
    obtain ⟨ps, e1, rfl⟩ := e
    exact .lst (SqL.of (m.sub _ _ h)) (r.dp m e1)
  | _, _, p, .scr _, e => by simp [D.pd] at e
  | _, _, p, .ktp _ _, e => by simp [D.pd] at e
  | _, _, p, .dK _ _, e => by simp [D.pd] at e
  | _, _, p, .dT _ _, e => by simp [D.pd] at e
  | _, _, p, .ins _ _, e => by simp [D.pd] at e
  | _, _, p, .cel _, e => by simp [D.pd] at e
theorem DenL.dp (m : MemOk K F Ad M H) : ∀ {vs ds ps}, DenL K F Ad vs ds → D.pdL ds = some ps → DpAll K H vs ps
  | _, _, ps, .nil, e => by simp [D.pdL] at e; subst e; exact .nil
  | _, _, ps, .cons h r, e => by
    simp only [D.pdL] at e
    split at e
    · rename_i p qs e1 e2
      cases e
      exact .cons (h.dp m e1) (r.dp m e2)
    · cases e
end
theorem DV.dp (m : MemOk K F Ad M H) {v d p} (h : DV K F Ad H v d) (e : d.pd = some p) : Dp K H v p := by
  rcases h with h | ⟨a, rfl, r⟩
  · exact h.dp m e
  · cases r with
    | lst h r =>
      simp only [D.pd, Option.map_eq_some_iff] at e
      obtain ⟨ps, e1, rfl⟩ := e
      exact .lst (SqL.of h) (r.dp m e1)
    | dK => simp [D.pd] at e
    | dT => simp [D.pd] at e
    | ins => simp [D.pd] at e
end
/-- == over scalars -/
def eqS : D → D → Option Bool
  | .int i, .int j => some (i == j)
  | .str i, .str j => some (i == j)
  | .bl i, .bl j => some (i == j)
  | .non, .non => some true
  | .non, .int _ => some false
  | .int _, .non => some false
  | .str _, .non => some false
  | .non, .str _ => some false
  | .non, .bl _ => some false
  | .bl _, .non => some false
  | .int _, .str _ => some false
  | .str _, .int _ => some false
  | .bl _, .str _ => some false
  | .str _, .bl _ => some false
  | _, _ => none
def eqP (x y : D) : Option Bool := match x.pd, y.pd with
  | some p, some q => if SeqAt.shaped p = true ∧ SeqAt.shaped q = true then some (PyData.eqv p q) else none
  | _, _ => none
def eqD (x y : D) : Option Bool := match eqS x y with
  | some b => some b
  | none => eqP x y
theorem eqS_ok {dx dy : D} {x y : V} {b : Bool} (h : eqS dx dy = some b) (ax : DV K F Ad H x dx) (ay : DV K F Ad H y dy) : scal x y = true ∧ decide (x = y) = b := by
  unfold eqS at h
  split at h
  · cases h; rw [ax.int, ay.int]; exact ⟨rfl, dec_int⟩
  · cases h; rw [ax.str, ay.str]; exact ⟨rfl, dec_str⟩
  · cases h; rw [ax.bl, ay.bl]; exact ⟨rfl, dec_bl⟩
  · cases h; rw [ax.non, ay.non]; exact ⟨rfl, by simp⟩
  · cases h; rw [ax.non, ay.int]; exact ⟨rfl, by simp⟩
  · cases h; rw [ax.int, ay.non]; exact ⟨rfl, by simp⟩
  · cases h; rw [ax.str, ay.non]; exact ⟨rfl, by simp⟩
  · cases h; rw [ax.non, ay.str]; exact ⟨rfl, by simp⟩
  · cases h; rw [ax.non, ay.bl]; exact ⟨rfl, by simp⟩
  · cases h; rw [ax.bl, ay.non]; exact ⟨rfl, by simp⟩
  · cases h; rw [ax.int, ay.str]; exact ⟨rfl, by simp⟩
  · cases h; rw [ax.str, ay.int]; exact ⟨rfl, by simp⟩
  · cases h; rw [ax.bl, ay.str]; exact ⟨rfl, by simp⟩
  · cases h; rw [ax.str, ay.bl]; exact ⟨rfl, by simp⟩
  · cases h
theorem eqP_ok {x y : D} {b : Bool} (h : eqP x y = some b) : ∃ p q, x.pd = some p ∧ y.pd = some q ∧ SeqAt.shaped p = true ∧ SeqAt.shaped q = true ∧ PyData.eqv p q = b := by
  unfold eqP at h
  split at h
  · split at h
    · rename_i h1
      exact ⟨_, _, ‹_›, ‹_›, h1.1, h1.2, Option.some.inj h⟩
    · cases h
  · cases h
def oEq (x y : D) (M : List D) : R := match eqD (view M x) (view M y) with | some b => .ok (.bl b) M | none => .stuck
def oNe (x y : D) (M : List D) : R := match eqD (view M x) (view M y) with | some b => .ok (.bl !b) M | none => .stuck
theorem op2_eq (hu : X.A.units + 64 < cLine) : Op2 X (DE X.K) (compareOp .Eq) oEq := by
  intro pins s σ H F Ad M E x y v u dx dy Q I m rx ry hx hy r
  have ax := DB.view m hx
  have ay := DB.view m hy
  unfold oEq eqD at r
  split at r
  · rename_i b e
    split at e
    · rename_i b' e'
      cases e
      obtain ⟨s1, s2⟩ := eqS_ok e' ax ay
      exact op_eq pins s σ H x y v u Q I rx ry ⟨s1, by rw [s2]; exact RP.here r m .bl⟩
    · obtain ⟨p, q, e1, e2, s1, s2, rfl⟩ := eqP_ok e
      exact op_eqD hu pins s σ H x y v u Q I rx ry ⟨p, q, ax.dp m e1, ay.dp m e2, s1, s2, RP.here r m .bl⟩
  · exact r.elim
theorem op2_ne (hu : X.A.units + 64 < cLine) : Op2 X (DE X.K) (compareOp .NotEq) oNe := by
  intro pins s σ H F Ad M E x y v u dx dy Q I m rx ry hx hy r
  have ax := DB.view m hx
  have ay := DB.view m hy
  unfold oNe eqD at r
  split at r
  · rename_i b e
    split at e
    · rename_i b' e'
      cases e
      obtain ⟨s1, s2⟩ := eqS_ok e' ax ay
      exact op_ne pins s σ H x y v u Q I rx ry ⟨s1, by rw [s2]; exact RP.here r m .bl⟩
    · obtain ⟨p, q, e1, e2, s1, s2, rfl⟩ := eqP_ok e
      exact op_neD hu pins s σ H x y v u Q I rx ry ⟨p, q, ax.dp m e1, ay.dp m e2, s1, s2, RP.here r m .bl⟩
  · exact r.elim
/-- x is None -/
def D.isN : D → Bool | .non => true | _ => false
def oIs (x y : D) (M : List D) : R := match y with | .non => .ok (.bl x.isN) M | _ => .stuck
def oIsnt (x y : D) (M : List D) : R := match y with | .non => .ok (.bl !x.isN) M | _ => .stuck
theorem DB.non (h : DB K H0 F Ad H x .non) : x = .non := by
  rcases h with h | ⟨a, e, n, na, q⟩
  · cases h; rfl
  · cases q
theorem DB.isN {d} (h : DB K H0 F Ad H x d) : decide (x = .non) = d.isN := by
  rcases h with h | ⟨a, e, n, na, r⟩
  · cases h <;> simp [D.isN]
  · subst e; cases r <;> simp [D.isN]
theorem op2_isN : Op2 X (DE X.K) (compareOp .Is) oIs := by
  intro pins s σ H F Ad M E x y v u dx dy Q I m rx ry hx hy r
  unfold oIs at r
  split at r
  · exact op_isN pins s σ H x y v u Q I rx ry ⟨hy.non, by rw [hx.isN]; exact RP.here r m .bl⟩
  · exact r.elim
theorem op2_notN : Op2 X (DE X.K) (compareOp .IsNot) oIsnt := by
  intro pins s σ H F Ad M E x y v u dx dy Q I m rx ry hx hy r
  unfold oIsnt at r
  split at r
  · exact op_notN pins s σ H x y v u Q I rx ry ⟨hy.non, by rw [hx.isN]; exact RP.here r m .bl⟩
  · exact r.elim
end
end MP

set_option maxRecDepth 100000
set_option maxHeartbeats 1000000
namespace MP
open PySem PySem.Spec PyProof.Rows L2
/-! ### tests -/
def RPT (K : PySem.W.Frag) (E : XK) (F : Hp) (Ad : List Addr) (H : Hp) (Q : Bool → Hp → Prop) : R → Prop
  | .ok (.bl b) M' => ∀ F' Ad' H', Gr F Ad H F' Ad' H' → MemOk K F' Ad' M' H' → Q b H'
  | .ok _ _ => False
  | .exc x M' => ∀ cls dx F' Ad' H', Gr F Ad H F' Ad' H' → MemOk K F' Ad' M' H' → XOk K F' Ad' H' x cls dx → E cls dx H'
  | .stuck => False
def tT (K : PySem.W.Frag) (W : WX) (f : EF) : TT := fun σ H Q => ∃ N0 F Ad M env, MemOk K F Ad M H ∧ EnvOk K N0 F Ad H σ env ∧ RPT K (fun c d H => W c d σ H) F Ad H Q (f env M)
abbrev ST (X : Cx) (W : WX) (e : Expr) (f : EF) : Prop := PT X e (tT X.K W f)
abbrev SW (X : Cx) (W : WX) (e : Expr) (f : EF) : Prop := PW X e (tT X.K W f)
def eAnd (a b : EF) : EF := fun env M => (a env M).bind fun x M1 => match x with | .bl true => b env M1 | .bl false => .ok (.bl false) M1 | _ => .stuck
def eOr (a b : EF) : EF := fun env M => (a env M).bind fun x M1 => match x with | .bl true => .ok (.bl true) M1 | .bl false => b env M1 | _ => .stuck
def eNot (a : EF) : EF := fun env M => (a env M).bind fun x M1 => match x with | .bl c => .ok (.bl !c) M1 | _ => .stuck
def eIf (c a b : EF) : EF := fun env M => (c env M).bind fun x M1 => match x with | .bl true => a env M1 | .bl false => b env M1 | _ => .stuck
section
variable {X : Cx} {W : WX} {K : PySem.W.Frag} {E : XK} {DR : DRel} {N0 : Ent} {H0 F F1 H H1 : Hp} {Ad Ad1 : List Addr} {M : List D} {env : EnvM} {σ : St} {Q : VK} {x : V}
theorem RPT.gr {Q : Bool → Hp → Prop} {r : R} (h : RPT K E F Ad H Q r) (g : Gr F Ad H F1 Ad1 H1) : RPT K E F1 Ad1 H1 Q r := by
  cases r with
  | ok d M => cases d with
    | bl b => exact fun F' Ad' H' g' m => h F' Ad' H' (g.trans g') m
    | _ => exact h
  | exc x M => exact fun c dx F' Ad' H' g' m z => h c dx F' Ad' H' (g.trans g') m z
  | stuck => exact h
theorem RPT.here {Q : Bool → Hp → Prop} {b : Bool} (h : RPT K E F Ad H Q (.ok (.bl b) M)) (m : MemOk K F Ad M H) : Q b H := h F Ad H Gr.refl m
theorem tT_seqT {f : EF} {k : D → List D → R} {Q Q' : Bool → Hp → Prop} (m : MemOk K F Ad M H) (e : EnvOk K N0 F Ad H σ env)
    (h : RPT K (fun c d H => W c d σ H) F Ad H Q ((f env M).bind k)) (hn : ∀ d M1, (∀ b, d ≠ .bl b) → k d M1 = .stuck)
    (hq : ∀ b M1 F1 Ad1 H1, Gr F Ad H F1 Ad1 H1 → MemOk K F1 Ad1 M1 H1 → EnvOk K N0 F1 Ad1 H1 σ env → RPT K (fun c d H => W c d σ H) F1 Ad1 H1 Q (k (.bl b) M1) → Q' b H1) : tT K W f σ H Q' := by
  refine ⟨N0, F, Ad, M, env, m, e, ?_⟩
  cases q : f env M with
  | ok d M1 =>
    rw [q] at h
    cases d with
    | bl b => exact fun F' Ad' H' g m' => hq b M1 F' Ad' H' g m' (e.gr g) (RPT.gr h g)
    | _ =>
      rw [R.bind_ok, hn _ M1] at h
      · exact h
      · intro b z; cases z
  | exc x M1 => rw [q] at h; exact h
  | stuck => rw [q] at h; exact h
theorem tT_seqG {f : EF} {k : D → List D → R} {Q : VK} {Q' : Bool → Hp → Prop} (dr : DRok DR) (m : MemOk K F Ad M H) (e : EnvOk K N0 F Ad H σ env)
    (h : RP K (fun c d H => W c d σ H) DR F Ad H Q ((f env M).bind k)) (hn : ∀ d M1, (∀ b, d ≠ .bl b) → k d M1 = .stuck)
    (hq : ∀ b M1 F1 Ad1 H1, Gr F Ad H F1 Ad1 H1 → MemOk K F1 Ad1 M1 H1 → EnvOk K N0 F1 Ad1 H1 σ env → RP K (fun c d H => W c d σ H) DR F1 Ad1 H1 Q (k (.bl b) M1) → Q' b H1) : tT K W f σ H Q' := by
  refine ⟨N0, F, Ad, M, env, m, e, ?_⟩
  cases q : f env M with
  | ok d M1 =>
    rw [q] at h
    cases d with
    | bl b => exact fun F' Ad' H' g m' => hq b M1 F' Ad' H' g m' (e.gr g) (RP.gr dr h g)
    | _ =>
      rw [R.bind_ok, hn _ M1] at h
      · exact h
      · intro b z; cases z
  | exc x M1 => rw [q] at h; exact h
  | stuck => rw [q] at h; exact h
variable {a b c : Expr} {fa fb fc : EF} {pos : Pos} {rest : List Expr}
/-- an expression as a test -/
theorem st_val (h : SE X W a fa) (he : ∀ whole, isTrue a X.env whole = (do let v ← whole; standAt a.pos; holding [v] (truthy v)) := by intro _; rfl) : ST X W a fa :=
  PT.imp (pt_val h he) fun σ H Q ⟨N0, F, Ad, M, env, m, en, r⟩ => ⟨N0, F, Ad, M, env, m, en, by
    cases q : fa env M with
    | ok d M1 =>
      rw [q] at r
      intro v F' Ad' H' g m' x
      cases d with
      | bl b => cases x; exact ⟨b, rfl, r F' Ad' H' g m'⟩
      | _ => exact r.elim
    | exc x M1 => rw [q] at r; exact r
    | stuck => rw [q] at r; exact r⟩
theorem st_cmp {op : CmpOp} {g : D → D → List D → R} (ho : Op2 X (DE X.K) (compareOp op) g) (ha : SB X W a fa) (hb : SB X W b fb) (hm : behindInMarks op b = false) : ST X W (.Compare a [op] [b] pos) (e2 g fa fb) :=
  PT.imp (pt_cmp (s_pc DE.ok ho ha hb) hm) fun σ H Q ⟨N0, F, Ad, M, env, m, en, r⟩ => ⟨N0, F, Ad, M, env, m, en, by
    cases q : e2 g fa fb env M with
    | ok d M1 =>
      rw [q] at r
      intro v F' Ad' H' g m' x
      cases d with
      | bl b => cases x; exact ⟨b, rfl, r F' Ad' H' g m'⟩
      | _ => exact r.elim
    | exc x M1 => rw [q] at r; exact r
    | stuck => rw [q] at r; exact r⟩
theorem sw_and1 (h : ST X W a fa) : SW X W (.BoolOp .And [a] pos) fa := pw_and1 h
theorem sw_or1 (h : ST X W a fa) : SW X W (.BoolOp .Or [a] pos) fa := pw_or1 h
theorem sw_and (ha : ST X W a fa) (hb : SW X W (.BoolOp .And (b :: rest) pos) fb) : SW X W (.BoolOp .And (a :: b :: rest) pos) (eAnd fa fb) :=
  PW.imp (pw_and ha hb) fun σ H Q ⟨N0, F, Ad, M, env, m, en, r⟩ => tT_seqT m en r (fun d M1 hd => by cases d <;> first | rfl | exact absurd rfl (hd _)) fun b M1 F1 Ad1 H1 g1 m1 en1 r1 => by
    cases b with
    | true => exact ⟨N0, F1, Ad1, M1, env, m1, en1, r1⟩
    | false => exact RPT.here r1 m1
theorem sw_or (ha : ST X W a fa) (hb : SW X W (.BoolOp .Or (b :: rest) pos) fb) : SW X W (.BoolOp .Or (a :: b :: rest) pos) (eOr fa fb) :=
  PW.imp (pw_or ha hb) fun σ H Q ⟨N0, F, Ad, M, env, m, en, r⟩ => tT_seqT m en r (fun d M1 hd => by cases d <;> first | rfl | exact absurd rfl (hd _)) fun b M1 F1 Ad1 H1 g1 m1 en1 r1 => by
    cases b with
    | true => exact RPT.here r1 m1
    | false => exact ⟨N0, F1, Ad1, M1, env, m1, en1, r1⟩
theorem st_w (h : SW X W a fa) : ST X W a fa := PW.pt h
theorem st_not (ha : ST X W a fa) : ST X W (.UnaryOp .Not a pos) (eNot fa) :=
  PT.imp (pt_not ha) fun σ H Q ⟨N0, F, Ad, M, env, m, en, r⟩ => tT_seqT m en r (fun d M1 hd => by cases d <;> first | rfl | exact absurd rfl (hd _)) fun b M1 F1 Ad1 H1 g1 m1 en1 r1 => RPT.here r1 m1
theorem se_one {op} (h : PE X a (tG X.K W DR fa)) : PE X (.BoolOp op [a] pos) (tG X.K W DR fa) := pe_one h
theorem bl_of {v : V} {x : D} {F Ad} (h : Den K F Ad v x) {b} (e : x = .bl b) : v = .bl b := by subst e; cases h; rfl
theorem se_and (ha : SE X W a fa) (hb : SE X W (.BoolOp .And (b :: rest) pos) fb) : SE X W (.BoolOp .And (a :: b :: rest) pos) (eAnd fa fb) :=
  PE.imp (pe_and ha hb) fun σ H Q ⟨N0, F, Ad, M, env, m, en, r⟩ => tG_seq DE.ok m en r fun d M1 v F1 Ad1 H1 g1 m1 en1 x1 r1 => by
    cases d with
    | bl b =>
      cases x1
      refine ⟨b, rfl, ?_⟩
      cases b with
      | true => exact ⟨N0, F1, Ad1, M1, env, m1, en1, r1⟩
      | false => exact RP.here r1 m1 .bl
    | _ => exact r1.elim
theorem se_or (ha : SE X W a fa) (hb : SE X W (.BoolOp .Or (b :: rest) pos) fb) : SE X W (.BoolOp .Or (a :: b :: rest) pos) (eOr fa fb) :=
  PE.imp (pe_or ha hb) fun σ H Q ⟨N0, F, Ad, M, env, m, en, r⟩ => tG_seq DE.ok m en r fun d M1 v F1 Ad1 H1 g1 m1 en1 x1 r1 => by
    cases d with
    | bl b =>
      cases x1
      refine ⟨b, rfl, ?_⟩
      cases b with
      | true => exact RP.here r1 m1 .bl
      | false => exact ⟨N0, F1, Ad1, M1, env, m1, en1, r1⟩
    | _ => exact r1.elim
theorem se_not (ha : SE X W a fa) : SE X W (.UnaryOp .Not a pos) (eNot fa) :=
  PE.imp (pe_not ha) fun σ H Q ⟨N0, F, Ad, M, env, m, en, r⟩ => tG_seq DE.ok m en r fun d M1 v F1 Ad1 H1 g1 m1 en1 x1 r1 => by
    cases d with
    | bl b => cases x1; exact ⟨b, rfl, RP.here r1 m1 .bl⟩
    | _ => exact r1.elim
theorem s_if (dr : DRok DR) (hc : ST X W c fc) (ha : PE X a (tG X.K W DR fa)) (hb : PE X b (tG X.K W DR fb)) : PE X (.IfExp c a b pos) (tG X.K W DR (eIf fc fa fb)) :=
  PE.imp (pe_ifExp hc ha hb) fun σ H Q ⟨N0, F, Ad, M, env, m, en, r⟩ => tT_seqG dr m en r (fun d M1 hd => by cases d <;> first | rfl | exact absurd rfl (hd _)) fun b M1 F1 Ad1 H1 g1 m1 en1 r1 => by
    cases b with
    | true => exact ⟨N0, F1, Ad1, M1, env, m1, en1, r1⟩
    | false => exact ⟨N0, F1, Ad1, M1, env, m1, en1, r1⟩
/-- the operation as HandS has it -/
def rOp (X : Cx) (E : XK) (DR : DRel) (g : D → D → List D → R) : R2 := fun x y H Q => ∃ F Ad M dx dy, MemOk X.K F Ad M H ∧ DB X.K H F Ad H x dx ∧ DB X.K H F Ad H y dy ∧ RP X.K E DR F Ad H Q (g dx dy M)
theorem Op2.opR {f : Value → Value → Sem Value} {g : D → D → List D → R} (h : Op2 X DR f g) : OpR X f (rOp X E DR g) := fun pins s σ H x y v u Q I rx ry ⟨F, Ad, M, dx, dy, m, hx, hy, r⟩ => h pins s σ H F Ad M E x y v u dx dy Q I m rx ry hx hy r
/-- a op b op' c -/
def eChain (g g' : D → D → List D → R) (a b c : EF) : EF := fun env M => (a env M).bind fun x M1 => (b env M1).bind fun y M2 => (g x y M2).bind fun r M3 => match r with
  | .bl true => (c env M3).bind fun z M4 => g' y z M4
  | .bl false => .ok (.bl false) M3
  | _ => .stuck
theorem se_chain {op op' : CmpOp} {g g' : D → D → List D → R} (ho : Op2 X (DE X.K) (compareOp op) g) (ho' : Op2 X (DE X.K) (compareOp op') g') (ha : SB X W a fa) (hb : SB X W b fb) (hc : SB X W c fc)
    (hp : ∀ (E : St → XK), (∀ σ, OpR X (compareOp op) (rOp X (E σ) (DE X.K) g)) → PE X (.Compare a [op, op'] [b, c] pos) (fun σ H Q => tChain (rOp X (E σ) (DE X.K) g) (rOp X (E σ) (DE X.K) g') (tG X.K W (DB X.K) fa) (tG X.K W (DB X.K) fb) (tG X.K W (DB X.K) fc) σ H Q)) :
    SE X W (.Compare a [op, op'] [b, c] pos) (eChain g g' fa fb fc) := by
  refine PE.imp (hp (fun σ c d H => W c d σ H) fun σ => ho.opR) fun σ H Q ⟨N0, F, Ad, M, env, m, en, r⟩ => ?_
  refine tG_seq DE.ok m en r fun d M1 v F1 Ad1 H1 g1 m1 en1 x1 r1 => ?_
  refine tG_seq DE.ok m1 en1 r1 fun d2 M2 v2 F2 Ad2 H2 g2 m2 en2 x2 r2 => ?_
  refine ⟨F2, Ad2, M2, d, d2, m2, DB.gr g2 x1, x2, ?_⟩
  cases q : g d d2 M2 with
  | ok d3 M3 =>
    rw [q] at r2
    intro v3 F3 Ad3 H3 g3 m3 x3
    have r3 := RP.gr DE.ok r2 g3
    have en3 := en2.gr g3
    cases d3 with
    | bl b =>
      cases x3
      refine ⟨b, rfl, ?_⟩
      cases b with
      | true =>
        refine tG_seq DE.ok m3 en3 r3 fun d4 M4 v4 F4 Ad4 H4 g4 m4 en4 x4 r4 => ?_
        exact ⟨F4, Ad4, M4, d2, d4, m4, DB.gr g4 (DB.gr g3 x2 (H0' := H3)), x4, r4⟩
      | false => exact RP.here r3 m3 .bl
    | _ => exact r3.elim
  | exc x M3 => rw [q] at r2; exact r2
  | stuck => rw [q] at r2; exact r2

/-! ### lists of expressions -/
def lNil : LF := fun _ M => .ok [] M
def lCons (a : EF) (l : LF) : LF := fun env M => (a env M).bindL fun x M1 => (l env M1).bindL fun xs M2 => .ok (x :: xs) M2
variable {e : Expr} {es : List Expr} {f : EF} {l : LF}
theorem sl_nil : SL X W [] lNil := PA.imp pa_nil fun σ H Q ⟨N0, F, Ad, M, env, m, en, r⟩ => r [] F Ad H Gr.refl m .nil
theorem slb_nil : SLB X W [] lNil := PA.imp pa_nil fun σ H Q ⟨N0, F, Ad, M, env, m, en, r⟩ => r [] F Ad H Gr.refl m .nil
theorem sl_cons (ha : SE X W e f) (hr : SL X W es l) (hs : starEach (e :: es) X.env = (false, eval e X.env) :: starEach es X.env := by rfl) : SL X W (e :: es) (lCons f l) :=
  PA.imp (pa_cons ha hr hs) fun σ H Q ⟨N0, F, Ad, M, env, m, en, r⟩ => tG_seqL m en r fun d M1 v F1 Ad1 H1 g1 m1 en1 x1 r1 => tL_seqL m1 en1 r1 fun ds M2 vs F2 Ad2 H2 g2 m2 en2 x2 r2 =>
    r2 (v :: vs) F2 Ad2 H2 Gr.refl m2 (.cons (x1.mono g2.fle g2.pre) x2)
theorem slb_cons (ha : SB X W e f) (hr : SLB X W es l) (hs : starEach (e :: es) X.env = (false, eval e X.env) :: starEach es X.env := by rfl) : SLB X W (e :: es) (lCons f l) :=
  PA.imp (pa_cons ha hr hs) fun σ H Q ⟨N0, F, Ad, M, env, m, en, r⟩ => tG_seqL m en r fun d M1 v F1 Ad1 H1 g1 m1 en1 x1 r1 => tL_seqL m1 en1 r1 fun ds M2 vs F2 Ad2 H2 g2 m2 en2 x2 r2 =>
    r2 (v :: vs) F2 Ad2 H2 Gr.refl m2 (.cons (DB.gr g2 x1) x2)
/-- a tuple, a list -/
def eTup (l : LF) : EF := fun env M => (l env M).bind fun xs M1 => if xs.length ≤ sizeLine then .ok (.tup xs) M1 else .stuck
def eLst (l : LF) : EF := fun env M => (l env M).bind fun xs M1 => if xs.length ≤ sizeLine then .ok (.lst xs) M1 else .stuck
theorem se_tup {k} (h : SL X W es l) : SE X W (.Tuple es k pos) (eTup l) := PE.imp (pe_tup h) fun σ H Q ⟨N0, F, Ad, M, env, m, en, r⟩ => tL_seq DE.ok m en r fun ds M1 vs F1 Ad1 H1 g1 m1 en1 x1 r1 => by
  split at r1
  · rename_i z; exact ⟨by rw [x1.length]; exact z, fun p hp => RP.newTup r1 m1 x1 hp⟩
  · exact r1.elim
theorem so_lst (h : SL X W es l) : SO X W (.List es pos) (eLst l) := PE.imp (pe_lst h) fun σ H Q ⟨N0, F, Ad, M, env, m, en, r⟩ => tL_seq DO.ok m en r fun ds M1 vs F1 Ad1 H1 g1 m1 en1 x1 r1 => by
  split at r1
  · rename_i z; exact ⟨by rw [x1.length]; exact z, fun p hp => RP.ownLst r1 m1 x1 hp⟩
  · exact r1.elim
def eNew (d : D) : EF := fun _ M => .ok d M
theorem so_dK : SO X W (.Dict [] [] pos) (eNew (.dK [])) := PE.imp pe_dnewK fun σ H Q ⟨N0, F, Ad, M, env, m, en, r⟩ p hp => RP.ownDK r m .nil hp
theorem so_dT : SO X W (.Dict [] [] pos) (eNew (.dT [])) := PE.imp pe_dnewT fun σ H Q ⟨N0, F, Ad, M, env, m, en, r⟩ p hp => RP.ownDT r m .nil hp

/-! ### calls of what is built in -/
def CallS (X : Cx) (DR : DRel) (f : Value) (g : List D → List D → R) : Prop :=
  ∀ (pins : List (Addr × Obj)) (s : Shared) (σ : St) (H F : Hp) (Ad : List Addr) (M : List D) (E : XK) (xs : List V) (us : List Value) (ds : List D) (Q : VK), Inv X pins σ H s → MemOk X.K F Ad M H → Vals xs us → DLB X.K F Ad H xs ds →
    RP X.K E DR F Ad H Q (g ds M) → wpAny (model X.prog X.w) X.A (call f us) (EP X pins σ Q) X.xe s
def eCall (g : List D → List D → R) (l : LF) : EF := fun env M => (l env M).bind g
def rC (X : Cx) (E : XK) (DR : DRel) (g : List D → List D → R) : List V → Hp → VK → Prop := fun xs H Q => ∃ F Ad M ds, MemOk X.K F Ad M H ∧ DLB X.K F Ad H xs ds ∧ RP X.K E DR F Ad H Q (g ds M)
theorem s_callB (dr : DRok DR) {id : String} {x : Str} {p : Pos} {g : List D → List D → R} (hc : CallS X DR (.builtin id) g) (hg : Gl X x) (hm : X.mg x = none) (hv : bootBuiltins x = some (.builtin id)) (ha : SLB X W (e :: es) l) (hn : x ≠ "__name__" := by decide) (hdb : (x == ("__debug__" : Str)) = false := by decide)
    (he : starEach (e :: es) X.env = (false, eval e X.env) :: starEach es X.env := by rfl) (hpl : (backTo pos (starEach es X.env)).any (·.1) = false := by rfl) : PE X (.Call (.Name x p) (e :: es) [] pos) (tG X.K W DR (eCall g l)) := by
  refine ⟨fun pins s σ H Q I ⟨N0, F, Ad, M, env, m, en, r⟩ => ?_⟩
  refine wpAny_Call_Name_kw (ld_blt I hg hm hv ?_ hn hdb)
  refine PyProof.Rows.callWith_builtin1 (thn (ha.run pos pins s σ H _ I (tL_seq (Q' := fun vs H1 => rC X (fun c d H => W c d σ H) DR g vs H1 Q) dr m en r fun ds M1 vs F1 Ad1 H1 g1 m1 en1 x1 r1 => ⟨F1, Ad1, M1, ds, m1, x1, r1⟩)) fun us s1 ⟨vs, H1, I1, rv, F1, Ad1, M1, ds, m1, x1, r1⟩ => ?_) he hpl
  exact hc pins s1 σ H1 F1 Ad1 M1 _ vs us ds Q I1 m1 rv x1 r1
theorem s_callTy (dr : DRok DR) {id : String} {x : Str} {p : Pos} {g : List D → List D → R} (hc : CallS X DR (.type id) g) (hg : Gl X x) (hm : X.mg x = none) (hv : bootBuiltins x = some (.type id)) (ha : SLB X W (e :: es) l) (hn : x ≠ "__name__" := by decide) (hdb : (x == ("__debug__" : Str)) = false := by decide)
    (he : starEach (e :: es) X.env = (false, eval e X.env) :: starEach es X.env := by rfl) (hpl : (backTo pos (starEach es X.env)).any (·.1) = false := by rfl) : PE X (.Call (.Name x p) (e :: es) [] pos) (tG X.K W DR (eCall g l)) := by
  refine ⟨fun pins s σ H Q I ⟨N0, F, Ad, M, env, m, en, r⟩ => ?_⟩
  refine wpAny_Call_Name_kw (ld_blt I hg hm hv ?_ hn hdb)
  refine PyProof.Rows.callWith_type1 (thn (ha.run pos pins s σ H _ I (tL_seq (Q' := fun vs H1 => rC X (fun c d H => W c d σ H) DR g vs H1 Q) dr m en r fun ds M1 vs F1 Ad1 H1 g1 m1 en1 x1 r1 => ⟨F1, Ad1, M1, ds, m1, x1, r1⟩)) fun us s1 ⟨vs, H1, I1, rv, F1, Ad1, M1, ds, m1, x1, r1⟩ => ?_) he hpl
  exact hc pins s1 σ H1 F1 Ad1 M1 _ vs us ds Q I1 m1 rv x1 r1
theorem CallS.of {v : Value} {g : List D → List D → R} (h : ∀ (E : XK), CallR X v (rC X E DR g)) : CallS X DR v g := fun pins s σ H F Ad M E xs us ds Q I m rv x r => h E pins s σ H xs us Q I rv ⟨F, Ad, M, ds, m, x, r⟩
theorem DLB.one {vs d} (h : DLB K F Ad H vs [d]) : ∃ v, vs = [v] ∧ DB K H F Ad H v d := by
  cases h with | cons h r => cases r; exact ⟨_, rfl, h⟩
theorem DLB.two {vs d d'} (h : DLB K F Ad H vs [d, d']) : ∃ v v', vs = [v, v'] ∧ DB K H F Ad H v d ∧ DB K H F Ad H v' d' := by
  cases h with | cons h r => obtain ⟨v', rfl, h'⟩ := r.one; exact ⟨_, _, rfl, h, h'⟩
def bLen (ds : List D) (M : List D) : R := match ds with
  | [d] => (match view M d with
    | .lst xs => .ok (.int xs.length) M
    | .tup xs => .ok (.int xs.length) M
    | .ktp xs => .ok (.int xs.length) M
    | .scr xs => .ok (.int xs.length) M
    | .str s => if s.length ≤ sizeLine then .ok (.int s.length) M else .stuck
    | _ => .stuck)
  | _ => .stuck
theorem call_lenS : CallS X (DE X.K) (.builtin "len") bLen := by
  intro pins s σ H F Ad M E xs us ds Q I m rv x r
  unfold bLen at r
  split at r
  · rename_i d
    obtain ⟨v, rfl, hx⟩ := x.one
    have ax := DB.view m hx
    split at r
    · rename_i ys e; rw [e] at ax; obtain ⟨a, vs, rfl, h1, h2⟩ := ax.lst m
      exact call_len pins s σ H _ us Q I rv ⟨_, ys.length, rfl, .inl ⟨vs, SqL.of h1, h2.length.symm⟩, RP.here r m .int⟩
    · rename_i ys e; rw [e] at ax; obtain ⟨a, vs, rfl, h1, h2⟩ := ax.tup m
      exact call_len pins s σ H _ us Q I rv ⟨_, ys.length, rfl, .inr ⟨vs, SqT.of h1, h2.length.symm⟩, RP.here r m .int⟩
    · rename_i ys e; rw [e] at ax; obtain ⟨a, vs, rfl, h1, h2⟩ := ax.ktp m
      exact call_len pins s σ H _ us Q I rv ⟨_, ys.length, rfl, .inr ⟨vs, h1, h2.length.symm⟩, RP.here r m .int⟩
    · rename_i ys e; rw [e] at ax; obtain ⟨a, rfl, h1⟩ := ax.scr m
      exact call_len pins s σ H _ us Q I rv ⟨_, ys.length, rfl, .inl ⟨_, h1, by simp⟩, RP.here r m .int⟩
    · rename_i z e; rw [e] at ax
      split at r
      · rename_i hz; obtain rfl := ax.str; exact call_len pins s σ H _ us Q I rv ⟨_, z.length, rfl, ⟨hz, rfl⟩, RP.here r m .int⟩
      · exact r.elim
    · exact r.elim
  · exact r.elim
def bInt (ds : List D) (M : List D) : R := match ds with
  | [d] => (match view M d with
    | .int i => .ok (.int i) M
    | _ => .stuck)
  | _ => .stuck
theorem call_intS : CallS X (DE X.K) (.type "int") bInt := by
  intro pins s σ H F Ad M E xs us ds Q I m rv x r
  unfold bInt at r
  split at r
  · rename_i d
    obtain ⟨v, rfl, hx⟩ := x.one
    have ax := DB.view m hx
    split at r
    · rename_i i e; rw [e] at ax
      exact call_int1 pins s σ H _ us Q I rv (.inl ⟨i, by rw [ax.int], RP.here r m .int⟩)
    · exact r.elim
  · exact r.elim
def bAbs (ds : List D) (M : List D) : R := match ds with
  | [d] => (match view M d with
    | .int i => .ok (.int (if i < 0 then -i else i)) M
    | _ => .stuck)
  | _ => .stuck
theorem call_absS : CallS X (DE X.K) (.builtin "abs") bAbs := by
  intro pins s σ H F Ad M E xs us ds Q I m rv x r
  unfold bAbs at r
  split at r
  · rename_i d
    obtain ⟨v, rfl, hx⟩ := x.one
    have ax := DB.view m hx
    split at r
    · rename_i i e; rw [e] at ax
      exact call_abs pins s σ H _ us Q I rv ⟨i, by rw [ax.int], RP.here r m .int⟩
    · exact r.elim
  · exact r.elim
/-- max, min: of two, of a list -/
def mx2 (i j : Int) : Int := if j > i then j else i
def mn2 (i j : Int) : Int := if j < i then j else i
def mxL : List Int → Int | [] => 0 | [i] => i | i :: r => max i (mxL r)
def mnL : List Int → Int | [] => 0 | [i] => i | i :: r => min i (mnL r)
theorem mxL_spec : ∀ {ns : List Int} {m : Int}, m ∈ ns → (∀ y, y ∈ ns → y ≤ m) → mxL ns = m
  | [i], m, h, _ => by simp at h; subst h; rfl
  | i :: j :: r, m, h, hm => by
    show max i (mxL (j :: r)) = m
    have hi := hm i (by simp)
    rcases List.mem_cons.mp h with rfl | h
    · have : mxL (j :: r) ≤ m := by
        clear h
        have key : ∀ l : List Int, l ≠ [] → (∀ y, y ∈ l → y ≤ m) → mxL l ≤ m := by
          intro l
          induction l with
          | nil => intro h; exact absurd rfl h
          | cons a t ih =>
            intro _ hl
            cases t with
            | nil => exact hl a (by simp)
            | cons b t => 
              have h1 := ih (by simp) fun y hy => hl y (List.mem_cons_of_mem _ hy)
              have h2 := hl a (by simp)
              show max a (mxL (b :: t)) ≤ m
              omega
        exact key _ (by simp) fun y hy => hm y (List.mem_cons_of_mem _ hy)
      omega
    · rw [mxL_spec h fun y hy => hm y (List.mem_cons_of_mem _ hy)]
      omega
theorem mnL_spec : ∀ {ns : List Int} {m : Int}, m ∈ ns → (∀ y, y ∈ ns → m ≤ y) → mnL ns = m
  | [i], m, h, _ => by simp at h; subst h; rfl
  | i :: j :: r, m, h, hm => by
    show min i (mnL (j :: r)) = m
    have hi := hm i (by simp)
    rcases List.mem_cons.mp h with rfl | h
    · have : m ≤ mnL (j :: r) := by
        clear h
        have key : ∀ l : List Int, l ≠ [] → (∀ y, y ∈ l → m ≤ y) → m ≤ mnL l := by
          intro l
          induction l with
          | nil => intro h; exact absurd rfl h
          | cons a t ih =>
            intro _ hl
            cases t with
            | nil => exact hl a (by simp)
            | cons b t => 
              have h1 := ih (by simp) fun y hy => hl y (List.mem_cons_of_mem _ hy)
              have h2 := hl a (by simp)
              show m ≤ min a (mnL (b :: t))
              omega
        exact key _ (by simp) fun y hy => hm y (List.mem_cons_of_mem _ hy)
      omega
    · rw [mnL_spec h fun y hy => hm y (List.mem_cons_of_mem _ hy)]
      omega
def bMax (ds : List D) (M : List D) : R := match ds with
  | [d, d'] => (match view M d, view M d' with
    | .int i, .int j => .ok (.int (mx2 i j)) M
    | _, _ => .stuck)
  | [d] => (match view M d with
    | .lst xs => (match intsOf xs with
      | some (i :: r) => .ok (.int (mxL (i :: r))) M
      | _ => .stuck)
    | _ => .stuck)
  | _ => .stuck
def bMin (ds : List D) (M : List D) : R := match ds with
  | [d, d'] => (match view M d, view M d' with
    | .int i, .int j => .ok (.int (mn2 i j)) M
    | _, _ => .stuck)
  | [d] => (match view M d with
    | .lst xs => (match intsOf xs with
      | some (i :: r) => .ok (.int (mnL (i :: r))) M
      | _ => .stuck)
    | _ => .stuck)
  | _ => .stuck
theorem call_maxS (hc : X.calm = true) : CallS X (DE X.K) (.builtin "max") bMax := by
  intro pins s σ H F Ad M E xs us ds Q I m rv x r
  unfold bMax at r
  split at r
  · rename_i d d'
    obtain ⟨v, v', rfl, hx, hy⟩ := x.two
    have ax := DB.view m hx
    have ay := DB.view m hy
    split at r
    · rename_i i j e e'; rw [e] at ax; rw [e'] at ay
      exact call_max2 hc pins s σ H _ us Q I rv ⟨i, j, by rw [ax.int, ay.int], RP.here r m .int⟩
    · exact r.elim
  · rename_i d
    obtain ⟨v, rfl, hx⟩ := x.one
    have ax := DB.view m hx
    split at r
    · rename_i ys e; rw [e] at ax; obtain ⟨a, vs, rfl, h1, h2⟩ := ax.lst m
      split at r
      · rename_i i t e2
        refine cr_max hc pins s σ H _ us Q I rv ⟨a, i :: t, rfl, by rw [← h2.ints e2]; exact SqL.of h1, by simp, fun mm h3 h4 => ?_⟩
        rw [← mxL_spec h3 h4]; exact RP.here r m .int
      · exact r.elim
    · exact r.elim
  · exact r.elim
theorem call_minS (hc : X.calm = true) : CallS X (DE X.K) (.builtin "min") bMin := by
  intro pins s σ H F Ad M E xs us ds Q I m rv x r
  unfold bMin at r
  split at r
  · rename_i d d'
    obtain ⟨v, v', rfl, hx, hy⟩ := x.two
    have ax := DB.view m hx
    have ay := DB.view m hy
    split at r
    · rename_i i j e e'; rw [e] at ax; rw [e'] at ay
      exact call_min2 hc pins s σ H _ us Q I rv ⟨i, j, by rw [ax.int, ay.int], RP.here r m .int⟩
    · exact r.elim
  · rename_i d
    obtain ⟨v, rfl, hx⟩ := x.one
    have ax := DB.view m hx
    split at r
    · rename_i ys e; rw [e] at ax; obtain ⟨a, vs, rfl, h1, h2⟩ := ax.lst m
      split at r
      · rename_i i t e2
        refine cr_min hc pins s σ H _ us Q I rv ⟨a, i :: t, rfl, by rw [← h2.ints e2]; exact SqL.of h1, by simp, fun mm h3 h4 => ?_⟩
        rw [← mnL_spec h3 h4]; exact RP.here r m .int
      · exact r.elim
    · exact r.elim
  · exact r.elim
/-- the bools of a list -/
def boolsOf : List D → Option (List Bool)
  | [] => some []
  | .bl i :: r => (boolsOf r).map (i :: ·)
  | _ :: _ => none
theorem DenL.bools : ∀ {vs ds ns}, DenL K F Ad vs ds → boolsOf ds = some ns → vs = ns.map V.bl
  | _, _, ns, .nil, e => by simp [boolsOf] at e; subst e; rfl
  | _, _, ns, .cons (d := d) h r, e => by
    cases d with
    | bl i =>
      simp only [boolsOf, Option.map_eq_some_iff] at e
      obtain ⟨ms, e1, rfl⟩ := e
      cases h
      simp [DenL.bools r e1]
    | _ => simp [boolsOf] at e
def bAll (ds : List D) (M : List D) : R := match ds with
  | [d] => (match view M d with
    | .lst xs => (match boolsOf xs with
      | some bs => .ok (.bl (bs.all id)) M
      | _ => .stuck)
    | _ => .stuck)
  | _ => .stuck
theorem call_allS (hc : X.calm = true) : CallS X (DE X.K) (.builtin "all") bAll := by
  intro pins s σ H F Ad M E xs us ds Q I m rv x r
  unfold bAll at r
  split at r
  · rename_i d
    obtain ⟨v, rfl, hx⟩ := x.one
    have ax := DB.view m hx
    split at r
    · rename_i ys e; rw [e] at ax; obtain ⟨a, vs, rfl, h1, h2⟩ := ax.lst m
      split at r
      · rename_i bs e2
        exact cr_all hc pins s σ H _ us Q I rv ⟨a, bs, rfl, by rw [← h2.bools e2]; exact SqL.of h1, RP.here r m .bl⟩
      · exact r.elim
    · exact r.elim
  · exact r.elim
/-- tuple(list), tuple(tuple) -/
def bTup (ds : List D) (M : List D) : R := match ds with
  | [d] => (match view M d with
    | .lst xs => .ok (.tup xs) M
    | .tup xs => .ok (.tup xs) M
    | _ => .stuck)
  | _ => .stuck
theorem call_tupS : CallS X (DE X.K) (.type "tuple") bTup := by
  intro pins s σ H F Ad M E xs us ds Q I m rv x r
  unfold bTup at r
  split at r
  · rename_i d
    obtain ⟨v, rfl, hx⟩ := x.one
    have ax := DB.view m hx
    split at r
    · rename_i ys e; rw [e] at ax; obtain ⟨a, vs, rfl, h1, h2⟩ := ax.lst m
      exact call_tuple_of pins s σ H _ us Q I rv ⟨a, vs, rfl, .inl ⟨SqL.of h1, fun p hp => RP.newTup r m h2 hp⟩⟩
    · rename_i ys e; rw [e] at ax
      have ad := ax.den (fun _ h => nomatch h)
      obtain ⟨a, vs, rfl, h1, h2⟩ := ax.tup m
      exact call_tuple_of pins s σ H _ us Q I rv ⟨a, vs, rfl, .inr ⟨SqT.of h1, RP.here r m ad⟩⟩
    · exact r.elim
  · exact r.elim
end
end MP

set_option maxRecDepth 100000
set_option maxHeartbeats 1000000
namespace MP
open PySem PySem.Spec PyProof.Rows L2
/-! ### tables -/
section
variable {κ : Type} [DecidableEq κ] {α : Type}
def valK (kvs : List (κ × α)) (k : κ) : Option α := (kvs.find? fun kv => decide (kv.1 = k)).map (·.2)
def insK (kvs : List (κ × α)) (k : κ) (v : α) : List (κ × α) :=
  if (kvs.any fun kv => decide (kv.1 = k)) = true then kvs.map (fun kv => if kv.1 = k then (kv.1, v) else kv) else kvs ++ [(k, v)]
end
def keyD : D → Option Key
  | .int i => some (.inl i)
  | .str s => some (.inr s)
  | _ => none
def keysD : List D → Option (List Key)
  | [] => some []
  | d :: r => match keyD d, keysD r with
    | some k, some ks => some (k :: ks)
    | _, _ => none
section
variable {X : Cx} {W : WX} {K : PySem.W.Frag} {E : XK} {DR : DRel} {N0 : Ent} {H0 F H : Hp} {Ad : List Addr} {M : List D} {env : EnvM} {σ : St} {Q : VK} {x : V}
theorem keyD_v {d : D} {k : Key} (h : Den K F Ad x d) (e : keyD d = some k) : x = kV k := by
  cases h <;> simp [keyD] at e <;> subst e <;> rfl
theorem keysD_v : ∀ {vs : List V} {ds : List D} {ks : List Key}, DenL K F Ad vs ds → keysD ds = some ks → vs = ks.map kV
  | _, _, ks, .nil, e => by simp [keysD] at e; subst e; rfl
  | _, _, ks, .cons h r, e => by
    simp only [keysD] at e
    split at e
    · rename_i k ks' e1 e2
      cases e
      rw [keyD_v h e1, keysD_v r e2]; rfl
    · cases e
theorem DenK.val (k : Key) : ∀ {vs ds}, DenK K F Ad vs ds → (∀ d, valK ds k = some d → ∃ v, valV vs k = some v ∧ Den K F Ad v d) ∧ (valK ds k = none → valV vs k = none)
  | _, _, .nil => ⟨fun _ h => by simp [valK] at h, fun _ => rfl⟩
  | _, _, .cons (k := j) h r => by
    have ih := DenK.val k r
    by_cases e : j = k
    · rw [valV_pos e]
      refine ⟨fun d hd => ?_, fun hd => ?_⟩
      · simp [valK, List.find?_cons, e] at hd; subst hd; exact ⟨_, rfl, h⟩
      · simp [valK, List.find?_cons, e] at hd
    · rw [valV_neg e]
      refine ⟨fun d hd => ih.1 d ?_, fun hd => ih.2 ?_⟩
      · simpa [valK, List.find?_cons, e] using hd
      · simpa [valK, List.find?_cons, e] using hd
theorem DenT.val (k : List Key) : ∀ {vs ds}, DenT K F Ad vs ds → (∀ d, valK ds k = some d → ∃ v, valV vs k = some v ∧ Den K F Ad v d) ∧ (valK ds k = none → valV vs k = none)
  | _, _, .nil => ⟨fun _ h => by simp [valK] at h, fun _ => rfl⟩
  | _, _, .cons (k := j) h r => by
    have ih := DenT.val k r
    by_cases e : j = k
    · rw [valV_pos e]
      refine ⟨fun d hd => ?_, fun hd => ?_⟩
      · simp [valK, List.find?_cons, e] at hd; subst hd; exact ⟨_, rfl, h⟩
      · simp [valK, List.find?_cons, e] at hd
    · rw [valV_neg e]
      refine ⟨fun d hd => ih.1 d ?_, fun hd => ih.2 ?_⟩
      · simpa [valK, List.find?_cons, e] using hd
      · simpa [valK, List.find?_cons, e] using hd
theorem DenK.any (k : Key) : ∀ {vs ds}, DenK K F Ad vs ds → (vs.any fun kv => decide (kv.1 = k)) = (ds.any fun kv => decide (kv.1 = k))
  | _, _, .nil => rfl
  | _, _, .cons _ r => by simp only [List.any_cons]; rw [DenK.any k r]
theorem DenT.any (k : List Key) : ∀ {vs ds}, DenT K F Ad vs ds → (vs.any fun kv => decide (kv.1 = k)) = (ds.any fun kv => decide (kv.1 = k))
  | _, _, .nil => rfl
  | _, _, .cons _ r => by simp only [List.any_cons]; rw [DenT.any k r]
theorem DenK.app {k v d} : ∀ {vs ds}, DenK K F Ad vs ds → Den K F Ad v d → DenK K F Ad (vs ++ [(k, v)]) (ds ++ [(k, d)])
  | _, _, .nil, h => .cons h .nil
  | _, _, .cons q r, h => .cons q (r.app h)
theorem DenT.app {k v d} : ∀ {vs ds}, DenT K F Ad vs ds → Den K F Ad v d → DenT K F Ad (vs ++ [(k, v)]) (ds ++ [(k, d)])
  | _, _, .nil, h => .cons h .nil
  | _, _, .cons q r, h => .cons q (r.app h)
theorem DenK.repl {k v d} : ∀ {vs ds}, DenK K F Ad vs ds → Den K F Ad v d → DenK K F Ad (vs.map fun kv => if kv.1 = k then (kv.1, v) else kv) (ds.map fun kv => if kv.1 = k then (kv.1, d) else kv)
  | _, _, .nil, h => .nil
  | _, _, .cons (k := j) q r, h => by
    simp only [List.map_cons]
    by_cases e : j = k
    · simp only [e, if_true]; exact .cons h (r.repl h)
    · simp only [e, if_false]; exact .cons q (r.repl h)
theorem DenT.repl {k v d} : ∀ {vs ds}, DenT K F Ad vs ds → Den K F Ad v d → DenT K F Ad (vs.map fun kv => if kv.1 = k then (kv.1, v) else kv) (ds.map fun kv => if kv.1 = k then (kv.1, d) else kv)
  | _, _, .nil, h => .nil
  | _, _, .cons (k := j) q r, h => by
    simp only [List.map_cons]
    by_cases e : j = k
    · simp only [e, if_true]; exact .cons h (r.repl h)
    · simp only [e, if_false]; exact .cons q (r.repl h)
theorem DenK.put {k v d vs ds} (h : DenK K F Ad vs ds) (q : Den K F Ad v d) : DenK K F Ad (putK vs k v) (insK ds k d) := by
  unfold putK insK
  rw [h.any k]
  split
  · exact h.repl q
  · exact h.app q
theorem DenT.put {k v d vs ds} (h : DenT K F Ad vs ds) (q : Den K F Ad v d) : DenT K F Ad (putK vs k v) (insK ds k d) := by
  unfold putK insK
  rw [h.any k]
  split
  · exact h.repl q
  · exact h.app q
theorem nrm_dK {o : Option HO} {xs} (h : nrm o = some (.dK xs)) : o = some (.dK xs) ∨ ∃ b, o = some (.frz b (.dK xs)) := by
  unfold nrm at h
  split at h
  · cases h; exact .inr ⟨_, rfl⟩
  · cases h
  · exact .inl h
theorem nrm_dT {o : Option HO} {xs} (h : nrm o = some (.dT xs)) : o = some (.dT xs) ∨ ∃ b, o = some (.frz b (.dT xs)) := by
  unfold nrm at h
  split at h
  · cases h
  · cases h; exact .inr ⟨_, rfl⟩
  · exact .inl h
theorem DV.dK (m : MemOk K F Ad M H) {ds} (h : DV K F Ad H x (.dK ds)) : ∃ a vs, x = .ref a ∧ Rd H a (.dK vs) ∧ DenK K F Ad vs ds := by
  rcases h with h | ⟨a, e, r⟩
  · cases h with
    | dK h r =>
      rcases nrm_dK h with h | ⟨b, h⟩
      · exact ⟨_, _, rfl, .inl (m.sub _ _ h), r⟩
      · exact ⟨_, _, rfl, .inr ⟨b, m.sub _ _ h⟩, r⟩
  · cases r with | dK h r => exact ⟨_, _, e, .inl h, r⟩
theorem DV.dT (m : MemOk K F Ad M H) {ds} (h : DV K F Ad H x (.dT ds)) : ∃ a vs, x = .ref a ∧ Rd H a (.dT vs) ∧ DenT K F Ad vs ds := by
  rcases h with h | ⟨a, e, r⟩
  · cases h with
    | dT h r =>
      rcases nrm_dT h with h | ⟨b, h⟩
      · exact ⟨_, _, rfl, .inl (m.sub _ _ h), r⟩
      · exact ⟨_, _, rfl, .inr ⟨b, m.sub _ _ h⟩, r⟩
  · cases r with | dT h r => exact ⟨_, _, e, .inl h, r⟩
theorem DB.int {i} (h : DB K H0 F Ad H x (.int i)) : x = .int i := by
  rcases h with h | ⟨a, e, n, na, q⟩
  · cases h; rfl
  · cases q
theorem DB.den {d} (h : DB K H0 F Ad H x d) (n : ∀ a, ¬ Root K F Ad H a d) : Den K F Ad x d := by
  rcases h with h | ⟨a, e, _, _, r⟩
  · exact h
  · exact absurd r (n a)
theorem ix_dict (hu : X.A.units + 1 < cLine) : IxR X (fun x y H Q => ∃ a v, x = .ref a ∧ DGet H a y (some v) ∧ Q v H) := by
  intro value slice pins s σ H x y v u Q I rx ry h hs
  obtain ⟨a, z, rfl, g, q⟩ := h
  obtain rfl : v = Value.ref a := rx
  have key : wpAny (model X.prog X.w) X.A (getItem (.ref a) u) (EP X pins σ Q) X.xe s := d_getItem hu I g ry fun w' s3 I3 rw' => ⟨z, H, I3, rw', q⟩
  have T := dict_typeIs I g
  have fin : wpAny (model X.prog X.w) X.A (subscripted slice false (.ref a) u) (fun r s₃ => wpAny (model X.prog X.w) X.A (letTemporaryGo value (.ref a) r >>= fun _ => pure r) (EP X pins σ Q) X.xe s₃) X.xe s := by
    rw [hs]
    refine wpAny_operating ?_
    refine wpAny_mono key (fun r s3 q3 => ?_) fun _ _ z => z
    exact wpAny_bind (wpAny_letTemporaryGo (wpAny_pure q3))
  unfold subscriptTail
  apply wpAny_bind
  rw [getitemInPython_of_ne T.not_modules]
  apply wpAny_bind
  apply wpAny_specialOf T PySem.F.slot_dict_getitem.lookup
  first
    | exact wpAny_pure (wpAny_bind fin)
    | exact wpAny_bind fin
    | exact wpAny_pure fin
/-! ### a[b] -/
def oIx (x y : D) (M : List D) : R := match view M x with
  | .lst xs => (match y with | .int i => (match atI xs i with | some d => .ok d M | none => .stuck) | _ => .stuck)
  | .tup xs => (match y with | .int i => (match atI xs i with | some d => .ok d M | none => .stuck) | _ => .stuck)
  | .ktp xs => (match y with | .int i => (match atI xs i with | some d => .ok d M | none => .stuck) | _ => .stuck)
  | .scr ns => (match y with | .int i => (match atI ns i with | some d => .ok (.int d) M | none => .stuck) | _ => .stuck)
  | .str z => (match y with | .int i => (if z.length ≤ sizeLine then (match atI z.cps.toList i with | some c => .ok (.str ⟨#[c]⟩) M | none => .stuck) else .stuck) | _ => .stuck)
  | .dK kvs => (match keyD y with | some k => (match valK kvs k with | some d => .ok d M | none => .stuck) | none => .stuck)
  | .dT kvs => (match y with | .tup ks => (match keysD ks with | some k => (match valK kvs k with | some d => .ok d M | none => .stuck) | none => .stuck) | _ => .stuck)
  | _ => .stuck
theorem atI_den {vs ds} {i : Int} {d : D} (h : DenL K F Ad vs ds) (e : atI ds i = some d) : ∃ v, atI vs i = some v ∧ Den K F Ad v d := by
  unfold atI at e ⊢
  rw [h.length]
  cases q : ixN ds.length i with
  | none => rw [q] at e; cases e
  | some j =>
    rw [q] at e
    obtain ⟨v, h1, h2⟩ := h.get (i := j) (d := d) e
    exact ⟨v, h1, h2⟩
theorem atI_map {α β : Type} {f : α → β} {ns : List α} {i : Int} {d : α} (e : atI ns i = some d) : atI (ns.map f) i = some (f d) := by
  unfold atI at e ⊢
  rw [List.length_map]
  cases q : ixN ns.length i with
  | none => rw [q] at e; cases e
  | some j =>
    rw [q] at e
    have e : ns[j]? = some d := e
    show (ns.map f)[j]? = some (f d)
    rw [List.getElem?_map, e]; rfl
def rIxAll (X : Cx) : R2 := fun x y H Q => rIxL X.K x y H Q ∨ rIxT X.K x y H Q ∨ rIxS x y H Q ∨ ∃ a v, x = .ref a ∧ DGet H a y (some v) ∧ Q v H
theorem ix_all (hu : X.A.units + 1 < cLine) : IxR X (rIxAll X) := ix_list.or (ix_tup.or (ix_str.or (ix_dict hu)))
theorem oIx_ok {y : V} {dx dy : D} (m : MemOk X.K F Ad M H) (hx : DB X.K H F Ad H x dx) (hy : DB X.K H F Ad H y dy) (r : RP X.K E (DE X.K) F Ad H Q (oIx dx dy M)) : rIxAll X x y H Q := by
  have ax := DB.view m hx
  unfold oIx at r
  revert r ax
  generalize view M dx = ex
  intro r ax
  cases ex with
  | lst xs =>
    dsimp only at r
    split at r
    · rename_i i
      split at r
      · rename_i oo d e
        obtain ⟨a, vs, rfl, h1, d1⟩ := ax.lst m
        obtain ⟨v, e1, e2⟩ := atI_den d1 e
        exact .inl ⟨a, vs, i, v, rfl, hy.int, SqL.of h1, e1, RP.here r m e2⟩
      · exact r.elim
    · exact r.elim
  | tup xs =>
    dsimp only at r
    split at r
    · rename_i i
      split at r
      · rename_i oo d e
        obtain ⟨a, vs, rfl, h1, d1⟩ := ax.tup m
        obtain ⟨v, e1, e2⟩ := atI_den d1 e
        exact .inr (.inl ⟨a, vs, i, v, rfl, hy.int, SqT.of h1, e1, RP.here r m e2⟩)
      · exact r.elim
    · exact r.elim
  | ktp xs =>
    dsimp only at r
    split at r
    · rename_i i
      split at r
      · rename_i oo d e
        obtain ⟨a, vs, rfl, h1, d1⟩ := ax.ktp m
        obtain ⟨v, e1, e2⟩ := atI_den d1 e
        exact .inr (.inl ⟨a, vs, i, v, rfl, hy.int, h1, e1, RP.here r m e2⟩)
      · exact r.elim
    · exact r.elim
  | scr xs =>
    dsimp only at r
    split at r
    · rename_i i
      split at r
      · rename_i oo d e
        obtain ⟨a, rfl, h1⟩ := ax.scr m
        exact .inl ⟨a, _, i, .int d, rfl, hy.int, h1, atI_map e, RP.here r m .int⟩
      · exact r.elim
    · exact r.elim
  | str z =>
    dsimp only at r
    split at r
    · rename_i i
      split at r
      · rename_i hz
        split at r
        · rename_i oo c e
          exact .inr (.inr (.inl ⟨z, i, c, ax.str, hy.int, hz, e, RP.here r m .str⟩))
        · exact r.elim
      · exact r.elim
    · exact r.elim
  | dK kvs =>
    dsimp only at r
    split at r
    · rename_i oo k ek
      split at r
      · rename_i oo2 d e
        obtain ⟨a, vs, rfl, h1, d1⟩ := ax.dK m
        obtain ⟨v, e1, e2⟩ := (d1.val k).1 d e
        have hy' : y = kV k := keyD_v (hy.den (fun a q => by cases q <;> simp [keyD] at ek)) ek
        exact .inr (.inr (.inr ⟨a, v, rfl, .inl ⟨vs, k, h1, hy', e1.symm⟩, RP.here r m e2⟩))
      · exact r.elim
    · exact r.elim
  | dT kvs =>
    dsimp only at r
    split at r
    · rename_i ks
      split at r
      · rename_i oo k ek
        split at r
        · rename_i oo2 d e
          obtain ⟨a, vs, rfl, h1, d1⟩ := ax.dT m
          obtain ⟨v, e1, e2⟩ := (d1.val k).1 d e
          have hd := hy.den (fun a q => nomatch q)
          cases hd with
          | tup h2 d2 =>
            rw [keysD_v d2 ek] at h2
            exact .inr (.inr (.inr ⟨a, v, rfl, .inr ⟨vs, k, _, h1, rfl, m.sub _ _ h2, e1.symm⟩, RP.here r m e2⟩))
        · exact r.elim
      · exact r.elim
    · exact r.elim
  | _ => exact r.elim
variable {a b e : Expr} {fa fb f : EF} {pos p2 : Pos}
theorem s_ix (hu : X.A.units + 1 < cLine) (ha : SB X W a fa) (hb : SB X W b fb) (hs : PlainIx b := by intro _ _; rfl) : SE X W (.Subscript a b pos) (e2 oIx fa fb) :=
  PE.imp (pe_ix (ix_all hu) ha hb hs) fun σ H Q ⟨N0, F, Ad, M, env, m, en, r⟩ =>
    tG_seq DE.ok m en r fun d M1 v F1 Ad1 H1 g1 m1 en1 x1 r1 => tG_seq DE.ok m1 en1 r1 fun d2 M2 v2 F2 Ad2 H2 g2 m2 en2 x2 r2 => oIx_ok m2 (DB.gr g2 x1) x2 r2
/-! ### a[lo:hi] -/
def optI : D → Option (Option Int)
  | .non => some none
  | .int i => some (some i)
  | _ => none
def tO (K : PySem.W.Frag) (W : WX) (f : EF) : TO := fun σ H Q => ∃ N0 F Ad M env, MemOk K F Ad M H ∧ EnvOk K N0 F Ad H σ env ∧ (match f env M with
  | .ok d M1 => ∃ o, optI d = some o ∧ ∀ F' Ad' H', Gr F Ad H F' Ad' H' → MemOk K F' Ad' M1 H' → Q o H'
  | .exc x M1 => ∀ cls dx F' Ad' H', Gr F Ad H F' Ad' H' → MemOk K F' Ad' M1 H' → XOk K F' Ad' H' x cls dx → W cls dx σ H'
  | .stuck => False)
abbrev SP (X : Cx) (W : WX) (e : Option Expr) (f : EF) : Prop := PO X e (tO X.K W f)
theorem PO.imp {X : Cx} {e : Option Expr} {t u : TO} (h : PO X e t) (i : ∀ σ H Q, u σ H Q → t σ H Q) : PO X e u := ⟨fun pins s σ H Q I q => h.run pins s σ H Q I (i σ H Q q)⟩
theorem sp_none : SP X W none (eC .non) := PO.imp po_none fun σ H Q ⟨N0, F, Ad, M, env, m, en, o, e, r⟩ => by
  cases e; exact r F Ad H Gr.refl m
def eInt (f : EF) : EF := fun env M => (f env M).bind fun d M1 => match d with | .int i => .ok (.int i) M1 | _ => .stuck
theorem sp_some (h : SE X W a fa) : SP X W (some a) (eInt fa) := PO.imp (po_some h) fun σ H Q ⟨N0, F, Ad, M, env, m, en, r⟩ => ⟨N0, F, Ad, M, env, m, en, by
  unfold eInt at r
  cases q : fa env M with
  | ok d M1 =>
    rw [q] at r
    intro v F' Ad' H' g m' x
    cases d with
    | int i =>
      cases x
      obtain ⟨o, e, r⟩ := r
      cases e
      exact ⟨_, rfl, r F' Ad' H' g m'⟩
    | _ => exact r.elim
  | exc x M1 => rw [q] at r; exact r
  | stuck => rw [q] at r; exact r⟩
def cutD (xs : List D) (lo hi : Option Int) : List D := (xs.drop (HT.sIx xs.length 0 lo)).take (HT.sIx xs.length xs.length hi - HT.sIx xs.length 0 lo)
def oSl (x : D) (lo hi : Option Int) (M : List D) : R := match view M x with
    | .lst xs => .ok (.lst (cutD xs lo hi)) M
    | .scr ns => .ok (.lst (cutD (ns.map D.int) lo hi)) M
    | _ => .stuck
def oSlE (x : D) (lo hi : Option Int) (M : List D) : R := match view M x with
    | .lst xs => .ok (.lst (cutD xs lo hi)) M
    | .scr ns => .ok (.lst (cutD (ns.map D.int) lo hi)) M
    | .tup xs => .ok (.tup (cutD xs lo hi)) M
    | .str z => if z.length ≤ sizeLine then .ok (.str (cutS z lo hi)) M else .stuck
    | _ => .stuck
def eSl (g : D → Option Int → Option Int → List D → R) (a l u : EF) : EF := fun env M => (a env M).bind fun x M1 => (l env M1).bind fun y M2 => match optI y with
  | none => .stuck
  | some lo => (u env M2).bind fun z M3 => match optI z with
    | none => .stuck
    | some hi => g x lo hi M3
theorem tO_seq {f : EF} {k : D → List D → R} {Q : VK} {Q' : Option Int → Hp → Prop} (dr : DRok DR) (m : MemOk K F Ad M H) (e : EnvOk K N0 F Ad H σ env)
    (h : RP K (fun c d H => W c d σ H) DR F Ad H Q ((f env M).bind k)) (hn : ∀ d M1, optI d = none → k d M1 = .stuck)
    (hq : ∀ d o M1 F1 Ad1 H1, optI d = some o → Gr F Ad H F1 Ad1 H1 → MemOk K F1 Ad1 M1 H1 → EnvOk K N0 F1 Ad1 H1 σ env → RP K (fun c d H => W c d σ H) DR F1 Ad1 H1 Q (k d M1) → Q' o H1) : tO K W f σ H Q' := by
  refine ⟨N0, F, Ad, M, env, m, e, ?_⟩
  cases q : f env M with
  | ok d M1 =>
    rw [q] at h
    cases ho : optI d with
    | none => rw [R.bind_ok, hn d M1 ho] at h; exact h.elim
    | some o => exact ⟨o, ho, fun F' Ad' H' g m' => hq d o M1 F' Ad' H' ho g m' (e.gr g) (RP.gr dr h g)⟩
  | exc x M1 => rw [q] at h; exact h
  | stuck => rw [q] at h; exact h
def rSlAll (X : Cx) : V → Option Int → Option Int → Hp → VK → Prop := fun x lo hi H Q => rSlL X.K x lo hi H Q ∨ rSlA X.K x lo hi H Q ∨ rSlS x lo hi H Q
theorem sl_all : SlR X (rSlAll X) := sl_list.or (sl_tupA.or sl_str)
theorem DenL.cut {vs ds lo hi} (h : DenL K F Ad vs ds) : DenL K F Ad (cutV vs lo hi) (cutD ds lo hi) := by
  unfold cutV cutD
  rw [h.length]
  exact (h.drop _).take _
theorem DenL.map_int : ∀ {ns : List Int}, DenL K F Ad (ns.map V.int) (ns.map D.int)
  | [] => .nil
  | _ :: _ => .cons .int DenL.map_int
theorem oSl_ok {lo hi : Option Int} {dx : D} (m : MemOk X.K F Ad M H) (hx : DB X.K H F Ad H x dx) (r : RP X.K E (DO X.K) F Ad H Q (oSl dx lo hi M)) : rSlAll X x lo hi H Q := by
  have ax := DB.view m hx
  unfold oSl at r
  revert r ax
  generalize view M dx = ex
  intro r ax
  cases ex with
  | lst xs =>
    obtain ⟨a, vs, rfl, h1, d1⟩ := ax.lst m
    exact .inl ⟨a, vs, rfl, SqL.of h1, fun p hp => RP.ownLst r m d1.cut hp⟩
  | scr ns =>
    obtain ⟨a, rfl, h1⟩ := ax.scr m
    exact .inl ⟨a, _, rfl, h1, fun p hp => RP.ownLst r m DenL.map_int.cut hp⟩
  | _ => exact False.elim r
theorem oSlE_ok {lo hi : Option Int} {dx : D} (m : MemOk X.K F Ad M H) (hx : DB X.K H F Ad H x dx) (r : RP X.K E (DE X.K) F Ad H Q (oSlE dx lo hi M)) : rSlAll X x lo hi H Q := by
  have ax := DB.view m hx
  unfold oSlE at r
  revert r ax
  generalize view M dx = ex
  intro r ax
  cases ex with
  | lst xs =>
    obtain ⟨a, vs, rfl, h1, d1⟩ := ax.lst m
    exact .inl ⟨a, vs, rfl, SqL.of h1, fun p hp => RP.newLst r m d1.cut hp⟩
  | scr ns =>
    obtain ⟨a, rfl, h1⟩ := ax.scr m
    exact .inl ⟨a, _, rfl, h1, fun p hp => RP.newLst r m DenL.map_int.cut hp⟩
  | tup xs =>
    dsimp only at r
    have dn := ax.den (fun _ h => nomatch h)
    obtain ⟨a, vs, rfl, h1, d1⟩ := ax.tup m
    refine .inr (.inl ⟨a, vs, rfl, SqT.of h1, fun ⟨e1, e2⟩ => ?_, fun _ p hp => RP.newTup r m d1.cut hp⟩)
    have hc : cutD xs lo hi = xs := by
      unfold cutD
      rw [← d1.length, e1, e2, d1.length]; simp
    rw [hc] at r
    exact RP.here r m dn
  | str z =>
    dsimp only at r
    split at r
    · rename_i hz; exact .inr (.inr ⟨z, ax.str, hz, RP.here r m .str⟩)
    · exact False.elim r
  | _ => exact False.elim r
theorem s_sl (dr : DRok DR) {g : D → Option Int → Option Int → List D → R} (ho : ∀ {E : XK} {F H : Hp} {Ad : List Addr} {M : List D} {Q : VK} {x : V} {lo hi : Option Int} {dx : D}, MemOk X.K F Ad M H → DB X.K H F Ad H x dx → RP X.K E DR F Ad H Q (g dx lo hi M) → rSlAll X x lo hi H Q)
    {lo hi : Option Expr} {fl fu : EF} (ha : SB X W a fa) (hl : SP X W lo fl) (hu : SP X W hi fu) : PE X (.Subscript a (.Slice lo hi none p2) pos) (tG X.K W DR (eSl g fa fl fu)) :=
  PE.imp (pe_slice sl_all ha hl hu) fun σ H Q ⟨N0, F, Ad, M, env, m, en, r⟩ =>
    tG_seq dr m en r fun d M1 v F1 Ad1 H1 g1 m1 en1 x1 r1 =>
      tO_seq dr m1 en1 r1 (fun d2 M2 hd => by rw [hd]) fun d2 o2 M2 F2 Ad2 H2 e2 g2 m2 en2 r2 => by
        rw [e2] at r2
        exact tO_seq dr m2 en2 r2 (fun d3 M3 hd => by rw [hd]) fun d3 o3 M3 F3 Ad3 H3 e3 g3 m3 en3 r3 => by
          rw [e3] at r3
          exact ho m3 (DB.gr g3 (DB.gr g2 x1 (H0' := H2))) r3
theorem so_sl {lo hi : Option Expr} {fl fu : EF} (ha : SB X W a fa) (hl : SP X W lo fl) (hu : SP X W hi fu) : SO X W (.Subscript a (.Slice lo hi none p2) pos) (eSl oSl fa fl fu) := s_sl DO.ok oSl_ok ha hl hu
theorem se_sl {lo hi : Option Expr} {fl fu : EF} (ha : SB X W a fa) (hl : SP X W lo fl) (hu : SP X W hi fu) : SE X W (.Subscript a (.Slice lo hi none p2) pos) (eSl oSlE fa fl fu) := s_sl DE.ok oSlE_ok ha hl hu

end
end MP

set_option maxRecDepth 100000
set_option maxHeartbeats 1000000
namespace MP
open PySem PySem.Spec PyProof.Rows L2
/-! ### attributes -/
section
variable {X : Cx} {W : WX} {K : PySem.W.Frag} {E : XK} {DR : DRel} {N0 : Ent} {H0 F H : Hp} {Ad : List Addr} {M : List D} {env : EnvM} {σ : St} {Q : VK} {x : V} {a : Expr} {fa : EF} {pos : Pos} {f : Str}
/-- one-place, over values that stay -/
def Op1E (X : Cx) (W : WX) (DR : DRel) (f : Value → Sem Value) (g : D → List D → R) : Prop :=
  ∀ (pins : List (Addr × Obj)) (s : Shared) (σ : St) (H F : Hp) (Ad : List Addr) (M : List D) (x : V) (v : Value) (dx : D) (Q : VK), Inv X pins σ H s → MemOk X.K F Ad M H → RelV x v → Den X.K F Ad x dx →
    RP X.K (fun c d H => W c d σ H) DR F Ad H Q (g dx M) → wpAny (model X.prog X.w) X.A (f v) (EP X pins σ Q) X.xe s
theorem Op1.e {f : Value → Sem Value} {g : D → List D → R} (h : Op1 X DR f g) : Op1E X W DR f g := fun pins s σ H F Ad M x v dx Q I m rx hx r => h pins s σ H F Ad M _ x v dx Q I m rx (.inl hx) r
theorem s_attrB (dr : DRok DR) {g : D → List D → R} (ho : Op1 X DR (fun v => getAttr v f true) g) (ha : SB X W a fa) (hb : attributeBase a f X.env (eval a X.env) = eval a X.env := by rfl) : PE X (.Attribute a f pos) (tG X.K W DR (e1 g fa)) := by
  refine ⟨fun pins s σ H Q I ⟨N0, F, Ad, M, env, m, en, r⟩ => ?_⟩
  refine attr_of hb (thn (ha.run pins s σ H _ I (tG_seq (Q' := fun v H1 => ∃ F1 Ad1 M1 d, MemOk X.K F1 Ad1 M1 H1 ∧ DB X.K H1 F1 Ad1 H1 v d ∧ RP X.K (fun c d H => W c d σ H) DR F1 Ad1 H1 Q (g d M1)) dr m en r fun d M1 v F1 Ad1 H1 g1 m1 en1 x1 r1 => ⟨F1, Ad1, M1, d, m1, x1, r1⟩)) fun u s1 ⟨x, H1, I1, rx, F1, Ad1, M1, d, m1, x1, r1⟩ => ?_)
  exact ho pins s1 σ H1 F1 Ad1 M1 _ x u d Q I1 m1 rx x1 r1
theorem s_attr (dr : DRok DR) {g : D → List D → R} (ho : Op1E X W DR (fun v => getAttr v f true) g) (ha : SE X W a fa) (hb : attributeBase a f X.env (eval a X.env) = eval a X.env := by rfl) : PE X (.Attribute a f pos) (tG X.K W DR (e1 g fa)) := by
  refine ⟨fun pins s σ H Q I ⟨N0, F, Ad, M, env, m, en, r⟩ => ?_⟩
  refine attr_of hb (thn (ha.run pins s σ H _ I (tG_seq (Q' := fun v H1 => ∃ F1 Ad1 M1 d, MemOk X.K F1 Ad1 M1 H1 ∧ Den X.K F1 Ad1 v d ∧ RP X.K (fun c d H => W c d σ H) DR F1 Ad1 H1 Q (g d M1)) dr m en r fun d M1 v F1 Ad1 H1 g1 m1 en1 x1 r1 => ⟨F1, Ad1, M1, d, m1, x1, r1⟩)) fun u s1 ⟨x, H1, I1, rx, F1, Ad1, M1, d, m1, x1, r1⟩ => ?_)
  exact ho pins s1 σ H1 F1 Ad1 M1 x u d Q I1 m1 rx x1 r1
/-- a class and its fields -/
structure ClsF (K : PySem.W.Frag) (c : Str) (fs : List Str) : Prop where
  cls : Cls K (He.ga K c)
  no : ∀ f ∈ fs, NoAttr K (He.ga K c) f
def fldR (c f : Str) (x : D) (M : List D) : R := match view M x with
  | .ins c' fs => if c' = c then (match fs.lookup f with | some d => .ok d M | none => .stuck) else .stuck
  | _ => .stuck
theorem op1_fld {c : Str} (hc : Cls X.K (He.ga X.K c)) (hn : NoAttr X.K (He.ga X.K c) f) : Op1 X (DE X.K) (fun v => getAttr v f true) (fldR c f) := by
  intro pins s σ H F Ad M E x v dx Q I m rx hx r
  have ax := DB.view m hx
  unfold fldR at r
  split at r
  · rename_i c' fs e
    split at r
    · rename_i ec
      subst ec
      split at r
      · rename_i dd e2
        rw [e] at ax
        obtain ⟨p, dx, vs, rfl, h1, d1⟩ := ax.ins m
        obtain ⟨w, e3, e4⟩ := d1.lookup e2
        obtain rfl : v = Value.ref p := rx
        exact getattr_ok I h1 hc hn e3 fun u s' I' ru => ⟨w, H, I', ru, RP.here r m e4⟩
      · exact r.elim
    · exact r.elim
  · exact r.elim
/-- either class -/
def orR (c : Str) (g g' : D → List D → R) (x : D) (M : List D) : R := match view M x with
  | .ins c' _ => if c' = c then g x M else g' x M
  | _ => .stuck
theorem op1_or {c : Str} {h : Value → Sem Value} {g g' : D → List D → R} (h1 : Op1 X DR h g) (h2 : Op1 X DR h g') : Op1 X DR h (orR c g g') := by
  intro pins s σ H F Ad M E x v dx Q I m rx hx r
  unfold orR at r
  split at r
  · split at r
    · exact h1 pins s σ H F Ad M E x v dx Q I m rx hx r
    · exact h2 pins s σ H F Ad M E x v dx Q I m rx hx r
  · exact r.elim
theorem op1e_or {c : Str} {h : Value → Sem Value} {g g' : D → List D → R} (h1 : Op1E X W DR h g) (h2 : Op1E X W DR h g') : Op1E X W DR h (orR c g g') := by
  intro pins s σ H F Ad M x v dx Q I m rx hx r
  unfold orR at r
  split at r
  · split at r
    · exact h1 pins s σ H F Ad M x v dx Q I m rx hx r
    · exact h2 pins s σ H F Ad M x v dx Q I m rx hx r
  · exact r.elim

/-! ### functions -/
/-- a def's promise: c over the data of its arguments -/
def spD (K : PySem.W.Frag) (DR : DRel) (n : Nat) (c : List D → List D → R) : Sp := fun vs H Q E => vs.length = n ∧ ∃ F Ad M ds, MemOk K F Ad M H ∧ DenL K F Ad vs ds ∧ RP K E DR F Ad H Q (c ds M)
/-- __init__'s: c gives the fields -/
def spI (K : PySem.W.Frag) (cn : Str) (n : Nat) (c : List D → List D → R) : Sp := fun vs H Q E => vs.length = n + 1 ∧ ∃ x dx rest HH F Ad M ds, vs = .ref x :: rest ∧ H = upd (upd HH dx (.own x)) x (.ins (He.ga K cn) dx []) ∧ HH x = none ∧ HH dx = none ∧ dx ≠ x ∧
  MemOk K F Ad M HH ∧ DenL K F Ad rest ds ∧ RP K E (DO K) F Ad HH (fun v H' => v = .ref x → Q .non H') (c ds M)
abbrev Pas (X : Cx) (W : WX) : Prop := ∀ σ, PassesAt (L2.CX X.prog X.w) X σ (WE W σ)
def WN : WX := fun _ _ _ _ => False
theorem pas_no : Pas X WN := fun _ _ _ _ _ _ _ ⟨_, _, _, _, _, _, _, _, _, _, _, _, w⟩ => w.elim
/-- a def, known: at g, level k, its promise c, its defaults dd -/
structure FnK (P : Program) (w : World) (K : PySem.W.Frag) (mg : Str → Option Value) (base : Heap) (DR : DRel) (k n : Nat) (g : Addr) (dd : List D) (c : List D → List D → R) : Prop where
  ex : ∃ (fd : FuncData) (ps : List Str) (dvs : List V) (us : List Value), FnOk P w K mg base (L2.CX P w) k g fd ps (spD K DR n c) ∧ Binds K fd ps us ∧ Vals dvs us ∧ (∀ F Ad, DenL K F Ad dvs dd) ∧ PySem.W.keepIn K (.ref g) = true
abbrev FnX (X : Cx) (DR : DRel) (k n : Nat) (g : Addr) (dd : List D) (c : List D → List D → R) : Prop := FnK X.prog X.w X.K X.mg X.base DR k n g dd c
def apC (c : List D → List D → R) (n : Nat) (dd xs M : List D) : R := if (xs ++ dd).length = n then c (xs ++ dd) M else .stuck
theorem spD_of {n : Nat} {c : List D → List D → R} {vs dvs : List V} {ds dd : List D} (m : MemOk K F Ad M H) (x : DenL K F Ad vs ds) (h : ∀ F Ad, DenL K F Ad dvs dd) (r : RP K E DR F Ad H Q (apC c n dd ds M)) : spD K DR n c (vs ++ dvs) H Q E := by
  unfold apC at r
  split at r
  · rename_i hn
    have l := (x.append (h F Ad)).length
    exact ⟨by rw [l]; exact hn, F, Ad, M, _, m, x.append (h F Ad), r⟩
  · exact r.elim
variable {k n : Nat} {g : Addr} {dd : List D} {c : List D → List D → R} {es : List Expr} {e : Expr} {l : LF} {y m : Str} {p apos : Pos}
theorem run_fnK {pins : List (Addr × Obj)} {s : Shared} {us : List Value} {vs : List V} {ds : List D} (Fk : FnX X DR k n g dd c) (hr : Room k X.A) (hx : Pas X W) (I : Inv X pins σ H s) (mm : MemOk X.K F Ad M H) (r : Vals vs us) (x : DenL X.K F Ad vs ds)
    (h : RP X.K (fun c d H => W c d σ H) DR F Ad H Q (apC c n dd ds M)) : wpAny (model X.prog X.w) X.A (call (.ref g) us) (EP X pins σ Q) X.xe s := by
  obtain ⟨fd, ps, dvs, ws, Fo, hb, hv, hd, hk⟩ := Fk.ex
  exact run_fnSD Fo hr hb hv (hx σ) I r (spD_of mm x hd h)
/-- f(..) -/
theorem s_call (dr : DRok DR) (Fk : FnX X DR k n g dd c) (hr : Room k X.A) (hx : Pas X W) (hg : Gl X y) (hm : X.mg y = some (.ref g)) (ha : SL X W (e :: es) l) (hdb : (y == ("__debug__" : Str)) = false := by decide)
    (he : starEach (e :: es) X.env = (false, eval e X.env) :: starEach es X.env := by rfl) (hpl : (backTo pos (starEach es X.env)).any (·.1) = false := by rfl) : PE X (.Call (.Name y p) (e :: es) [] pos) (tG X.K W DR (eCall (apC c n dd) l)) := by
  obtain ⟨fd, ps, dvs, ws, Fo, hb, hv, hd, hk⟩ := Fk.ex
  refine PE.imp (pe_callSD Fo hr hg hm hk hb hv hx ha hdb he hpl) fun σ H Q ⟨N0, F, Ad, M, env, m, en, r⟩ => ?_
  refine tL_seq dr m en r fun ds M1 vs F1 Ad1 H1 g1 m1 en1 x1 r1 => ?_
  exact spD_of m1 x1 hd r1
/-- o.m(..) -/
def eMeth (cn m : Str) (c : List D → List D → R) (n : Nat) (dd : List D) (o : EF) (l : LF) : EF := fun env M => (o env M).bind fun x M1 => match view M1 x with
  | .ins c' fs => if c' = cn ∧ fs.lookup m = none then (l env M1).bind fun xs M2 => apC c n dd (x :: xs) M2 else .stuck
  | _ => .stuck
theorem s_meth0 (dr : DRok DR) {cn : Str} {pl : Sem Bool} {o : Expr} {fo : EF} (hc : Cls X.K (He.ga X.K cn)) (hm : Meth X.K (He.ga X.K cn) m g) (Fk : FnX X DR k n g dd c) (hr : Room k X.A) (hx : Pas X W) (ho : SE X W o fo)
    (ht : eval (.Call (.Attribute o m apos) [] [] pos) X.env = (do
      let ov ← eval o X.env
      standAt apos.atName
      let (f, first) ← holding [ov] (getMethod ov m pl)
      callWith pos f first (backTo pos (starEach [] X.env)) (backToKw pos (keywordEach [] X.env))) := by rfl) : PE X (.Call (.Attribute o m apos) [] [] pos) (tG X.K W DR (eMeth cn m c n dd fo lNil)) := by
  refine ⟨fun pins s σ H Q I ⟨N0, F, Ad, M, env, mm, en, r⟩ => ?_⟩
  refine PySem.W.methodCall_KW (pl := pl) (thn (ho.run pins s σ H _ I (tG_seq dr mm en r (Q' := fun v H1 => ∃ F1 Ad1 M1 d, MemOk X.K F1 Ad1 M1 H1 ∧ Den X.K F1 Ad1 v d ∧ EnvOk X.K N0 F1 Ad1 H1 σ env ∧ RP X.K (fun c d H => W c d σ H) DR F1 Ad1 H1 Q (match view M1 d with
    | .ins c' fs => if c' = cn ∧ fs.lookup m = none then (lNil env M1).bind fun xs M2 => apC c n dd (d :: xs) M2 else .stuck
    | _ => .stuck)) fun d M1 v F1 Ad1 H1 g1 m1 en1 x1 r1 => ⟨F1, Ad1, M1, d, m1, x1, en1, r1⟩)) fun u s1 ⟨x, H1, I1, rx, F1, Ad1, M1, d, m1, x1, en1, r1⟩ => ?_) ht
  have ax := DB.view m1 (H0 := H1) (.inl x1 : DB X.K H1 F1 Ad1 H1 x d)
  split at r1
  · rename_i c' fs e
    split at r1
    · rename_i ec
      obtain ⟨ec, en⟩ := ec
      subst ec
      rw [e] at ax
      obtain ⟨q, dx, vs, rfl, h1, d1⟩ := ax.ins m1
      obtain rfl : u = Value.ref q := rx
      refine getmeth_ok I1 h1 hc hm (d1.none en) ?_
      refine PySem.W.callWith_K0 (first := [.ref q]) I1.kIn hm.kp ?_
      exact run_fnK (us := [.ref q]) (vs := [.ref q]) Fk hr hx I1 m1 (.cons rfl .nil) (.cons x1 .nil) r1
    · exact r1.elim
  · exact r1.elim
theorem s_meth (dr : DRok DR) {cn : Str} {pl : Sem Bool} {o : Expr} {fo : EF} (hc : Cls X.K (He.ga X.K cn)) (hm : Meth X.K (He.ga X.K cn) m g) (Fk : FnX X DR k n g dd c) (hr : Room k X.A) (hx : Pas X W) (ho : SE X W o fo) (ha : SL X W (e :: es) l)
    (hst : starEach (e :: es) X.env = (false, eval e X.env) :: starEach es X.env := by rfl) (hpl : (backTo pos (starEach es X.env)).any (·.1) = false := by rfl)
    (ht : eval (.Call (.Attribute o m apos) (e :: es) [] pos) X.env = (do
      let ov ← eval o X.env
      standAt apos.atName
      let (f, first) ← holding [ov] (getMethod ov m pl)
      callWith pos f first (backTo pos (starEach (e :: es) X.env)) (backToKw pos (keywordEach [] X.env))) := by rfl) : PE X (.Call (.Attribute o m apos) (e :: es) [] pos) (tG X.K W DR (eMeth cn m c n dd fo l)) := by
  refine ⟨fun pins s σ H Q I ⟨N0, F, Ad, M, env, mm, en, r⟩ => ?_⟩
  refine PySem.W.methodCall_KW (pl := pl) (thn (ho.run pins s σ H _ I (tG_seq dr mm en r (Q' := fun v H1 => ∃ F1 Ad1 M1 d, MemOk X.K F1 Ad1 M1 H1 ∧ Den X.K F1 Ad1 v d ∧ EnvOk X.K N0 F1 Ad1 H1 σ env ∧ RP X.K (fun c d H => W c d σ H) DR F1 Ad1 H1 Q (match view M1 d with
    | .ins c' fs => if c' = cn ∧ fs.lookup m = none then (l env M1).bind fun xs M2 => apC c n dd (d :: xs) M2 else .stuck
    | _ => .stuck)) fun d M1 v F1 Ad1 H1 g1 m1 en1 x1 r1 => ⟨F1, Ad1, M1, d, m1, x1, en1, r1⟩)) fun u s1 ⟨x, H1, I1, rx, F1, Ad1, M1, d, m1, x1, en1, r1⟩ => ?_) ht
  have ax := DB.view m1 (H0 := H1) (.inl x1 : DB X.K H1 F1 Ad1 H1 x d)
  split at r1
  · rename_i c' fs e
    split at r1
    · rename_i ec
      obtain ⟨ec, en⟩ := ec
      subst ec
      rw [e] at ax
      obtain ⟨q, dx, vs, rfl, h1, d1⟩ := ax.ins m1
      obtain rfl : u = Value.ref q := rx
      refine getmeth_ok I1 h1 hc hm (d1.none en) ?_
      refine PySem.W.callWith_K (first := [.ref q]) (h₀ := X.base) I1.ok.mod.kin hm.kp (thn (ha.run pos pins s1 σ H1 _ I1 (tL_seq dr m1 en1 r1 (Q' := fun vs H2 => ∃ F2 Ad2 M2 ds, MemOk X.K F2 Ad2 M2 H2 ∧ DenL X.K F2 Ad2 (.ref q :: vs) (d :: ds) ∧ RP X.K (fun c d H => W c d σ H) DR F2 Ad2 H2 Q (apC c n dd (d :: ds) M2)) fun ds M2 vs F2 Ad2 H2 g2 m2 en2 x2 r2 =>
        ⟨F2, Ad2, M2, ds, m2, .cons (x1.mono g2.fle g2.pre) x2, r2⟩)) fun us s2 ⟨vs, H2, I2, r, F2, Ad2, M2, ds, m2, x2, r2⟩ => ⟨I2.kIn, ?_⟩) hst hpl
      exact run_fnK (us := .ref q :: us) (vs := .ref q :: vs) Fk hr hx I2 m2 (.cons rfl r) x2 r2
    · exact r1.elim
  · exact r1.elim
/-- a property; what it lets out is not had -/
def noX (r : R) : R := match r with
  | .exc _ _ => .stuck
  | r => r
def propR (cn : Str) (c : List D → List D → R) (x : D) (M : List D) : R := match view M x with
  | .ins c' _ => if c' = cn then noX (apC c 1 [] [x] M) else .stuck
  | _ => .stuck
theorem op1_prop {cn : Str} {q : Addr} (hc : Cls X.K (He.ga X.K cn)) (hp : PropOf X.K (He.ga X.K cn) f q g) (Fk : FnX X DR k 1 g [] c) (hr : Room (k + 1) X.A) : Op1E X W DR (fun v => getAttr v f true) (propR cn c) := by
  intro pins s σ H F Ad M x v dx Q I m rx hx r
  have ax := DB.view m (H0 := H) (.inl hx : DB X.K H F Ad H x dx)
  unfold propR at r
  split at r
  · rename_i c' fs e
    split at r
    · rename_i ec
      subst ec
      rw [e] at ax
      obtain ⟨p, dx', vs, rfl, h1, d1⟩ := ax.ins m
      obtain rfl : v = Value.ref p := rx
      obtain ⟨fd, ps, dvs, ws, Fo, hb, hv, hd, hk⟩ := Fk.ex
      refine getprop_ok (E := fun _ _ _ => False) I h1 hc hp Fo hr hb hv (fun _ _ _ _ _ _ _ ⟨_, _, _, _, _, _, _, _, _, _, _, _, w⟩ => w.elim) ?_
      have r' : RP X.K (fun _ _ _ => False) DR F Ad H Q (apC c 1 [] [dx] M) := by
        cases h : apC c 1 [] [dx] M with
        | ok d M1 => rw [h] at r; exact r
        | exc z M1 => rw [h] at r; exact r.elim
        | stuck => rw [h] at r; exact r.elim
      exact spD_of m (.cons hx .nil) hd r'
    · exact r.elim
  · exact r.elim

/-! ### a new instance -/
structure InK (P : Program) (w : World) (K : PySem.W.Frag) (mg : Str → Option Value) (base : Heap) (k n : Nat) (cn : Str) (g : Addr) (dd : List D) (c : List D → List D → R) : Prop where
  mak : Mk K (He.ga K cn) g
  ex : ∃ (fd : FuncData) (ps : List Str) (dvs : List V) (us : List Value), FnOk P w K mg base (L2.CX P w) k g fd ps (spI K cn n c) ∧ Binds K fd ps us ∧ Vals dvs us ∧ (∀ F Ad, DenL K F Ad dvs dd)
theorem run_makeS {C fI : Addr} {kk : Nat} {CX : CXT} {fd : FuncData} {ps : List Str} {sp : Sp} {dvs vs : List V} {ds us : List Value} {Ex : XK} {pins : List (Addr × Obj)} {s : Shared} (Mm : Mk X.K C fI) (Fo : FnOk X.prog X.w X.K X.mg X.base CX kk fI fd ps sp) (hr : Room (kk + 1) X.A) (hb : Binds X.K fd ps ds) (hd : Vals dvs ds)
    (hx : PassesAt CX X σ Ex) (I : Inv X pins σ H s) (r : Vals vs us)
    (h : ∀ x dx, H x = none → H dx = none → dx ≠ x → sp (.ref x :: (vs ++ dvs)) (upd (upd H dx (.own x)) x (.ins C dx [])) (fun v H2 => v = .non ∧ Q (.ref x) H2) Ex) :
    wpAny (model X.prog X.w) X.A (call (.ref C) us) (EP X pins σ Q) X.xe s := by
  obtain ⟨x, hxx⟩ : ∃ x, x = s.heap.objs.size + 1 := ⟨_, rfl⟩
  have fresh1 := I.hok.fresh (Nat.le_succ s.heap.objs.size)
  have fresh0 := I.hok.fresh (Nat.le_refl s.heap.objs.size)
  have sp1 := h (s.heap.objs.size + 1) s.heap.objs.size fresh1 fresh0 (Nat.ne_of_lt (Nat.lt_succ_self _))
  have J := Inv.made (C := C) I
  have rr : Vals (V.ref (s.heap.objs.size + 1) :: (vs ++ dvs)) (Value.ref (s.heap.objs.size + 1) :: (us ++ ds)) := Paired.cons rfl (r.append hd)
  have ll : (Value.ref (s.heap.objs.size + 1) :: us ++ ds).length = ps.length := (rr.length.symm).trans (Fo.len _ _ _ _ sp1)
  have bb := hb { s with heap := (s.heap.push PySem.W.emptyDict).push (PySem.W.instObj C s.heap.objs.size) } (Value.ref (s.heap.objs.size + 1) :: us) J.kIn ll
  apply wpAny_call
  apply make_map (f := fI) I.kIn Mm.makes Mm.init (beq_iff_eq.mp Mm.fn)
  refine codeAny_mono (Fo.run _ X.stack _ _ _ _ _ _ _ (hr.make C us []) (J.env0.make C us []) bb rr sp1) ?_
  intro res s' done
  cases res with
  | error e => exact hx pins _ _ e s' J done
  | ok fl =>
    cases fl with
    | ret u =>
      obtain ⟨v, H', J', rv, ev, q⟩ := J.after done
      cases ev
      exact ⟨rv, V.ref (s.heap.objs.size + 1), H', J', rfl, q⟩
    | next => exact done.elim
    | brk => exact done.elim
    | cont => exact done.elim
theorem so_make {cn : Str} (Ik : InK X.prog X.w X.K X.mg X.base k n cn g dd c) (hr : Room (k + 1) X.A) (hx : Pas X W) (hg : Gl X y) (hm : X.mg y = some (.ref (He.ga X.K cn))) (ha : SL X W (e :: es) l) (hdb : (y == ("__debug__" : Str)) = false := by decide)
    (he : starEach (e :: es) X.env = (false, eval e X.env) :: starEach es X.env := by rfl) (hpl : (backTo pos (starEach es X.env)).any (·.1) = false := by rfl) : SO X W (.Call (.Name y p) (e :: es) [] pos) (eCall (apC c n dd) l) := by
  obtain ⟨fd, ps, dvs, ws, Fo, hb, hv, hd⟩ := Ik.ex
  refine ⟨fun pins s σ H Q I ⟨N0, F, Ad, M, env, m, en, r⟩ => ?_⟩
  refine wpAny_Call_Name_kw (ld_glob I hg hm ?_ hdb)
  refine PySem.W.callWith_K (h₀ := X.base) I.ok.mod.kin Ik.mak.kp (thn (ha.run pos pins s σ H _ I (tL_seq DO.ok m en r (Q' := fun vs H2 => ∃ F2 Ad2 M2 ds, MemOk X.K F2 Ad2 M2 H2 ∧ DenL X.K F2 Ad2 vs ds ∧ RP X.K (fun c d H => W c d σ H) (DO X.K) F2 Ad2 H2 Q (apC c n dd ds M2)) fun ds M2 vs F2 Ad2 H2 g2 m2 en2 x2 r2 =>
        ⟨F2, Ad2, M2, ds, m2, x2, r2⟩)) fun us s1 ⟨vs, H1, I1, r, F2, Ad2, M2, ds, m2, x2, r2⟩ => ⟨I1.kIn, ?_⟩) he hpl
  refine run_makeS Ik.mak Fo hr hb hv (hx σ) I1 r fun x dx hx0 hd0 hne => ?_
  unfold apC at r2
  split at r2
  · rename_i hn
    have x3 := x2.append (hd F2 Ad2)
    refine ⟨by show (vs ++ dvs).length + 1 = n + 1; rw [x3.length, hn], x, dx, _, H1, F2, Ad2, M2, _, rfl, rfl, hx0, hd0, hne, m2, x3, ?_⟩
    cases hq : c (ds ++ dd) M2 with
    | ok d M3 =>
      rw [hq] at r2
      intro v F' Ad' H' g' m' z ev
      subst ev
      exact ⟨rfl, r2 _ F' Ad' H' g' m' z⟩
    | exc z M3 => rw [hq] at r2; exact r2
    | stuck => rw [hq] at r2; exact r2.elim
  · exact r2.elim
end
end MP

set_option maxRecDepth 100000
set_option maxHeartbeats 1000000
namespace MP
open PySem PySem.Spec PyProof.Rows L2
/-! ### enumerate over a tuple -/
set_option maxHeartbeats 4000000 in
theorem enum1_meets {v : Value} {o : Obj} {G : Heap → Prop} (B : Begins v o G) : Meets (Builtin.«enumerate.__new__» ⟨[.type "enumerate", v], []⟩) (fun _ R s => G s.heap ∧
      R (.ok (.ret (.ref (s.heap.push o).objs.size))) { s with heap := (s.heap.push o).push { cls := .type "enumerate", data := .fields #[.none, .bool false, .ref s.heap.objs.size, rawInt 0, .none, .none] } }) := by
  refine .of_wp fun P w A R s hs => ?_
  obtain ⟨hp, gg, dd, tt, oo⟩ := s
  obtain ⟨hG, hR⟩ := hs
  have hsub := sub_enumerate
  have it1 : ∀ {A2 : Around} {E2 : Value → Shared → Prop} {Q2 : Value → Shared → Prop}, Q2 (.ref hp.objs.size) ⟨hp.push o, gg, dd, tt, oo⟩ → wpAny (model P w) A2 (pyIter v) Q2 E2 ⟨hp, gg, dd, tt, oo⟩ := fun hq =>
    B.iter P w _ _ ⟨hp, gg, dd, tt, oo⟩ _ hG hq
  wp_walk using it1
  refine wpAny_stack_any fun st => wpAny_pure ?_
  split
  · rename_i cc _ _ _ _ _
    cases (cc == Value.type "enumerate") <;> (wp_walk using it1; exact ⟨_, rfl, hR⟩)
  · wp_walk using it1
    exact ⟨_, rfl, hR⟩
theorem enum1_call {P : Program} {w : World} {A : Around} {E : Value → Shared → Prop} {s : Shared} {v : Value} {o : Obj} {G : Heap → Prop} {Q : Value → Shared → Prop} (B : Begins v o G) (hG : G s.heap)
    (h : ∀ h', IsEnum h' (s.heap.objs.size + 1) s.heap.objs.size 0 .none → h'.get? s.heap.objs.size = some o → (∀ b u, s.heap.get? b = some u → h'.get? b = some u) → Q (.ref (s.heap.objs.size + 1)) { s with heap := h' }) :
    wpAny (model P w) A (call (.type "enumerate") [v]) Q E s := by
  refine callType_new F.called_enumerate (by decide) (F.typeCall_enumerate_1 _) (F.newCall_enumerate_1 _) (fun obj => F.args_object_init_2 obj _) F.entry_enumerate_new (enum1_meets B) ⟨hG, ?_⟩
  have z1 : (s.heap.push o).objs.size = s.heap.objs.size + 1 := Heap.size_push ..
  have ie := Heap.get?_push_size (s.heap.push o) (o := { cls := .type "enumerate", data := .fields #[.none, .bool false, .ref s.heap.objs.size, rawInt 0, .none, .none] }) rfl
  show _ ∧ _
  rw [z1] at ie ⊢
  exact ⟨⟨_, ie, rfl⟩, h _ ie (Heap.get?_push_of_some _ (Heap.get?_push_size _ B.free)) fun b u q => Heap.get?_push_of_some _ (Heap.get?_push_of_some _ q)⟩
/-- the tuple at a, each item in a new pair -/
def IteT (K : PySem.W.Frag) (a : Addr) : It where
  go := fun i H => ∃ (xs : List V) (x : V), SqT K H a xs ∧ xs[i]? = some x
  yld := fun i H v H' => ∃ T x, v = .ref T ∧ H T = none ∧ H' = upd H T (.tup [.int (i : Nat), x]) ∧ ∀ xs, SqT K H a xs → xs[i]? = some x
  stop := fun i H => ∃ xs : List V, SqT K H a xs ∧ xs.length = i
theorem tup_ne {h : Heap} {a it t : Addr} {i : Nat} {xs : Array Value} (p : h.IsTuple a xs) (q : h.IsTupleIter it t i) : a ≠ it := fun e => by
  obtain ⟨o, h1, h2, _⟩ := p
  obtain ⟨o', h3, h4, _⟩ := q
  rw [e, h3] at h1
  cases h1
  rw [h4] at h2
  exact absurd h2 (by decide)
theorem tup_neE {h : Heap} {a e it : Addr} {i : Int} {old : Value} {xs : Array Value} (p : h.IsTuple a xs) (q : IsEnum h e it i old) : e ≠ a := fun z => by
  obtain ⟨o, h1, h2, _⟩ := p
  rw [← z] at h1
  have q' : h.get? e = some _ := q
  rw [q'] at h1
  cases h1
  injection h2 with h2
  exact absurd h2 (by decide)
theorem turn_enumT {P : Program} {w : World} {K : PySem.W.Frag} {elts : List Expr} {kk : Nat} {tpos : Pos} (a e it : Addr) :
    Turn P w K (.Tuple elts kk tpos) (IteT K a) [e, it] e (fun i h => (∃ old, IsEnum h e it ((i : Nat) : Int) old) ∧ h.IsTupleIter it a i ∧ e ≠ it) where
  mem := List.mem_cons_self ..
  obj := by
    intro i h ⟨⟨old, he⟩, ⟨o, ho, hc, hd⟩, _⟩ b hb
    rcases (by simpa using hb : b = e ∨ b = it) with rfl | rfl
    · exact ⟨_, he, fun v q => nomatch q⟩
    · exact ⟨o, ho, fun v q => by rw [hd] at q; cases q⟩
  keep := by
    intro i h h' ⟨⟨old, he⟩, hi, hne⟩ k
    exact ⟨⟨old, k e (by simp) _ he⟩, hi.at fun o q => k it (by simp) o q, hne⟩
  item := by
    intro X hP hw hK hc i pins s σ H E I hf ⟨⟨old, he⟩, hit, hne⟩ ⟨xs, x, hq, hx⟩
    subst hP hw hK
    obtain ⟨its, rv, p, hz⟩ := I.tuple hq
    obtain ⟨u, hu, ru⟩ := rv.get hx
    have p' : s.heap.IsTuple a its.toArray := p
    have hel : e < s.heap.objs.size := Heap.lt_size he
    have hil : it < s.heap.objs.size := by obtain ⟨_, q, _⟩ := hit; exact Heap.lt_size q
    have n1 := tup_ne p' hit
    have n2 := tup_neE p' he
    have hu' : its[i]? = some u := hu
    have hlt : i < its.toArray.size := by
      rw [List.size_toArray]; exact (List.getElem?_eq_some_iff.mp hu').1
    refine wpAny_pyNext_enum_itemD (Draws.tuple (A := X.A.in1) (I.ok.hd hc) it a n1 its.toArray) he ⟨hit, p'⟩ hlt hne (by simp [hne, n2]) fun y h' tk hy ho st' hT hsz hk => ?_
    have hy : its.toArray[i]? = some y := hy
    have ey : y = u := by
      rw [List.getElem?_toArray, hu'] at hy; cases hy; rfl
    subst ey
    refine ⟨_, rfl, wpAny_letOwnedTupleGo_enum (s := { s with heap := h', toks := tk + 1 }) ho fun h'' he' sb => ?_⟩
    have hT2 : h''.get? s.heap.objs.size = some { cls := .type "tuple", data := .seq #[.int i tk, y] } := (sb.2 _ (Nat.ne_of_gt hel)).trans hT
    have ob : ObjOk X.prog X.w (upd H s.heap.objs.size (.tup [.int (i : Nat), x])) h'' s.heap.objs.size (.tup [.int (i : Nat), x]) :=
      ⟨by show 2 ≤ sizeLine; decide, [.int i tk, y], .cons ⟨_, rfl⟩ (.cons ru .nil), ⟨_, hT2, rfl, _, rfl⟩⟩
    have I1 : Inv X pins σ (upd H s.heap.objs.size (.tup [.int (i : Nat), x])) { s with heap := h'', toks := tk + 1 } :=
      I.turnedNew (ch := [e, it]) (fun b o hb q => (sb.2 b (fun z => hb (by simp [z]))).trans (hk b o (fun z => hb (by simp [z])) (fun z => hb (by simp [z])) q)) hf (Nat.le_refl _) ob
    refine ⟨.ref s.heap.objs.size, _, I1, rfl, ⟨_, x, rfl, I.hok.fresh (Nat.le_refl _), rfl, fun ys hys => by rw [I.tuple_inj hys hq]; exact hx⟩, ⟨⟨y, ?_⟩, st'.1.at fun o q => (sb.2 it (Ne.symm hne)).trans q, hne⟩, fun b hb => ?_⟩
    · rw [show ((i + 1 : Nat) : Int) = (i : Int) + 1 by omega]; exact he'
    · have hb' : b < s.heap.objs.size := by
        rcases (by simpa using hb : b = e ∨ b = it) with rfl | rfl
        · exact hel
        · exact hil
      rw [upd_ne (Nat.ne_of_lt hb')]
      exact (hf b hb).1
  done := by
    intro X hP hw hK hc i pins s σ H E I hf ⟨⟨old, he⟩, hit, hne⟩ ⟨xs, hq, hx⟩
    subst hP hw hK
    obtain ⟨its, rv, p, hz⟩ := I.tuple hq
    obtain ⟨f0, f1, f2, f3, f4, f5⟩ := hf it (by simp)
    have hl := rv.length
    have p' : s.heap.IsTuple a its.toArray := p
    have hsz : its.toArray.size = i := by rw [List.size_toArray]; omega
    have n1 := tup_ne p' hit
    rw [← hsz] at hit
    exact wpAny_pyNext_enum_endD (Draws.tuple (A := X.A.in1) (I.ok.hd hc) it a n1 its.toArray) he ⟨hit, p'⟩ fun h' eb => ⟨rfl, I.turned (t' := s.toks) (fun b o hb q => eb b o hb q) f0 f1 f3 f4 f5⟩
  self := fun A i s Q E st h => let ⟨⟨_, he⟩, _⟩ := st; wpAny_pyIter_enum he h
def iEnumT (K : PySem.W.Frag) (ta : TA) : TI := fun σ H R => ta σ H fun vs H1 => ∃ a xs, vs = [.ref a] ∧ SqT K H1 a xs ∧ R (IteT K a) H1
theorem pi_enumT {X : Cx} {e : Expr} {ta : TA} {p pos tpos : Pos} {elts : List Expr} {kk : Nat} (hg : Gl X "enumerate") (hm : X.mg "enumerate" = none) (ha : PA X [e] ta) (hs : starEach [e] X.env = [(false, eval e X.env)] := by rfl) :
    PI X (.Tuple elts kk tpos) (.Call (.Name "enumerate" p) [e] [] pos) (iEnumT X.K ta) := by
  refine ⟨fun pins s σ H R I h => ?_⟩
  refine Call_ (ld_blt I hg hm boot_enumerate ?_)
  refine PyProof.Rows.callWith_type1 (thn (ha.run pos pins s σ H _ I h) fun us s1 ⟨vs, H1, I1, r1, a, xs, ex, hq, q⟩ => ?_) hs rfl
  subst ex
  cases r1 with
  | cons r rr =>
    cases rr
    cases r
    obtain ⟨its, rv, p', hz⟩ := I1.tuple hq
    refine enum1_call (begins_tuple a its.toArray) p' fun h' he hit hk => wpAny_pyIter_enum he ?_
    have I2 : Inv X pins σ H1 { s1 with heap := h' } := I1.kept (t' := s1.toks) hk
    refine ⟨s1.heap.objs.size + 1, [s1.heap.objs.size + 1, s1.heap.objs.size], _, _, H1, rfl, I2, turn_enumT a (s1.heap.objs.size + 1) s1.heap.objs.size, ⟨⟨.none, he⟩, ⟨_, hit, rfl, rfl⟩, Nat.succ_ne_self _⟩, fun b hb => ?_, q⟩
    have hle : s1.heap.objs.size ≤ b := by
      rcases (by simpa using hb : b = s1.heap.objs.size + 1 ∨ b = s1.heap.objs.size) with rfl | rfl
      · exact Nat.le_succ _
      · exact Nat.le_refl _
    exact I1.fpOk hle (I1.hok.fresh hle)
end MP

set_option maxRecDepth 100000
set_option maxHeartbeats 1000000
namespace MP
open PySem PySem.Spec PyProof.Rows L2
/-! ### what is walked -/
def Pre (Ad Ad' : List Addr) : Prop := ∀ (n : Nat) (a : Addr), Ad[n]? = some a → Ad'[n]? = some a
def KsOk (ks : List (Addr × HO)) (H : Hp) : Prop := ∀ k ∈ ks, H k.1 = some k.2
structure ItOk (K : PySem.W.Frag) (F : Hp) (Ad : List Addr) (ks : List (Addr × HO)) (J : It) (ds : List D) : Prop where
  go : ∀ (i : Nat) F' Ad' M' H', i < ds.length → FLe F F' → Pre Ad Ad' → MemOk K F' Ad' M' H' → KsOk ks H' → J.go i H'
  stop : ∀ F' Ad' M' H', FLe F F' → Pre Ad Ad' → MemOk K F' Ad' M' H' → KsOk ks H' → J.stop ds.length H'
  yld : ∀ (i : Nat) F' Ad' M' H' x H'', i < ds.length → FLe F F' → Pre Ad Ad' → MemOk K F' Ad' M' H' → KsOk ks H' → J.yld i H' x H'' →
    ∃ d F'', ds[i]? = some d ∧ Gr F' Ad' H' F'' Ad' H'' ∧ MemOk K F'' Ad' M' H'' ∧ Den K F'' Ad' x d
/-- the sequence at a is ds, wherever we look -/
def AtL (K : PySem.W.Frag) (F : Hp) (Ad : List Addr) (ks : List (Addr × HO)) (a : Addr) (ds : List D) : Prop :=
  ∀ F' Ad' M' H', FLe F F' → Pre Ad Ad' → MemOk K F' Ad' M' H' → KsOk ks H' → ∃ vs, SqL K H' a vs ∧ DenL K F' Ad' vs ds
def AtT (K : PySem.W.Frag) (F : Hp) (Ad : List Addr) (ks : List (Addr × HO)) (a : Addr) (ds : List D) : Prop :=
  ∀ F' Ad' M' H', FLe F F' → Pre Ad Ad' → MemOk K F' Ad' M' H' → KsOk ks H' → ∃ vs, SqT K H' a vs ∧ DenL K F' Ad' vs ds
def enumD (ds : List D) : List D := ds.mapIdx fun i d => .tup [.int i, d]
section
variable {K : PySem.W.Frag} {F H : Hp} {Ad : List Addr} {M : List D} {ks : List (Addr × HO)} {a : Addr} {ds : List D}
theorem atL_lst {vs} (h : F a = some (.lst vs)) (r : DenL K F Ad vs ds) : AtL K F Ad [] a ds := fun F' Ad' M' H' l p m _ =>
  ⟨vs, SqL.of (m.sub _ _ (nrm_lst (l a (.lst vs) (by rw [h]; rfl)))), r.mono l p⟩
theorem atL_own {vs} (h : H a = some (.lst vs)) (r : DenL K F Ad vs ds) : AtL K F Ad [(a, .lst vs)] a ds := fun F' Ad' M' H' l p m k =>
  ⟨vs, SqL.of (k (a, .lst vs) (by simp)), r.mono l p⟩
theorem atL_scr {ns : List Int} (h : SqL K F a (ns.map V.int)) : AtL K F Ad [] a (ns.map D.int) := fun F' Ad' M' H' l p m _ =>
  ⟨_, sqL_sub m (sqL_fle l h), DenL.map_int⟩
theorem atT_tup {vs} (h : F a = some (.tup vs)) (r : DenL K F Ad vs ds) : AtT K F Ad [] a ds := fun F' Ad' M' H' l p m _ =>
  ⟨vs, SqT.of (m.sub _ _ (nrm_tup (l a (.tup vs) (by rw [h]; rfl)))), r.mono l p⟩
theorem atT_ktp {vs} (h : SqT K F a vs) (r : DenL K F Ad vs ds) : AtT K F Ad [] a ds := fun F' Ad' M' H' l p m _ =>
  ⟨vs, sqT_sub m (sqT_fle l h), r.mono l p⟩
theorem DenL.lt {vs} {i : Nat} (r : DenL K F Ad vs ds) (h : i < ds.length) : ∃ v d, vs[i]? = some v ∧ ds[i]? = some d ∧ Den K F Ad v d := by
  obtain ⟨v, h1, h2⟩ := r.get (List.getElem?_eq_getElem h)
  exact ⟨v, _, h1, List.getElem?_eq_getElem h, h2⟩
theorem it_l (h : AtL K F Ad ks a ds) : ItOk K F Ad ks (Itl K a) ds where
  go := fun i F' Ad' M' H' hi l p m k => by
    obtain ⟨vs, h1, h2⟩ := h F' Ad' M' H' l p m k
    obtain ⟨v, d, e1, e2, e3⟩ := h2.lt hi
    exact ⟨vs, v, h1, e1⟩
  stop := fun F' Ad' M' H' l p m k => by
    obtain ⟨vs, h1, h2⟩ := h F' Ad' M' H' l p m k
    exact ⟨vs, h1, by rw [h2.length]; exact Nat.le_refl _⟩
  yld := fun i F' Ad' M' H' x H'' hi l p m k ⟨e, q⟩ => by
    subst e
    obtain ⟨vs, h1, h2⟩ := h F' Ad' M' H'' l p m k
    obtain ⟨v, d, e1, e2, e3⟩ := h2.lt hi
    rw [q vs h1] at e1; cases e1
    exact ⟨d, F', e2, Gr.refl, m, e3⟩
theorem it_t (h : AtT K F Ad ks a ds) : ItOk K F Ad ks (Itt K a) ds where
  go := fun i F' Ad' M' H' hi l p m k => by
    obtain ⟨vs, h1, h2⟩ := h F' Ad' M' H' l p m k
    obtain ⟨v, d, e1, e2, e3⟩ := h2.lt hi
    exact ⟨vs, v, h1, e1⟩
  stop := fun F' Ad' M' H' l p m k => by
    obtain ⟨vs, h1, h2⟩ := h F' Ad' M' H' l p m k
    exact ⟨vs, h1, by rw [h2.length]; exact Nat.le_refl _⟩
  yld := fun i F' Ad' M' H' x H'' hi l p m k ⟨e, q⟩ => by
    subst e
    obtain ⟨vs, h1, h2⟩ := h F' Ad' M' H'' l p m k
    obtain ⟨v, d, e1, e2, e3⟩ := h2.lt hi
    rw [q vs h1] at e1; cases e1
    exact ⟨d, F', e2, Gr.refl, m, e3⟩
theorem enum_len : (enumD ds).length = ds.length := by unfold enumD; simp
theorem enum_get {i : Nat} {d : D} (h : ds[i]? = some d) : (enumD ds)[i]? = some (.tup [.int i, d]) := by unfold enumD; simp [h]
theorem pair_new {F H : Hp} {Ad : List Addr} {M : List D} {T : Addr} {x : V} {d : D} {i : Int} (m : MemOk K F Ad M H) (hT : H T = none) (x1 : Den K F Ad x d) :
    Gr F Ad H (upd F T (.tup [.int i, x])) Ad (upd H T (.tup [.int i, x])) ∧ MemOk K (upd F T (.tup [.int i, x])) Ad M (upd H T (.tup [.int i, x])) ∧ Den K (upd F T (.tup [.int i, x])) Ad (.ref T) (.tup [.int i, d]) :=
  ⟨gr_new m hT, mem_new m hT, .tup upd_same (.cons .int (.cons (x1.mono (fle_new (m.none hT)) fun _ _ h => h) .nil))⟩
theorem it_e (h : AtL K F Ad ks a ds) : ItOk K F Ad ks (Ite K a) (enumD ds) where
  go := fun i F' Ad' M' H' hi l p m k => by
    rw [enum_len] at hi
    obtain ⟨vs, h1, h2⟩ := h F' Ad' M' H' l p m k
    obtain ⟨v, d, e1, e2, e3⟩ := h2.lt hi
    exact ⟨vs, v, h1, e1⟩
  stop := fun F' Ad' M' H' l p m k => by
    obtain ⟨vs, h1, h2⟩ := h F' Ad' M' H' l p m k
    exact ⟨vs, h1, by rw [h2.length, enum_len]; exact Nat.le_refl _⟩
  yld := fun i F' Ad' M' H' x H'' hi l p m k ⟨T, y, ex, hT, e, q⟩ => by
    rw [enum_len] at hi
    subst e; subst ex
    obtain ⟨vs, h1, h2⟩ := h F' Ad' M' H' l p m k
    obtain ⟨v, d, e1, e2, e3⟩ := h2.lt hi
    rw [q vs h1] at e1; cases e1
    obtain ⟨g, m', dn⟩ := pair_new (i := (i : Nat)) m hT e3
    exact ⟨_, _, enum_get e2, g, m', dn⟩
theorem it_et (h : AtT K F Ad ks a ds) : ItOk K F Ad ks (IteT K a) (enumD ds) where
  go := fun i F' Ad' M' H' hi l p m k => by
    rw [enum_len] at hi
    obtain ⟨vs, h1, h2⟩ := h F' Ad' M' H' l p m k
    obtain ⟨v, d, e1, e2, e3⟩ := h2.lt hi
    exact ⟨vs, v, h1, e1⟩
  stop := fun F' Ad' M' H' l p m k => by
    obtain ⟨vs, h1, h2⟩ := h F' Ad' M' H' l p m k
    exact ⟨vs, h1, by rw [h2.length, enum_len]⟩
  yld := fun i F' Ad' M' H' x H'' hi l p m k ⟨T, y, ex, hT, e, q⟩ => by
    rw [enum_len] at hi
    subst e; subst ex
    obtain ⟨vs, h1, h2⟩ := h F' Ad' M' H' l p m k
    obtain ⟨v, d, e1, e2, e3⟩ := h2.lt hi
    rw [q vs h1] at e1; cases e1
    obtain ⟨g, m', dn⟩ := pair_new (i := (i : Nat)) m hT e3
    exact ⟨_, _, enum_get e2, g, m', dn⟩
def rngD (lo : Int) (n : Nat) : List D := (List.range n).map fun (k : Nat) => D.int (lo + (k : Nat))
theorem it_r {lo : Int} {n : Nat} : ItOk K F Ad [] (Itr lo n) (rngD lo n) where
  go := fun i F' Ad' M' H' hi l p m k => by show i < n; simpa [rngD] using hi
  stop := fun F' Ad' M' H' l p m k => by show n ≤ (rngD lo n).length; simp [rngD]
  yld := fun i F' Ad' M' H' x H'' hi l p m k ⟨e, q⟩ => by
    subst e; subst q
    have hi : i < n := by simpa [rngD] using hi
    exact ⟨.int (lo + (i : Nat)), F', by simp [rngD, hi], Gr.refl, m, .int⟩
end
/-- st: the walk needs nothing but what stays -/
def tI (K : PySem.W.Frag) (W : WX) (st : Bool) (f : LF) : TI := fun σ H R => ∃ N0 F Ad M env, MemOk K F Ad M H ∧ EnvOk K N0 F Ad H σ env ∧ (match f env M with
  | .ok ds M1 => ∀ J ks F' Ad' H', Gr F Ad H F' Ad' H' → MemOk K F' Ad' M1 H' → ItOk K F' Ad' ks J ds → KsOk ks H' → (∀ k ∈ ks, k.1 ∉ Ad' ∧ ∀ ps, k.2 ≠ .tbl ps) → (st = true → ks = []) → R J H'
  | .exc x M1 => ∀ cls dx F' Ad' H', Gr F Ad H F' Ad' H' → MemOk K F' Ad' M1 H' → XOk K F' Ad' H' x cls dx → W cls dx σ H'
  | .stuck => False)
abbrev SI (X : Cx) (W : WX) (st : Bool) (tg iter : Expr) (f : LF) : Prop := PI X tg iter (tI X.K W st f)
section
variable {X : Cx} {W : WX} {K : PySem.W.Frag} {N0 : Ent} {F H : Hp} {Ad : List Addr} {M : List D} {env : EnvM} {σ : St} {tg e e' : Expr} {f f' : EF} {l : LF} {pos p : Pos}
theorem PI.imp {t u : TI} (h : PI X tg e t) (i : ∀ σ H R, u σ H R → t σ H R) : PI X tg e u := ⟨fun pins s σ H R I q => h.run pins s σ H R I (i σ H R q)⟩
theorem PI.or {t u : TI} (h : PI X tg e t) (h' : PI X tg e u) : PI X tg e (fun σ H R => t σ H R ∨ u σ H R) := ⟨fun pins s σ H R I q => by
  rcases q with q | q
  · exact h.run pins s σ H R I q
  · exact h'.run pins s σ H R I q⟩
theorem SI.any (h : SI X W true tg e l) : SI X W false tg e l := PI.imp h fun σ H R ⟨N0, F, Ad, M, env, m, en, r⟩ => ⟨N0, F, Ad, M, env, m, en, by
  cases q : l env M with
  | ok ds M1 => rw [q] at r; exact fun J ks F' Ad' H' g m' it k k2 z => r J ks F' Ad' H' g m' it k k2 (fun h => nomatch h)
  | exc x M1 => rw [q] at r; exact r
  | stuck => rw [q] at r; exact r⟩
theorem pre_refl : Pre Ad Ad := fun _ _ h => h
/-- a list, a tuple, the script -/
def iSeq (f : EF) : LF := fun env M => (f env M).bindL fun d M1 => match d with
  | .lst xs => .ok xs M1
  | .tup xs => .ok xs M1
  | .ktp xs => .ok xs M1
  | .scr ns => .ok (ns.map .int) M1
  | _ => .stuck
theorem si_seq (h : SE X W e f) : SI X W true tg e (iSeq f) := PI.imp (PI.or (pi_list h) (pi_tup h)) fun σ H R ⟨N0, F, Ad, M, env, m, en, r⟩ => by
  unfold iSeq at r
  cases q : f env M with
  | ok d M1 =>
    rw [q, MP.R.bindL_ok] at r
    have lift : ∀ P : V → Hp → Prop, (∀ v F1 Ad1 H1, Gr F Ad H F1 Ad1 H1 → MemOk X.K F1 Ad1 M1 H1 → Den X.K F1 Ad1 v d → P v H1) → tG X.K W (DE X.K) f σ H P := fun P hP =>
      ⟨N0, F, Ad, M, env, m, en, by rw [q]; exact hP⟩
    cases d with
    | lst xs =>
      refine .inl (lift _ fun v F1 Ad1 H1 g1 m1 x1 => ?_)
      cases x1 with
      | lst h r1 => exact ⟨_, rfl, ⟨_, SqL.of (m1.sub _ _ h)⟩, r _ [] F1 Ad1 H1 g1 m1 (it_l (atL_lst h r1)) (fun _ z => nomatch z) (fun _ z => nomatch z) fun _ => rfl⟩
    | scr ns =>
      refine .inl (lift _ fun v F1 Ad1 H1 g1 m1 x1 => ?_)
      cases x1 with
      | scr h => exact ⟨_, rfl, ⟨_, sqL_sub m1 h⟩, r _ [] F1 Ad1 H1 g1 m1 (it_l (atL_scr h)) (fun _ z => nomatch z) (fun _ z => nomatch z) fun _ => rfl⟩
    | tup xs =>
      refine .inr (lift _ fun v F1 Ad1 H1 g1 m1 x1 => ?_)
      cases x1 with
      | tup h r1 => exact ⟨_, rfl, ⟨_, SqT.of (m1.sub _ _ h)⟩, r _ [] F1 Ad1 H1 g1 m1 (it_t (atT_tup h r1)) (fun _ z => nomatch z) (fun _ z => nomatch z) fun _ => rfl⟩
    | ktp xs =>
      refine .inr (lift _ fun v F1 Ad1 H1 g1 m1 x1 => ?_)
      cases x1 with
      | ktp h r1 => exact ⟨_, rfl, ⟨_, sqT_sub m1 h⟩, r _ [] F1 Ad1 H1 g1 m1 (it_t (atT_ktp h r1)) (fun _ z => nomatch z) (fun _ z => nomatch z) fun _ => rfl⟩
    | _ => exact r.elim
  | exc x M1 => rw [q] at r; exact .inl ⟨N0, F, Ad, M, env, m, en, by rw [q]; exact r⟩
  | stuck => rw [q] at r; exact r.elim
/-- the same over a borrowed own list -/
theorem si_seqB (h : SB X W e f) : SI X W false tg e (iSeq f) := PI.imp (PI.or (pi_list h) (pi_tup h)) fun σ H R ⟨N0, F, Ad, M, env, m, en, r⟩ => by
  unfold iSeq at r
  cases q : f env M with
  | ok d M1 =>
    rw [q, MP.R.bindL_ok] at r
    have lift : ∀ P : V → Hp → Prop, (∀ v F1 Ad1 H1, Gr F Ad H F1 Ad1 H1 → MemOk X.K F1 Ad1 M1 H1 → DB X.K H F1 Ad1 H1 v d → P v H1) → tG X.K W (DB X.K) f σ H P := fun P hP =>
      ⟨N0, F, Ad, M, env, m, en, by rw [q]; exact hP⟩
    cases d with
    | lst xs =>
      refine .inl (lift _ fun v F1 Ad1 H1 g1 m1 x1 => ?_)
      rcases x1 with x1 | ⟨a, rfl, n1, n2, x1⟩
      · cases x1 with
        | lst h r1 => exact ⟨_, rfl, ⟨_, SqL.of (m1.sub _ _ h)⟩, r _ [] F1 Ad1 H1 g1 m1 (it_l (atL_lst h r1)) (fun _ z => nomatch z) (fun _ z => nomatch z) fun _ => rfl⟩
      · cases x1 with
        | lst h r1 => exact ⟨a, rfl, ⟨_, SqL.of h⟩, r _ _ F1 Ad1 H1 g1 m1 (it_l (atL_own h r1)) (fun k hk => by simp at hk; subst hk; exact h) (fun k hk => by simp at hk; subst hk; exact ⟨n2, fun ps z => nomatch z⟩) (fun z => nomatch z)⟩
    | scr ns =>
      refine .inl (lift _ fun v F1 Ad1 H1 g1 m1 x1 => ?_)
      cases x1.den (fun a h => nomatch h) with
      | scr h => exact ⟨_, rfl, ⟨_, sqL_sub m1 h⟩, r _ [] F1 Ad1 H1 g1 m1 (it_l (atL_scr h)) (fun _ z => nomatch z) (fun _ z => nomatch z) fun _ => rfl⟩
    | tup xs =>
      refine .inr (lift _ fun v F1 Ad1 H1 g1 m1 x1 => ?_)
      cases x1.den (fun a h => nomatch h) with
      | tup h r1 => exact ⟨_, rfl, ⟨_, SqT.of (m1.sub _ _ h)⟩, r _ [] F1 Ad1 H1 g1 m1 (it_t (atT_tup h r1)) (fun _ z => nomatch z) (fun _ z => nomatch z) fun _ => rfl⟩
    | ktp xs =>
      refine .inr (lift _ fun v F1 Ad1 H1 g1 m1 x1 => ?_)
      cases x1.den (fun a h => nomatch h) with
      | ktp h r1 => exact ⟨_, rfl, ⟨_, sqT_sub m1 h⟩, r _ [] F1 Ad1 H1 g1 m1 (it_t (atT_ktp h r1)) (fun _ z => nomatch z) (fun _ z => nomatch z) fun _ => rfl⟩
    | _ => exact r.elim
  | exc x M1 => rw [q] at r; exact .inl ⟨N0, F, Ad, M, env, m, en, by rw [q]; exact r⟩
  | stuck => rw [q] at r; exact r.elim
/-- enumerate of such -/
def iEnu (f : EF) : LF := fun env M => (f env M).bindL fun d M1 => match d with
  | .lst xs => .ok (enumD xs) M1
  | .tup xs => .ok (enumD xs) M1
  | .ktp xs => .ok (enumD xs) M1
  | _ => .stuck
theorem sl_one {DR : DRel} {g : EF} (h : PE X e (tG X.K W DR g)) (hs : starEach [e] X.env = [(false, eval e X.env)]) : PA X [e] (fun σ H Q => tG X.K W DR g σ H fun x H1 => Q [x] H1) := pa_cons h pa_nil hs
theorem si_enu {elts : List Expr} {kk : Nat} {tpos : Pos} (h : SE X W e f) (hg : Gl X "enumerate") (hm : X.mg "enumerate" = none) (hs : starEach [e] X.env = [(false, eval e X.env)] := by rfl) :
    SI X W true (.Tuple elts kk tpos) (.Call (.Name "enumerate" p) [e] [] pos) (iEnu f) := PI.imp (PI.or (pi_enum hg hm (sl_one h hs) hs) (pi_enumT hg hm (sl_one h hs) hs)) fun σ H R ⟨N0, F, Ad, M, env, m, en, r⟩ => by
  unfold iEnu at r
  cases q : f env M with
  | ok d M1 =>
    rw [q, MP.R.bindL_ok] at r
    have lift : ∀ P : V → Hp → Prop, (∀ v F1 Ad1 H1, Gr F Ad H F1 Ad1 H1 → MemOk X.K F1 Ad1 M1 H1 → Den X.K F1 Ad1 v d → P v H1) → tG X.K W (DE X.K) f σ H P := fun P hP =>
      ⟨N0, F, Ad, M, env, m, en, by rw [q]; exact hP⟩
    cases d with
    | lst xs =>
      refine .inl (lift _ fun v F1 Ad1 H1 g1 m1 x1 => ?_)
      cases x1 with
      | lst h r1 => exact ⟨_, _, rfl, SqL.of (m1.sub _ _ h), r _ [] F1 Ad1 H1 g1 m1 (it_e (atL_lst h r1)) (fun _ z => nomatch z) (fun _ z => nomatch z) fun _ => rfl⟩
    | tup xs =>
      refine .inr (lift _ fun v F1 Ad1 H1 g1 m1 x1 => ?_)
      cases x1 with
      | tup h r1 => exact ⟨_, _, rfl, SqT.of (m1.sub _ _ h), r _ [] F1 Ad1 H1 g1 m1 (it_et (atT_tup h r1)) (fun _ z => nomatch z) (fun _ z => nomatch z) fun _ => rfl⟩
    | ktp xs =>
      refine .inr (lift _ fun v F1 Ad1 H1 g1 m1 x1 => ?_)
      cases x1 with
      | ktp h r1 => exact ⟨_, _, rfl, sqT_sub m1 h, r _ [] F1 Ad1 H1 g1 m1 (it_et (atT_ktp h r1)) (fun _ z => nomatch z) (fun _ z => nomatch z) fun _ => rfl⟩
    | _ => exact r.elim
  | exc x M1 => rw [q] at r; exact .inl ⟨N0, F, Ad, M, env, m, en, by rw [q]; exact r⟩
  | stuck => rw [q] at r; exact r.elim
/-- range -/
def inR (i : Int) : Prop := i.natAbs / 1152921504606846976 = 0
theorem inR.b {i : Int} (h : inR i) : -(2 ^ 62) ≤ i ∧ i < 2 ^ 62 := by
  have h1 : i.natAbs < 1152921504606846976 := (Nat.div_eq_zero_iff_lt (by decide)).mp h
  have e : (2 : Int) ^ 62 = 4611686018427387904 := by decide
  rw [e]; omega
instance {i : Int} : Decidable (inR i) := by unfold inR; exact inferInstance
def iRng1 (a : EF) : LF := fun env M => (a env M).bindL fun d M1 => match d with
  | .int j => if inR j then .ok (rngD 0 j.toNat) M1 else .stuck
  | _ => .stuck
def iRng2 (a b : EF) : LF := fun env M => (a env M).bindL fun d M1 => (b env M1).bindL fun d2 M2 => match d, d2 with
  | .int i, .int j => if inR i ∧ inR j then .ok (rngD i (j - i).toNat) M2 else .stuck
  | _, _ => .stuck
theorem si_rng1 {a : Expr} (h : SE X W a f) (hg : Gl X "range") (hm : X.mg "range" = none) (hs : starEach [a] X.env = [(false, eval a X.env)] := by rfl) : SI X W true tg (.Call (.Name "range" p) [a] [] pos) (iRng1 f) :=
  PI.imp (pi_range1 hg hm (sl_one h hs) hs) fun σ H Rr ⟨N0, F, Ad, M, env, m, en, r⟩ => by
    unfold iRng1 at r
    refine ⟨N0, F, Ad, M, env, m, en, ?_⟩
    cases q : f env M with
    | ok d M1 =>
      rw [q, MP.R.bindL_ok] at r
      intro v F1 Ad1 H1 g1 m1 x1
      cases d with
      | int j =>
        cases x1
        by_cases hj : inR j
        · dsimp only at r; rw [if_pos hj] at r
          exact ⟨j, rfl, hj.b.1, hj.b.2, r _ [] F1 Ad1 H1 g1 m1 it_r (fun _ z => nomatch z) (fun _ z => nomatch z) fun _ => rfl⟩
        · dsimp only at r; rw [if_neg hj] at r; exact r.elim
      | _ => exact r.elim
    | exc x M1 => rw [q] at r; exact r
    | stuck => rw [q] at r; exact r
theorem si_rng2 {a b : Expr} (h : SE X W a f) (h' : SE X W b f') (hg : Gl X "range") (hm : X.mg "range" = none) (hs : starEach [a, b] X.env = [(false, eval a X.env), (false, eval b X.env)] := by rfl) (hs2 : starEach [b] X.env = [(false, eval b X.env)] := by rfl) :
    SI X W true tg (.Call (.Name "range" p) [a, b] [] pos) (iRng2 f f') :=
  PI.imp (pi_range2 hg hm (pa_cons h (sl_one h' hs2) (by rw [hs, hs2])) hs hs2) fun σ H Rr ⟨N0, F, Ad, M, env, m, en, r⟩ => by
    unfold iRng2 at r
    refine ⟨N0, F, Ad, M, env, m, en, ?_⟩
    cases q : f env M with
    | ok d M1 =>
      rw [q, MP.R.bindL_ok] at r
      intro v F1 Ad1 H1 g1 m1 x1
      refine ⟨N0, F1, Ad1, M1, env, m1, en.gr g1, ?_⟩
      cases q2 : f' env M1 with
      | ok d2 M2 =>
        rw [q2, MP.R.bindL_ok] at r
        intro v2 F2 Ad2 H2 g2 m2 x2
        cases d with
        | int i => cases d2 with
          | int j =>
            cases x1; cases x2
            by_cases hj : inR i ∧ inR j
            · dsimp only at r; rw [if_pos hj] at r
              exact ⟨i, j, rfl, ⟨hj.1.b.1, hj.1.b.2, hj.2.b.1, hj.2.b.2⟩, r _ [] F2 Ad2 H2 (g1.trans g2) m2 it_r (fun _ z => nomatch z) (fun _ z => nomatch z) fun _ => rfl⟩
            · dsimp only at r; rw [if_neg hj] at r; exact r.elim
          | _ => exact r.elim
        | _ => exact r.elim
      | exc x M2 => rw [q2] at r; exact fun cls dx F' Ad' H' g m' z => r cls dx F' Ad' H' (g1.trans g) m' z
      | stuck => rw [q2] at r; exact r
    | exc x M1 => rw [q] at r; exact r
    | stuck => rw [q] at r; exact r

/-! ### targets -/
def gN (j : Nat) (d : D) (env : EnvM) : Option EnvM := match env[j]? with
  | some (.slf _) => none
  | some _ => some (env.set j (.shr d))
  | none => none
def gAll : List Nat → List D → EnvM → Option EnvM
  | [], [], env => some env
  | j :: js, d :: ds, env => (gN j d env).bind (gAll js ds)
  | _, _, _ => none
def gT (js : List Nat) (d : D) (env : EnvM) : Option EnvM := match d with
  | .tup ds => gAll js ds env
  | _ => none
theorem EnvOk.set {j : Nat} {v : V} {d : D} {env' : EnvM} (en : EnvOk K N0 F Ad H σ env) (x : Den K F Ad v d) (h : gN j d env = some env') : EnvOk K N0 F Ad H (σ.set j (some v)) env' := by
  have hlt : j < env.length ∧ env' = env.set j (.shr d) ∧ ∀ e, env[j]? ≠ some (.slf e) := by
    unfold gN at h
    split at h
    · cases h
    · rename_i b hb hn
      cases h
      exact ⟨(List.getElem?_eq_some_iff.mp hn).1, rfl, fun e z => hb e (by rw [hn] at z; exact Option.some.inj z)⟩
    · cases h
  obtain ⟨hl, rfl, hns⟩ := hlt
  refine ⟨by simp [en.len], fun i d' hi => ?_, fun i d' hi => ?_, fun i k d1 d2 a h1 h2 h3 h4 => ?_, fun i d' hi => ?_⟩
  · by_cases e : j = i
    · subst e
      rw [List.getElem?_set_self hl] at hi; cases hi
      exact ⟨v, by rw [List.getElem?_set_self (by rw [← en.len]; exact hl)], x⟩
    · rw [List.getElem?_set_ne e] at hi ⊢; exact en.shr i d' hi
  · by_cases e : j = i
    · subst e; rw [List.getElem?_set_self hl] at hi; cases hi
    · rw [List.getElem?_set_ne e] at hi ⊢; exact en.own i d' hi
  · have e1 : j ≠ i := fun e => by subst e; rw [List.getElem?_set_self hl] at h1; cases h1
    have e2 : j ≠ k := fun e => by subst e; rw [List.getElem?_set_self hl] at h2; cases h2
    rw [List.getElem?_set_ne e1] at h1 h3
    rw [List.getElem?_set_ne e2] at h2 h4
    exact en.dis i k d1 d2 a h1 h2 h3 h4
  · have e : j ≠ i := fun e => by subst e; rw [List.getElem?_set_self hl] at hi; cases hi
    rw [List.getElem?_set_ne e] at hi ⊢
    obtain ⟨h0, h1, h2, h3, h4, h5, h6⟩ := en.slf i d' hi
    refine ⟨h0, h1, h2, h3, h4, h5, fun k d2 hk => ?_⟩
    have e2 : j ≠ k := fun e => by subst e; rw [List.getElem?_set_self hl] at hk; cases hk
    rw [List.getElem?_set_ne e2] at hk ⊢
    exact h6 k d2 hk
theorem wipe_set {σ : St} {j : Nat} {v : Option V} : ∀ {vs : List Nat}, j ∈ vs → wipe (σ.set j v) vs = wipe σ vs
  | k :: vs, h => by
    unfold wipe
    by_cases e : j ∈ vs
    · rw [wipe_set e]
    · have ek : j = k := by simpa [e] using h
      subst ek
      have key : ∀ ws : List Nat, j ∉ ws → wipe (σ.set j v) ws = (wipe σ ws).set j v := by
        intro ws
        induction ws with
        | nil => intro _; rfl
        | cons w ws ih =>
          intro hn
          simp only [List.mem_cons, not_or] at hn
          unfold wipe
          rw [ih hn.2, List.set_comm _ _ hn.1]
      rw [key vs e, List.set_set]
/-- a target: gd over data; js its slots -/
structure TgOk (K : PySem.W.Frag) (js : List Nat) (gd : D → EnvM → Option EnvM) (g : TG) : Prop where
  ok : ∀ (N0 : Ent) (F : Hp) Ad M H σ env v d env' (Q : St → Hp → Prop), MemOk K F Ad M H → EnvOk K N0 F Ad H σ env → Den K F Ad v d → gd d env = some env' → (∀ σ', EnvOk K N0 F Ad H σ' env' → (∀ vs, (∀ j ∈ js, j ∈ vs) → wipe σ' vs = wipe σ vs) → Q σ' H) → g v σ H Q
theorem tg_n {j : Nat} : TgOk K [j] (gN j) (gName j) := ⟨fun N0 F Ad M H σ env v d env' Q m en x h q => q _ (en.set x h) fun vs hv => wipe_set (hv j (by simp))⟩
/-- several names -/
structure TgsOk (K : PySem.W.Frag) (js : List Nat) (g : TGs) : Prop where
  ok : ∀ (N0 : Ent) (F : Hp) Ad M H σ env vs ds env' (Q : St → Hp → Prop), MemOk K F Ad M H → EnvOk K N0 F Ad H σ env → DenL K F Ad vs ds → gAll js ds env = some env' → (∀ σ', EnvOk K N0 F Ad H σ' env' → (∀ us, (∀ j ∈ js, j ∈ us) → wipe σ' us = wipe σ us) → Q σ' H) → g vs σ H Q
theorem tgs_nil : TgsOk K [] gNil := ⟨fun N0 F Ad M H σ env vs ds env' Q m en x h q => by
  cases x with
  | nil => simp [gAll] at h; subst h; exact ⟨rfl, q σ en fun _ _ => rfl⟩
  | cons _ _ => simp [gAll] at h⟩
theorem tgs_cons {j : Nat} {js : List Nat} {g : TGs} (r : TgsOk K js g) : TgsOk K (j :: js) (gCons (gName j) g) := ⟨fun N0 F Ad M H σ env vs ds env' Q m en x h q => by
  cases x with
  | nil => simp [gAll] at h
  | @cons v d vs ds x1 x2 =>
    simp only [gAll, Option.bind_eq_some_iff] at h
    obtain ⟨env1, h1, h2⟩ := h
    refine ⟨v, vs, rfl, ?_⟩
    refine r.ok N0 F Ad M H _ env1 vs ds env' Q m (en.set x1 h1) x2 h2 fun σ' en' hw => q σ' en' fun us hu => ?_
    rw [hw us fun k hk => hu k (List.mem_cons_of_mem _ hk), wipe_set (hu j (by simp))]⟩
theorem tg_t {js : List Nat} {g : TGs} {n : Nat} (r : TgsOk K js g) (hn : js.length = n) : TgOk K js (gT js) (gTup K n g) := ⟨fun N0 F Ad M H σ env v d env' Q m en x h q => by
  unfold gT at h
  split at h
  · rename_i ds
    cases x with
    | tup h1 h2 =>
      refine ⟨_, _, rfl, SqT.of (m.sub _ _ h1), ?_, r.ok N0 F Ad M H σ env _ ds env' Q m en h2 h q⟩
      rw [h2.length, ← hn]
      have key : ∀ (js : List Nat) (ds : List D) (env : EnvM), gAll js ds env = some env' → ds.length = js.length := by
        intro js
        induction js with
        | nil => intro ds env h; cases ds with
          | nil => rfl
          | cons _ _ => simp [gAll] at h
        | cons j js ih => intro ds env h; cases ds with
          | nil => simp [gAll] at h
          | cons d ds =>
            simp only [gAll, Option.bind_eq_some_iff] at h
            obtain ⟨env1, h1, h2⟩ := h
            simp [ih ds env1 h2]
      exact key js ds env h
  · cases h⟩
end
end MP

set_option maxRecDepth 100000
set_option maxHeartbeats 1000000
namespace MP
open PySem PySem.Spec PyProof.Rows L2
/-! ### list comprehensions -/
def wipeE (env : EnvM) : List Nat → EnvM
  | [] => env
  | v :: vs => (wipeE env vs).set v .no
def compL (gd : D → EnvM → Option EnvM) (ft fe : EF) (env0 : EnvM) : List D → List D → List D → R
  | [], acc, M => .ok (.lst acc) M
  | d :: ds, acc, M => match gd d env0 with
    | none => .stuck
    | some env1 => match ft env1 M with
      | .ok (.bl true) M1 => (match fe env1 M1 with
        | .ok y M2 => if acc.length < sizeLine then compL gd ft fe env0 ds (acc ++ [y]) M2 else .stuck
        | _ => .stuck)
      | .ok (.bl false) M1 => compL gd ft fe env0 ds acc M1
      | _ => .stuck
def eComp (l : LF) (gd : D → EnvM → Option EnvM) (ft fe : EF) (vs : List Nat) : EF := fun env M => (l env M).bind fun ds M1 => compL gd ft fe (wipeE env vs) ds [] M1
/-- the tests of a comprehension -/
abbrev STs (X : Cx) (W : WX) (ifs : List Expr) (f : EF) : Prop := PTs X ifs (tT X.K W f)
section
variable {X : Cx} {W : WX} {K : PySem.W.Frag} {N0 : Ent} {F H : Hp} {Ad : List Addr} {M : List D} {env : EnvM} {σ : St} {e : Expr} {f : EF}
theorem PTs.imp {es : List Expr} {t u : TT} (h : PTs X es t) (i : ∀ σ H Q, u σ H Q → t σ H Q) : PTs X es u := ⟨fun pins s σ H Q I q => h.run pins s σ H Q I (i σ H Q q)⟩
theorem sts_nil : STs X W [] (eC (.bl true)) := PTs.imp pts_nil fun σ H Q ⟨N0, F, Ad, M, env, m, en, r⟩ => RPT.here (b := true) r m
theorem sts_one (h : ST X W e f) : STs X W [e] f := pts_one h
theorem EnvOk.wipe1 {j : Nat} (en : EnvOk K N0 F Ad H σ env) : EnvOk K N0 F Ad H (σ.set j none) (env.set j .no) := by
  have hno : ∀ {i : Nat} {b : B}, (env.set j .no)[i]? = some b → b ≠ .no → j ≠ i ∧ env[i]? = some b := fun {i b} h hb => by
    by_cases e : j = i
    · subst e
      by_cases hl : j < env.length
      · rw [List.getElem?_set_self hl] at h; cases h; exact absurd rfl hb
      · rw [List.getElem?_eq_none (by simp; omega)] at h; cases h
    · rw [List.getElem?_set_ne e] at h; exact ⟨e, h⟩
  refine ⟨by simp [en.len], fun i d hi => ?_, fun i d hi => ?_, fun i k d1 d2 a h1 h2 h3 h4 => ?_, fun i d hi => ?_⟩
  · obtain ⟨e, h⟩ := hno hi (fun z => nomatch z)
    rw [List.getElem?_set_ne e]; exact en.shr i d h
  · obtain ⟨e, h⟩ := hno hi (fun z => nomatch z)
    rw [List.getElem?_set_ne e]; exact en.own i d h
  · obtain ⟨e, h⟩ := hno h1 (fun z => nomatch z)
    obtain ⟨e', h'⟩ := hno h2 (fun z => nomatch z)
    rw [List.getElem?_set_ne e] at h3
    rw [List.getElem?_set_ne e'] at h4
    exact en.dis i k d1 d2 a h h' h3 h4
  · obtain ⟨e, h⟩ := hno hi (fun z => nomatch z)
    rw [List.getElem?_set_ne e]
    obtain ⟨h0, h1, h2, h3, h4, h5, h6⟩ := en.slf i d h
    refine ⟨h0, h1, h2, h3, h4, h5, fun k d2 hk => ?_⟩
    obtain ⟨e', h'⟩ := hno hk (fun z => nomatch z)
    rw [List.getElem?_set_ne e']
    exact h6 k d2 h'
theorem EnvOk.wipe (en : EnvOk K N0 F Ad H σ env) : ∀ vs : List Nat, EnvOk K N0 F Ad H (L2.wipe σ vs) (wipeE env vs)
  | [] => en
  | v :: vs => (en.wipe vs).wipe1
theorem Gr.pre' {F' H' : Hp} {Ad' : List Addr} (g : Gr F Ad H F' Ad' H') : Pre Ad Ad' := g.pre
theorem KsOk.gr {F' H' : Hp} {Ad' : List Addr} {ks : List (Addr × HO)} (g : Gr F Ad H F' Ad' H') (k : KsOk ks H) (n : ∀ k ∈ ks, k.1 ∉ Ad ∧ ∀ ps, k.2 ≠ .tbl ps) : KsOk ks H' := fun q hq => g.keep q.1 q.2 (k q hq) (n q hq).1 (n q hq).2
/-- the comprehension's reading -/
theorem lc_read {Wb : WX} {gd : D → EnvM → Option EnvM} {g : TG} {l : LF} {ft fe : EF} {js vs : List Nat} (tg : TgOk K js gd g) (hj : ∀ j ∈ js, j ∈ vs) {Q : VK} (h : tG K W (DO K) (eComp l gd ft fe vs) σ H Q) :
    tLc (tI K W false l) g (tT K WN ft) (tG K WN (DE K) fe) vs σ H Q := by
  obtain ⟨N0, F, Ad, M, env, m, en, r⟩ := h
  refine ⟨N0, F, Ad, M, env, m, en, ?_⟩
  unfold eComp at r
  cases ql : l env M with
  | exc x M1 => rw [ql] at r; exact r
  | stuck => rw [ql] at r; exact r
  | ok ds M1 =>
    rw [ql, RL.bind_ok] at r
    intro J ks F1 Ad1 H1 g1 m1 it k1 k2 _ D hD
    have en1 := en.gr g1
    -- the invariant
    let Inv' : Nat → Hp → Prop := fun i H2 => i ≤ ds.length ∧ ∃ F2 Ad2 M2 vacc acc, Gr F1 Ad1 H1 F2 Ad2 H2 ∧ MemOk K F2 Ad2 M2 H2 ∧ F2 D = none ∧ D ∉ Ad2 ∧ H2 D = some (.lst vacc) ∧ DenL K F2 Ad2 vacc acc ∧
      RP K (fun c d H => W c d σ H) (DO K) F Ad H Q (compL gd ft fe (wipeE env vs) (ds.drop i) acc M2)
    refine ⟨fun i mm H2 => mm = ds.length - i ∧ Inv' i H2, ⟨_, rfl, Nat.zero_le _, F1, Ad1, M1, [], [], gr_own hD, mem_own m1 hD, m1.none hD, m1.notin hD, upd_same, .nil, by simpa using r⟩, ?_⟩
    rintro i mm H2 ⟨rfl, hi, F2, Ad2, M2, vacc, acc, g2, m2, nF, nA, hH, da, r2⟩
    have kk := KsOk.gr g2 k1 k2
    by_cases hlt : i < ds.length
    · right
      refine ⟨it.go i F2 Ad2 M2 H2 hlt g2.fle g2.pre m2 kk, fun H' => Inv' (i + 1) H', fun H' h' => ⟨_, by omega, rfl, h'⟩, fun x H3 hy => ?_⟩
      obtain ⟨d, F3, hd, g3, m3, x3⟩ := it.yld i F2 Ad2 M2 H2 x H3 hlt g2.fle g2.pre m2 kk hy
      have hdrop : ds.drop i = d :: ds.drop (i + 1) := by
        rw [List.drop_eq_getElem_cons hlt]
        rw [List.getElem?_eq_getElem hlt] at hd
        cases hd; rfl
      rw [hdrop] at r2
      unfold compL at r2
      cases hg : gd d (wipeE env vs) with
      | none => rw [hg] at r2; exact r2.elim
      | some env1 =>
        rw [hg] at r2
        dsimp only at r2
        have g23 := g2.trans g3
        have enw : EnvOk K N0 F3 Ad2 H3 (L2.wipe σ vs) (wipeE env vs) := (en1.gr g23).wipe vs
        refine tg.ok N0 F3 Ad2 M2 H3 _ _ x d env1 _ m3 enw x3 hg fun σ' en' hw => ⟨?_, ?_⟩
        · have hwv := hw vs hj
          rw [hwv]
          have ww : ∀ ws : List Nat, (∀ w ∈ ws, w ∈ vs) → L2.wipe (L2.wipe σ vs) ws = L2.wipe σ vs := by
            intro ws
            induction ws with
            | nil => intro _; rfl
            | cons w ws ih =>
              intro hws
              show (L2.wipe (L2.wipe σ vs) ws).set w none = _
              rw [ih fun z hz => hws z (List.mem_cons_of_mem _ hz)]
              have hwm := hws w (by simp)
              have wn : ∀ us : List Nat, w ∈ us → (L2.wipe σ us).set w none = L2.wipe σ us := by
                intro us
                induction us with
                | nil => intro h; cases h
                | cons u us ih2 =>
                  intro h
                  show ((L2.wipe σ us).set u none).set w none = (L2.wipe σ us).set u none
                  by_cases e : w = u
                  · subst e; rw [List.set_set]
                  · rw [List.set_comm _ _ (fun z => e z.symm), ih2 (by simpa [e] using h)]
              exact wn vs hwm
          exact ww vs fun _ h => h
        · refine ⟨N0, F3, Ad2, M2, env1, m3, en', ?_⟩
          have hDH : ∀ {F4 Ad4 H4}, Gr F3 Ad2 H3 F4 Ad4 H4 → H4 D = some (.lst vacc) ∧ F4 D = none ∧ D ∉ Ad4 := fun {F4 Ad4 H4} g4 => by
            have e3 : H3 D = some (.lst vacc) := g3.keep D _ hH nA (fun _ z => nomatch z)
            have n3 : F3 D = none := g3.fnew D nF (by rw [hH]; simp)
            exact ⟨g4.keep D _ e3 nA (fun _ z => nomatch z), g4.fnew D n3 (by rw [e3]; simp), g4.notin (by rw [e3]; simp) nA⟩
          cases ht : ft env1 M2 with
          | exc x M3 => rw [ht] at r2; exact r2.elim
          | stuck => rw [ht] at r2; exact r2.elim
          | ok b M3 =>
            rw [ht] at r2
            cases b with
            | bl b =>
              intro F4 Ad4 H4 g4 m4
              have en4 := en'.gr g4
              cases b with
              | true =>
                dsimp only at r2
                rw [if_pos rfl]
                refine ⟨N0, F4, Ad4, M3, env1, m4, en4, ?_⟩
                cases he : fe env1 M3 with
                | exc x M5 => rw [he] at r2; exact r2.elim
                | stuck => rw [he] at r2; exact r2.elim
                | ok y M5 =>
                  rw [he] at r2
                  dsimp only at r2
                  intro v F5 Ad5 H5 g5 m5 x5
                  have g35 := g4.trans g5
                  obtain ⟨hD5, nF5, nA5⟩ := hDH g35
                  split at r2
                  · rename_i hsz
                    have g25 := g23.trans g35
                    have g_acc := g3.trans g35
                    have da5 := da.mono g_acc.fle g_acc.pre
                    have ap := da5.append (.cons x5 .nil)
                    refine ⟨vacc, hD5, by rw [da.length]; exact hsz, by omega, F5, Ad5, M5, _, acc ++ [y], ?_, ?_, nF5, nA5, upd_same, ap, r2⟩
                    · refine ⟨g25.fle, g25.fnew, g25.apre, fun a o ha hn hp => ?_, fun a ha => ?_⟩
                      · rw [upd_ne (fun e => by rw [e, hD] at ha; cases ha)]; exact g25.keep a o ha hn hp
                      · rw [upd_ne (fun e => ha (by rw [e]; exact hD))]; exact g25.alive a ha
                    · refine ⟨fun a u h => ?_, m5.len, m5.nd, fun n a d' h1 h2 => ?_⟩
                      · rw [upd_ne (fun e => by rw [e, nF5] at h; cases h)]; exact m5.sub a u h
                      · obtain ⟨z1, z2⟩ := m5.cel n a d' h1 h2
                        exact ⟨z1, z2.mono (FLe.refl _) (fun _ _ h => h) (by rw [upd_ne (fun e => nA5 (by rw [← e]; exact List.mem_of_getElem? h1))])⟩
                  · exact r2.elim
              | false =>
                dsimp only at r2
                rw [if_neg (by decide)]
                obtain ⟨hD4, nF4, nA4⟩ := hDH g4
                have g24 := g3.trans g4
                exact ⟨by omega, F4, Ad4, M3, vacc, acc, g2.trans g24, m4, nF4, nA4, hD4, da.mono g24.fle g24.pre, r2⟩
            | _ => exact r2.elim
    · left
      have hi2 : i = ds.length := by omega
      subst hi2
      refine ⟨it.stop F2 Ad2 M2 H2 g2.fle g2.pre m2 kk, ?_⟩
      rw [List.drop_length] at r2
      have hD0 : H D = none := by
        cases qq : H D with
        | none => rfl
        | some o => exact absurd hD (g1.alive D (by rw [qq]; simp))
      exact r2 (.ref D) F2 Ad2 H2 (g1.trans g2) m2 ⟨D, rfl, nF, nA, hD0, .lst hH da⟩
theorem so_lc {elt tg iter : Expr} {ifs : List Expr} {scope : Scope} {own : List (Str × Nat)} {pos : Pos} {gd : D → EnvM → Option EnvM} {g : TG} {l : LF} {ft fe : EF} {js : List Nat} (hc : X.calm = true) (hN : X.N.Nodup) (hi : SI X W false tg iter l) (ok : BlkOk X.N X.env.scope scope own)
    (tgo : TgOk X.K js gd g) (hj : ∀ j ∈ js, j ∈ own.map (·.2))
    (hg : ∀ (s : Shared) (H : Hp) (C : Addr) (cl : List (Str × Addr)) (fp : List Addr), PG (X.blk s H scope (compEnvC scope cl C X.env) fp) tg g) (ht : ∀ (s : Shared) (H : Hp) (C : Addr) (cl : List (Str × Addr)) (fp : List Addr), STs (X.blk s H scope (compEnvC scope cl C X.env) fp) WN ifs ft)
    (he : ∀ (s : Shared) (H : Hp) (C : Addr) (cl : List (Str × Addr)) (fp : List Addr), SE (X.blk s H scope (compEnvC scope cl C X.env) fp) WN elt fe) (hs : ∀ x, foldedSetIterable iter X.env x = pure x := by intro _; rfl) :
    SO X W (.ListComp elt [⟨tg, iter, ifs, 0⟩] scope pos) (eComp l gd ft fe (own.map (·.2))) :=
  PE.imp (pe_lc hc hN hi ok hg ht he hs) fun σ H Q h => lc_read (Wb := WN) tgo hj h
end
end MP

set_option maxRecDepth 100000
set_option maxHeartbeats 1000000
namespace MP
open PySem PySem.Spec PyProof.Rows L2
/-! ### statements -/
abbrev GrE (N0 : Ent) (F : Hp) (Ad : List Addr) (H : Hp) : Prop := Gr N0.fz N0.ad N0.hp F Ad H
def RPS (K : PySem.W.Frag) (W : WX) (DR : DRel) (D : Ends) (N0 : Ent) (F : Hp) (Ad : List Addr) : RS → Prop
  | .next env M => ∀ σ F' Ad' H', GrE N0 F' Ad' H' → FLe F F' → Pre Ad Ad' → MemOk K F' Ad' M H' → EnvOk K N0 F' Ad' H' σ env → D.nx σ H'
  | .ret d M => ∀ v F' Ad' H', GrE N0 F' Ad' H' → MemOk K F' Ad' M H' → DR N0.hp F' Ad' H' v d → D.rt v H'
  | .brk env M => ∀ σ F' Ad' H', GrE N0 F' Ad' H' → FLe F F' → Pre Ad Ad' → MemOk K F' Ad' M H' → EnvOk K N0 F' Ad' H' σ env → D.bk σ H'
  | .cont env M => ∀ σ F' Ad' H', GrE N0 F' Ad' H' → FLe F F' → Pre Ad Ad' → MemOk K F' Ad' M H' → EnvOk K N0 F' Ad' H' σ env → D.ct σ H'
  | .exc x env M => ∀ cls dx σ F' Ad' H', GrE N0 F' Ad' H' → FLe F F' → Pre Ad Ad' → MemOk K F' Ad' M H' → EnvOk K N0 F' Ad' H' σ env → XOk K F' Ad' H' x cls dx → W cls dx σ H'
  | .stuck => False
def tS (K : PySem.W.Frag) (W : WX) (DR : DRel) (b : SF) : TS := fun D σ H => ∃ N0 F Ad M env, GrE N0 F Ad H ∧ MemOk K F Ad M H ∧ EnvOk K N0 F Ad H σ env ∧ RPS K W DR D N0 F Ad (b env M)
abbrev SS (X : Cx) (W : WX) (DR : DRel) (st : Stmt) (b : SF) : Prop := PS X st (tS X.K W DR b)
abbrev SSs (X : Cx) (W : WX) (DR : DRel) (st : List Stmt) (b : SF) : Prop := PSs X st (tS X.K W DR b)
def bSeq (a b : SF) : SF := fun env M => match a env M with
  | .next env M => b env M
  | r => r
def bNext : SF := fun env M => .next env M
section
variable {X : Cx} {W : WX} {K : PySem.W.Frag} {DR : DRel} {D : Ends} {N0 : Ent} {F F1 H H1 : Hp} {Ad Ad1 : List Addr} {M : List MP.D} {env : EnvM} {σ : St} {e tg iter : Expr} {f : EF} {st : Stmt} {rest p q : List Stmt} {b b' : SF} {pos : Pos} {l : LF}
theorem Pre.trans {A B C : List Addr} (h : Pre A B) (h' : Pre B C) : Pre A C := fun n a q => h' n a (h n a q)
theorem RPS.gr {r : RS} (h : RPS K W DR D N0 F Ad r) (l : FLe F F1) (p : Pre Ad Ad1) : RPS K W DR D N0 F1 Ad1 r := by
  cases r with
  | next env M => exact fun σ F' Ad' H' g l' p' => h σ F' Ad' H' g (l.trans l') (p.trans p')
  | ret d M => exact h
  | brk env M => exact fun σ F' Ad' H' g l' p' => h σ F' Ad' H' g (l.trans l') (p.trans p')
  | cont env M => exact fun σ F' Ad' H' g l' p' => h σ F' Ad' H' g (l.trans l') (p.trans p')
  | exc x env M => exact fun cls dx σ F' Ad' H' g l' p' => h cls dx σ F' Ad' H' g (l.trans l') (p.trans p')
  | stuck => exact h
theorem ss_nil : SSs X W DR [] bNext := PSs.imp pss_nil fun D σ H ⟨N0, F, Ad, M, env, g, m, en, r⟩ => r σ F Ad H g (FLe.refl F) pre_refl m en
theorem tS_seq {t : SF} (h : tS K W DR (bSeq b t) D σ H) : tS K W DR b { D with nx := tS K W DR t D } σ H := by
  obtain ⟨N0, F, Ad, M, env, g, m, en, r⟩ := h
  refine ⟨N0, F, Ad, M, env, g, m, en, ?_⟩
  unfold bSeq at r
  cases q : b env M with
  | next env1 M1 => rw [q] at r; exact fun σ' F' Ad' H' g' l' p' m' en' => ⟨N0, F', Ad', M1, env1, g', m', en', RPS.gr r l' p'⟩
  | ret d M1 => rw [q] at r; exact r
  | brk env1 M1 => rw [q] at r; exact r
  | cont env1 M1 => rw [q] at r; exact r
  | exc x env1 M1 => rw [q] at r; exact r
  | stuck => rw [q] at r; exact r
theorem ss_cons (h : SS X W DR st b) (h' : SSs X W DR rest b') : SSs X W DR (st :: rest) (bSeq b b') := PSs.imp (pss_cons h h') fun D σ H x => tS_seq x
theorem ss_one (h : SS X W DR st b) : SSs X W DR [st] b := pss_one h
/-- a step of the state alone -/
theorem ss_pre {t : SF} (hp : ∀ D σ H, tS X.K W DR t D σ H → tS X.K W DR b D σ H) (h : SSs X W DR rest b) : SSs X W DR rest t := PSs.imp h hp
/-- an expression's result, then the rest -/
theorem tE_of {DE' : DRel} {k : MP.D → List MP.D → RS} {Q : VK} (g : GrE N0 F Ad H) (m : MemOk K F Ad M H) (en : EnvOk K N0 F Ad H σ env)
    (r : RPS K W DR D N0 F Ad ((f env M).bindS env k)) (hq : ∀ d M1 v F1 Ad1 H1, Gr F Ad H F1 Ad1 H1 → GrE N0 F1 Ad1 H1 → MemOk K F1 Ad1 M1 H1 → EnvOk K N0 F1 Ad1 H1 σ env → DE' H F1 Ad1 H1 v d → RPS K W DR D N0 F1 Ad1 (k d M1) → Q v H1) : tG K W DE' f σ H Q := by
  refine ⟨N0, F, Ad, M, env, m, en, ?_⟩
  unfold MP.R.bindS at r
  cases q : f env M with
  | ok d M1 => rw [q] at r; exact fun v F' Ad' H' g' m' x => hq d M1 v F' Ad' H' g' (g.trans g') m' (en.gr g') x (RPS.gr r g'.fle g'.pre)
  | exc x M1 => rw [q] at r; exact fun cls dx F' Ad' H' g' m' z => r cls dx σ F' Ad' H' (g.trans g') g'.fle g'.pre m' (en.gr g') z
  | stuck => rw [q] at r; exact r
theorem tT_of {k : MP.D → List MP.D → RS} {Q : Bool → Hp → Prop} (g : GrE N0 F Ad H) (m : MemOk K F Ad M H) (en : EnvOk K N0 F Ad H σ env)
    (r : RPS K W DR D N0 F Ad ((f env M).bindS env k)) (hn : ∀ d M1, (∀ c, d ≠ .bl c) → k d M1 = .stuck) (hq : ∀ c M1 F1 Ad1 H1, GrE N0 F1 Ad1 H1 → MemOk K F1 Ad1 M1 H1 → EnvOk K N0 F1 Ad1 H1 σ env → RPS K W DR D N0 F1 Ad1 (k (.bl c) M1) → Q c H1) : tT K W f σ H Q := by
  refine ⟨N0, F, Ad, M, env, m, en, ?_⟩
  unfold MP.R.bindS at r
  cases q : f env M with
  | ok d M1 =>
    rw [q] at r
    cases d with
    | bl c => exact fun F' Ad' H' g' m' => hq c M1 F' Ad' H' (g.trans g') m' (en.gr g') (RPS.gr r g'.fle g'.pre)
    | _ => dsimp only at r; rw [hn _ M1] at r; exact r.elim; intro c z; cases z
  | exc x M1 => rw [q] at r; exact fun cls dx F' Ad' H' g' m' z => r cls dx σ F' Ad' H' (g.trans g') g'.fle g'.pre m' (en.gr g') z
  | stuck => rw [q] at r; exact r
def bPass : SF := fun env M => .next env M
theorem ss_pass : SS X W DR (.Pass pos) bPass := PS.imp ps_pass fun D σ H ⟨N0, F, Ad, M, env, g, m, en, r⟩ => r σ F Ad H g (FLe.refl F) pre_refl m en
def bBrk : SF := fun env M => .brk env M
theorem ss_brk : SS X W DR (.Break pos) bBrk := PS.imp ps_break fun D σ H ⟨N0, F, Ad, M, env, g, m, en, r⟩ => r σ F Ad H g (FLe.refl F) pre_refl m en
def bCont : SF := fun env M => .cont env M
theorem ss_cont : SS X W DR (.Continue pos) bCont := PS.imp ps_continue fun D σ H ⟨N0, F, Ad, M, env, g, m, en, r⟩ => r σ F Ad H g (FLe.refl F) pre_refl m en
def bStuck : SF := fun _ _ => .stuck
theorem ss_never : SS X W DR st bStuck := PS.imp ps_never fun D σ H ⟨N0, F, Ad, M, env, g, m, en, r⟩ => r
theorem sss_never : SSs X W DR rest bStuck := PSs.imp pss_never fun D σ H ⟨N0, F, Ad, M, env, g, m, en, r⟩ => r
def bRet (f : EF) : SF := fun env M => (f env M).bindS env fun d M1 => .ret d M1
theorem ss_ret (dr : DRok DR) (h : PE X e (tG X.K W DR f)) : SS X W DR (.Return (some e) pos) (bRet f) := PS.imp (ps_ret h) fun D σ H ⟨N0, F, Ad, M, env, g, m, en, r⟩ =>
  tE_of g m en r fun d M1 v F1 Ad1 H1 g1 ge m1 en1 x1 r1 => r1 v F1 Ad1 H1 ge m1 (dr _ _ _ _ _ _ _ _ _ _ _ g x1)
def bRetN : SF := fun _ M => .ret .non M
theorem ss_retN : SS X W (DE X.K) (.Return none pos) bRetN := PS.imp ps_retN fun D σ H ⟨N0, F, Ad, M, env, g, m, en, r⟩ => r .non F Ad H g m .non
def bExpr (f : EF) : SF := fun env M => (f env M).bindS env fun _ M1 => .next env M1
theorem ss_expr {DR' : DRel} (h : PE X e (tG X.K W DR' f)) (hs : swapsWith e none pos.line X.env = pure false := by rfl) : SS X W DR (.Expr e pos) (bExpr f) := PS.imp (ps_expr h hs) fun D σ H ⟨N0, F, Ad, M, env, g, m, en, r⟩ =>
  tE_of g m en r fun d M1 v F1 Ad1 H1 g1 ge m1 en1 x1 r1 => r1 σ F1 Ad1 H1 ge (FLe.refl _) pre_refl m1 en1
def bIf (f : EF) (a b : SF) : SF := fun env M => (f env M).bindS env fun d M1 => match d with
  | .bl true => a env M1
  | .bl false => b env M1
  | _ => .stuck
theorem ss_if {c : Expr} (hc : ST X W c f) (ha : SSs X W DR p b) (hb : SSs X W DR q b') : SS X W DR (.If c p q pos) (bIf f b b') := PS.imp (ps_if hc ha hb) fun D σ H ⟨N0, F, Ad, M, env, g, m, en, r⟩ =>
  tT_of g m en r (fun d M1 hd => by cases d <;> first | rfl | exact absurd rfl (hd _)) fun c M1 F1 Ad1 H1 ge m1 en1 r1 => by
    cases c with
    | true => exact ⟨N0, F1, Ad1, M1, env, ge, m1, en1, r1⟩
    | false => exact ⟨N0, F1, Ad1, M1, env, ge, m1, en1, r1⟩
/-- x = e -/
def bSet (j : Nat) (f : EF) : SF := fun env M => (f env M).bindS env fun d M1 => match gN j d env with
  | some env1 => .next env1 M1
  | none => .stuck
theorem ss_asg {gd : MP.D → EnvM → Option EnvM} {g : TG} {js : List Nat} (tgo : TgOk X.K js gd g) {t : TS} (h : PS X st t) (ht : ∀ D σ H, tAsg (tG X.K W (DE X.K) f) g D σ H → t D σ H) : SS X W DR st (fun env M => (f env M).bindS env fun d M1 => match gd d env with
  | some env1 => .next env1 M1
  | none => .stuck) := PS.imp h fun D σ H ⟨N0, F, Ad, M, env, ge0, m, en, r⟩ => ht D σ H (tE_of ge0 m en r fun d M1 v F1 Ad1 H1 g1 ge m1 en1 x1 r1 => by
    cases hd : gd d env with
    | none => rw [hd] at r1; exact r1.elim
    | some env1 =>
      rw [hd] at r1
      exact tgo.ok N0 F1 Ad1 M1 H1 σ env v d env1 _ m1 en1 x1 hd fun σ' en' _ => r1 σ' F1 Ad1 H1 ge (FLe.refl _) pre_refl m1 en')
theorem ss_set {i : Nat} {x : Str} {pos' : Pos} (hN : X.N.Nodup) (hi : X.N[i]? = some x) (hx : Loc X.env.scope x) (he : SE X W e f) (hs : swapsWith e (some (.Name x pos')) pos.line X.env = pure false := by rfl) (hf : X.fn x = true ∨ X.env.scope.names.lookup x = some .local := by first | exact .inl rfl | exact .inr rfl | assumption) :
    SS X W DR (.Assign [.Name x pos'] e pos) (bSet i f) := ss_asg tg_n (ps_set hN hi hx he hs hf) fun D σ H h => h
/-- a target of several names -/
def bSetT (js : List Nat) (f : EF) : SF := fun env M => (f env M).bindS env fun d M1 => match gT js d env with
  | some env1 => .next env1 M1
  | none => .stuck
theorem ss_setT {js : List Nat} {n : Nat} {g : TGs} (tgo : TgsOk X.K js g) (hn : js.length = n) (hg : PG X tg (gTup X.K n g)) (he : SE X W e f) (hs : swapsWithSole [tg] e pos.line X.env = pure false := by rfl) (hw : swappedStores [tg] e X.env = pure none := by rfl)
    (h1 : (assignEach [tg] X.env).map (·.2) = [assign tg X.env] := by rfl) : SS X W DR (.Assign [tg] e pos) (bSetT js f) := ss_asg (tg_t tgo hn) (ps_asg he hg hs hw h1) fun D σ H h => h
/-- x = e, the value x's own -/
def oN (j : Nat) (d : MP.D) (env : EnvM) : Option EnvM := match env[j]? with
  | some (.slf _) => none
  | some _ => some (env.set j (.own d))
  | none => none
def bOwn (j : Nat) (f : EF) : SF := fun env M => (f env M).bindS env fun d M1 => match oN j d env with
  | some env1 => .next env1 M1
  | none => .stuck
theorem EnvOk.setOwn {j : Nat} {v : V} {d : MP.D} {env' : EnvM} (en0 : EnvOk K N0 F Ad H σ env) (g0 : GrE N0 F Ad H) (g1 : Gr F Ad H F1 Ad1 H1) (x : DO K H F1 Ad1 H1 v d) (h : oN j d env = some env') : EnvOk K N0 F1 Ad1 H1 (σ.set j (some v)) env' := by
  have hlt : j < env.length ∧ env' = env.set j (.own d) ∧ ∀ e, env[j]? ≠ some (.slf e) := by
    unfold oN at h
    split at h
    · cases h
    · rename_i b hb hn
      cases h
      exact ⟨(List.getElem?_eq_some_iff.mp hn).1, rfl, fun e z => hb e (by rw [hn] at z; exact Option.some.inj z)⟩
    · cases h
  obtain ⟨hl, rfl, hns⟩ := hlt
  obtain ⟨a, rfl, h1, h2, h3, h4⟩ := x
  have en := en0.gr g1
  have n0 : N0.hp a = none := by
    cases qq : N0.hp a with
    | none => rfl
    | some o => exact absurd h3 (g0.alive a (by rw [qq]; simp))
  have ha0 : ∀ (i : Nat) (d2 : MP.D), env[i]? = some (B.own d2) → σ[i]? ≠ some (some (V.ref a)) := fun i d2 hi z => by
    obtain ⟨c, c1, c2, c3, c4, c5⟩ := en0.own i d2 hi
    rw [z] at c1
    have : c = a := by
      have q := Option.some.inj (Option.some.inj c1)
      cases q; rfl
    obtain ⟨o, ho, _⟩ := c5.obj
    rw [this, h3] at ho; cases ho
  refine ⟨by simp [en.len], fun i d' hi => ?_, fun i d' hi => ?_, fun i k d1 d2 c q1 q2 q3 q4 => ?_, fun i d' hi => ?_⟩
  · by_cases e : j = i
    · subst e; rw [List.getElem?_set_self hl] at hi; cases hi
    · rw [List.getElem?_set_ne e] at hi ⊢; exact en.shr i d' hi
  · by_cases e : j = i
    · subst e
      rw [List.getElem?_set_self hl] at hi; cases hi
      exact ⟨a, by rw [List.getElem?_set_self (by rw [← en.len]; exact hl)], h1, h2, n0, h4⟩
    · rw [List.getElem?_set_ne e] at hi ⊢; exact en.own i d' hi
  · by_cases e1 : j = i
    · subst e1
      rw [List.getElem?_set_self (by rw [← en.len]; exact hl)] at q3
      cases q3
      by_cases e2 : j = k
      · exact e2
      · rw [List.getElem?_set_ne e2] at q2 q4
        exact absurd q4 (ha0 k d2 q2)
    · rw [List.getElem?_set_ne e1] at q1 q3
      by_cases e2 : j = k
      · subst e2
        rw [List.getElem?_set_self (by rw [← en.len]; exact hl)] at q4
        cases q4
        exact absurd q3 (ha0 i d1 q1)
      · rw [List.getElem?_set_ne e2] at q2 q4
        exact en.dis i k d1 d2 c q1 q2 q3 q4
  · have e : j ≠ i := fun e => by subst e; rw [List.getElem?_set_self hl] at hi; cases hi
    rw [List.getElem?_set_ne e] at hi ⊢
    obtain ⟨z0, z1, z2, z3, z4, z5, z6⟩ := en.slf i d' hi
    refine ⟨z0, z1, z2, z3, z4, z5, fun k d2 hk z => ?_⟩
    by_cases e2 : j = k
    · subst e2
      rw [List.getElem?_set_self (by rw [← en.len]; exact hl)] at z
      have : a = N0.me := by
        have q := Option.some.inj (Option.some.inj z)
        cases q; rfl
      obtain ⟨_, _, _, _, _, c5, _⟩ := en0.slf i d' hi
      obtain ⟨o, ho, _⟩ := c5.obj
      rw [← this, h3] at ho; cases ho
    · rw [List.getElem?_set_ne e2] at hk z
      exact z6 k d2 hk z
theorem ss_asgO {i : Nat} {t : TS} (h : PS X st t) (ht : ∀ D σ H, tAsg (tG X.K W (DO X.K) f) (gName i) D σ H → t D σ H) : SS X W DR st (bOwn i f) := PS.imp h fun D σ H ⟨N0, F, Ad, M, env, ge0, m, en, r⟩ => ht D σ H (tE_of ge0 m en r fun d M1 v F1 Ad1 H1 g1 ge m1 en1 x1 r1 => by
    cases hd : oN i d env with
    | none => rw [hd] at r1; exact r1.elim
    | some env1 =>
      rw [hd] at r1
      exact r1 _ F1 Ad1 H1 ge (FLe.refl _) pre_refl m1 (en.setOwn ge0 g1 x1 hd))
theorem ss_own {i : Nat} {x : Str} {pos' : Pos} (hN : X.N.Nodup) (hi : X.N[i]? = some x) (hx : Loc X.env.scope x) (he : SO X W e f) (hs : swapsWith e (some (.Name x pos')) pos.line X.env = pure false := by rfl) (hf : X.fn x = true ∨ X.env.scope.names.lookup x = some .local := by first | exact .inl rfl | exact .inr rfl | assumption) :
    SS X W DR (.Assign [.Name x pos'] e pos) (bOwn i f) := ss_asgO (ps_set hN hi hx he hs hf) fun D σ H h => h
/-- x = [.. for ..] -/
theorem ss_lc {i : Nat} {y : Str} {py : Pos} {elt : Expr} {ifs : List Expr} {scope : Scope} {own : List (Str × Nat)} {spos : Pos} {gd : MP.D → EnvM → Option EnvM} {g : TG} {ft fe : EF} {js : List Nat} (hc : X.calm = true) (hN : X.N.Nodup) (hy : X.N[i]? = some y) (hyl : X.env.scope.names.lookup y = some .local)
    (hsw : swapsWith (.ListComp elt [⟨tg, iter, ifs, 0⟩] scope pos) (some (.Name y py)) spos.line X.env = pure true) (hi : SI X W false tg iter l) (ok : BlkOk X.N X.env.scope scope own)
    (tgo : TgOk X.K js gd g) (hj : ∀ j ∈ js, j ∈ own.map (·.2))
    (hg : ∀ (s : Shared) (H : Hp) (C : Addr) (cl : List (Str × Addr)) (fp : List Addr), PG (X.blk s H scope (compEnvC scope cl C X.env) fp) tg g) (ht : ∀ (s : Shared) (H : Hp) (C : Addr) (cl : List (Str × Addr)) (fp : List Addr), STs (X.blk s H scope (compEnvC scope cl C X.env) fp) WN ifs ft)
    (he : ∀ (s : Shared) (H : Hp) (C : Addr) (cl : List (Str × Addr)) (fp : List Addr), SE (X.blk s H scope (compEnvC scope cl C X.env) fp) WN elt fe) (hs : ∀ x, foldedSetIterable iter X.env x = pure x := by intro _; rfl) :
    SS X W DR (.Assign [.Name y py] (.ListComp elt [⟨tg, iter, ifs, 0⟩] scope pos) spos) (bOwn i (eComp l gd ft fe (own.map (·.2)))) :=
  ss_asgO (ps_setLc hc hN hy hyl hsw hi ok hg ht he hs) fun D σ H h => lc_read (Wb := WN) tgo hj h
/-! #### an own object is written -/
theorem wr_own {a : Addr} {o' : HO} {d d' : MP.D} {i : Nat} (g : GrE N0 F Ad H) (m : MemOk K F Ad M H) (en : EnvOk K N0 F Ad H σ env) (hi : env[i]? = some (.own d)) (ha : σ[i]? = some (some (.ref a))) (r : Root K F Ad (upd H a o') a d') :
    GrE N0 F Ad (upd H a o') ∧ MemOk K F Ad M (upd H a o') ∧ EnvOk K N0 F Ad (upd H a o') σ (env.set i (.own d')) := by
  obtain ⟨c, c1, c2, c3, c4, c5⟩ := en.own i d hi
  rw [ha] at c1
  cases c1
  have hl : i < env.length := (List.getElem?_eq_some_iff.mp hi).1
  refine ⟨⟨g.fle, g.fnew, g.apre, fun b o hb hn ht => ?_, fun b hb => ?_⟩, ⟨fun b u hb => ?_, m.len, m.nd, fun n b e h1 h2 => ?_⟩, ⟨by simp [en.len], fun j e hj => ?_, fun j e hj => ?_, fun j k e1 e2 b h1 h2 h3 h4 => ?_, fun j e hj => ?_⟩⟩
  · rw [upd_ne (fun e => by rw [e, c4] at hb; cases hb)]; exact g.keep b o hb hn ht
  · by_cases e : b = a
    · subst e; rw [upd_same]; simp
    · rw [upd_ne e]; exact g.alive b hb
  · rw [upd_ne (fun e => by rw [e, c2] at hb; cases hb)]; exact m.sub b u hb
  · obtain ⟨z1, z2⟩ := m.cel n b e h1 h2
    exact ⟨z1, z2.mono (FLe.refl _) (fun _ _ h => h) (by rw [upd_ne (fun e => c3 (by rw [← e]; exact List.mem_of_getElem? h1))])⟩
  · have e1 : i ≠ j := fun e1 => by subst e1; rw [List.getElem?_set_self hl] at hj; cases hj
    rw [List.getElem?_set_ne e1] at hj; exact en.shr j e hj
  · by_cases e1 : i = j
    · subst e1
      rw [List.getElem?_set_self hl] at hj; cases hj
      exact ⟨a, ha, c2, c3, c4, r⟩
    · rw [List.getElem?_set_ne e1] at hj
      obtain ⟨b, b1, b2, b3, b4, b5⟩ := en.own j e hj
      have ne : b ≠ a := fun z => by subst z; exact e1 (en.dis i j d e b hi hj ha b1)
      exact ⟨b, b1, b2, b3, b4, b5.mono (FLe.refl _) (fun _ _ h => h) (by rw [upd_ne ne])⟩
  · have q1 : ∃ e1', env[j]? = some (.own e1') := by
      by_cases e : i = j
      · subst e; exact ⟨_, hi⟩
      · rw [List.getElem?_set_ne e] at h1; exact ⟨_, h1⟩
    have q2 : ∃ e2', env[k]? = some (.own e2') := by
      by_cases e : i = k
      · subst e; exact ⟨_, hi⟩
      · rw [List.getElem?_set_ne e] at h2; exact ⟨_, h2⟩
    obtain ⟨_, q1⟩ := q1
    obtain ⟨_, q2⟩ := q2
    exact en.dis j k _ _ b q1 q2 h3 h4
  · have e1 : i ≠ j := fun e1 => by subst e1; rw [List.getElem?_set_self hl] at hj; cases hj
    rw [List.getElem?_set_ne e1] at hj
    obtain ⟨z0, z1, z2, z3, z4, z5, z6⟩ := en.slf j e hj
    have ne : N0.me ≠ a := fun z => z6 i d hi (by rw [ha, z])
    refine ⟨z0, z1, z2, z3, z4, z5.mono (FLe.refl _) (fun _ _ h => h) (by rw [upd_ne ne]), fun k d2 hk => ?_⟩
    by_cases e2 : i = k
    · subst e2; exact z6 i d hi
    · rw [List.getElem?_set_ne e2] at hk; exact z6 k d2 hk
/-- self is written -/
theorem wr_slf {o' : HO} {d d' : MP.D} {i : Nat} (g : GrE N0 F Ad H) (m : MemOk K F Ad M H) (en : EnvOk K N0 F Ad H σ env) (hi : env[i]? = some (.slf d)) (r : Root K F Ad (upd H N0.me o') N0.me d') :
    GrE N0 F Ad (upd H N0.me o') ∧ MemOk K F Ad M (upd H N0.me o') ∧ EnvOk K N0 F Ad (upd H N0.me o') σ (env.set i (.slf d')) := by
  obtain ⟨c0, c1, c2, c3, c4, c5, c6⟩ := en.slf i d hi
  have hl : i < env.length := (List.getElem?_eq_some_iff.mp hi).1
  refine ⟨⟨g.fle, g.fnew, g.apre, fun b o hb hn ht => ?_, fun b hb => ?_⟩, ⟨fun b u hb => ?_, m.len, m.nd, fun n b e h1 h2 => ?_⟩, ⟨by simp [en.len], fun j e hj => ?_, fun j e hj => ?_, fun j k e1 e2 b h1 h2 h3 h4 => ?_, fun j e hj => ?_⟩⟩
  · rw [upd_ne (fun e => by rw [e, c4] at hb; cases hb)]; exact g.keep b o hb hn ht
  · by_cases e : b = N0.me
    · subst e; rw [upd_same]; simp
    · rw [upd_ne e]; exact g.alive b hb
  · rw [upd_ne (fun e => by rw [e, c2] at hb; cases hb)]; exact m.sub b u hb
  · obtain ⟨z1, z2⟩ := m.cel n b e h1 h2
    exact ⟨z1, z2.mono (FLe.refl _) (fun _ _ h => h) (by rw [upd_ne (fun e => c3 (by rw [← e]; exact List.mem_of_getElem? h1))])⟩
  · have e1 : i ≠ j := fun e1 => by subst e1; rw [List.getElem?_set_self hl] at hj; cases hj
    rw [List.getElem?_set_ne e1] at hj; exact en.shr j e hj
  · have e1 : i ≠ j := fun e1 => by subst e1; rw [List.getElem?_set_self hl] at hj; cases hj
    rw [List.getElem?_set_ne e1] at hj
    obtain ⟨b, b1, b2, b3, b4, b5⟩ := en.own j e hj
    have ne : b ≠ N0.me := fun z => c6 j e hj (by rw [b1, z])
    exact ⟨b, b1, b2, b3, b4, b5.mono (FLe.refl _) (fun _ _ h => h) (by rw [upd_ne ne])⟩
  · have e1' : i ≠ j := fun e1 => by subst e1; rw [List.getElem?_set_self hl] at h1; cases h1
    have e2' : i ≠ k := fun e1 => by subst e1; rw [List.getElem?_set_self hl] at h2; cases h2
    rw [List.getElem?_set_ne e1'] at h1
    rw [List.getElem?_set_ne e2'] at h2
    exact en.dis j k _ _ b h1 h2 h3 h4
  · by_cases e1 : i = j
    · subst e1
      rw [List.getElem?_set_self hl] at hj; cases hj
      refine ⟨c0, c1, c2, c3, c4, r, fun k d2 hk => ?_⟩
      by_cases e2 : i = k
      · subst e2; rw [List.getElem?_set_self hl] at hk; cases hk
      · rw [List.getElem?_set_ne e2] at hk; exact c6 k d2 hk
    · rw [List.getElem?_set_ne e1] at hj
      obtain ⟨z0, _⟩ := en.slf j e hj
      exact absurd (c0.trans z0.symm) e1
/-- a shared object is written -/
theorem wr_cel {a : Addr} {n : Nat} {o' : HO} {d' : MP.D} (g : GrE N0 F Ad H) (m : MemOk K F Ad M H) (en : EnvOk K N0 F Ad H σ env) (hn : Ad[n]? = some a) (r : Root K F Ad (upd H a o') a d') (hg : ∀ b o, N0.hp b = some o → b ∉ N0.ad → b ≠ a) :
    GrE N0 F Ad (upd H a o') ∧ MemOk K F Ad (M.set n d') (upd H a o') ∧ EnvOk K N0 F Ad (upd H a o') σ env := by
  have hF : F a = none := by
    have hlt : n < M.length := by rw [← m.len]; exact (List.getElem?_eq_some_iff.mp hn).1
    exact (m.cel n a _ hn (List.getElem?_eq_getElem hlt)).1
  refine ⟨⟨g.fle, g.fnew, g.apre, fun b o hb hna ht => ?_, fun b hb => ?_⟩, ⟨fun b u hb => ?_, by rw [m.len]; simp, m.nd, fun k b e h1 h2 => ?_⟩, ⟨en.len, fun j e hj => en.shr j e hj, fun j e hj => ?_, en.dis, fun j e hj => ?_⟩⟩
  · rw [upd_ne (hg b o hb hna)]; exact g.keep b o hb hna ht
  · by_cases e : b = a
    · subst e; rw [upd_same]; simp
    · rw [upd_ne e]; exact g.alive b hb
  · rw [upd_ne (fun e => by rw [e, hF] at hb; cases hb)]; exact m.sub b u hb
  · by_cases e1 : n = k
    · subst e1
      rw [hn] at h1; cases h1
      rw [List.getElem?_set_self (by rw [← m.len]; exact (List.getElem?_eq_some_iff.mp hn).1)] at h2
      cases h2
      exact ⟨hF, r⟩
    · rw [List.getElem?_set_ne e1] at h2
      obtain ⟨z1, z2⟩ := m.cel k b e h1 h2
      have ne : b ≠ a := fun z => by
        subst z
        exact e1 ((List.getElem?_inj (List.getElem?_eq_some_iff.mp hn).1 m.nd).mp (hn.trans h1.symm))
      exact ⟨z1, z2.mono (FLe.refl _) (fun _ _ h => h) (by rw [upd_ne ne])⟩
  · obtain ⟨b, b1, b2, b3, b4, b5⟩ := en.own j e hj
    have ne : b ≠ a := fun z => b3 (by rw [z]; exact List.mem_of_getElem? hn)
    exact ⟨b, b1, b2, b3, b4, b5.mono (FLe.refl _) (fun _ _ h => h) (by rw [upd_ne ne])⟩
  · obtain ⟨z0, z1, z2, z3, z4, z5, z6⟩ := en.slf j e hj
    have ne : N0.me ≠ a := fun z => z3 (by rw [z]; exact List.mem_of_getElem? hn)
    exact ⟨z0, z1, z2, z3, z4, z5.mono (FLe.refl _) (fun _ _ h => h) (by rw [upd_ne ne]), z6⟩
/-- the heap at the entry keeps off the shared ones that came later -/
theorem cel_off {a : Addr} (g : GrE N0 F Ad H) (hn : a ∈ Ad) : ∀ b o, N0.hp b = some o → b ∉ N0.ad → b ≠ a := fun b o hb hna e => by
  subst e
  obtain ⟨more, e1, e2⟩ := g.apre
  rw [e1] at hn
  rcases List.mem_append.mp hn with z | z
  · exact hna z
  · rw [e2 b z] at hb; cases hb
end
end MP

set_option maxRecDepth 100000
set_option maxHeartbeats 1000000
namespace MP
open PySem PySem.Spec PyProof.Rows L2
/-! ### stores -/
def cont (i : Nat) (env : EnvM) (M : List D) : Option D := match env[i]? with
  | some (.own d) => some d
  | some (.slf d) => some d
  | some (.shr (.cel n)) => M[n]?
  | _ => none
def store (i : Nat) (u : D → Option D) : SF := fun env M => match env[i]? with
  | some (.own d) => (match u d with | some d' => .next (env.set i (.own d')) M | none => .stuck)
  | some (.slf d) => (match u d with | some d' => .next (env.set i (.slf d')) M | none => .stuck)
  | some (.shr (.cel n)) => (match M[n]? with
    | some d => (match u d with | some d' => .next env (M.set n d') | none => .stuck)
    | none => .stuck)
  | _ => .stuck
def putFD (f : Str) (v : D) : List (Str × D) → List (Str × D)
  | [] => [(f, v)]
  | (g, x) :: r => if g = f then (g, v) :: r else (g, x) :: putFD f v r
def stSub (k v d : D) : Option D := match d with
  | .lst xs => (match k with
    | .int i => (match ixN xs.length i with | some j => some (.lst (xs.set j v)) | none => none)
    | _ => none)
  | .dK kvs => (match keyD k with
    | some q => if kvs.length < sizeLine then some (.dK (insK kvs q v)) else none
    | none => none)
  | .dT kvs => (match k with
    | .tup ks => (match keysD ks with
      | some q => if kvs.length < sizeLine then some (.dT (insK kvs q v)) else none
      | none => none)
    | _ => none)
  | _ => none
def stApp (v d : D) : Option D := match d with
  | .lst xs => if xs.length < sizeLine then some (.lst (xs ++ [v])) else none
  | _ => none
def stFld (c f : Str) (v d : D) : Option D := match d with
  | .ins c' fs => if c' = c ∧ fs.length < 1000 then some (.ins c (putFD f v fs)) else none
  | _ => none
section
variable {X : Cx} {W : WX} {K : PySem.W.Frag} {DR : DRel} {E : Ends} {N0 : Ent} {F F1 H H1 : Hp} {Ad Ad1 : List Addr} {M : List D} {env : EnvM} {σ : St} {e tg iter : Expr} {f fk fv : EF} {st : Stmt} {rest p q body : List Stmt} {b b' : SF} {pos : Pos} {l : LF} {i : Nat} {u : D → Option D}
theorem DenF.put {g : Str} {v d} : ∀ {vs ds}, DenF K F Ad vs ds → Den K F Ad v d → DenF K F Ad (putF g v vs) (putFD g d ds)
  | _, _, .nil, h => .cons h .nil
  | _, _, .cons (k := k) q r, h => by
    unfold putF putFD
    by_cases e : k = g
    · rw [if_pos e, if_pos e]; exact .cons h r
    · rw [if_neg e, if_neg e]; exact .cons q (r.put h)
theorem store_ok (g : GrE N0 F Ad H) (m : MemOk K F Ad M H) (en : EnvOk K N0 F Ad H σ env) (r : RPS K W DR E N0 F Ad (store i u env M)) :
    ∃ a d d', σ[i]? = some (some (.ref a)) ∧ cont i env M = some d ∧ u d = some d' ∧ Root K F Ad H a d ∧ ∀ o', Root K F Ad (upd H a o') a d' → E.nx σ (upd H a o') := by
  unfold store at r
  split at r
  · rename_i d hd
    split at r
    · rename_i d' hu
      obtain ⟨a, c1, c2, c3, c4, c5⟩ := en.own i d hd
      refine ⟨a, d, d', c1, by unfold cont; rw [hd], hu, c5, fun o' ro => ?_⟩
      obtain ⟨g', m', en'⟩ := wr_own g m en hd c1 ro
      exact r σ F Ad _ g' (FLe.refl _) pre_refl m' en'
    · exact r.elim
  · rename_i d hd
    split at r
    · rename_i d' hu
      obtain ⟨c0, c1, c2, c3, c4, c5, c6⟩ := en.slf i d hd
      refine ⟨_, d, d', c1, by unfold cont; rw [hd], hu, c5, fun o' ro => ?_⟩
      obtain ⟨g', m', en'⟩ := wr_slf g m en hd ro
      exact r σ F Ad _ g' (FLe.refl _) pre_refl m' en'
    · exact r.elim
  · rename_i n hn
    split at r
    · rename_i d hd
      split at r
      · rename_i d' hu
        obtain ⟨v, c1, c2⟩ := en.shr i _ hn
        cases c2 with
        | @cel a _ ha =>
          refine ⟨a, d, d', c1, by unfold cont; rw [hn]; exact hd, hu, (m.cel n a d ha hd).2, fun o' ro => ?_⟩
          obtain ⟨g', m', en'⟩ := wr_cel g m en ha ro (cel_off g (List.mem_of_getElem? ha))
          exact r σ F Ad _ g' (FLe.refl _) pre_refl m' en'
      · exact r.elim
    · exact r.elim
  · exact r.elim
/-- o[k] = v for lists and dicts -/
def rSetAll : TSet := fun o i v H Q => rSetL o i v H Q ∨ ∃ a H4, o = .ref a ∧ DPut H a i v H4 ∧ Q H4
theorem set_all (hu : X.A.units + 1 < cLine) : PSet X rSetAll := by
  intro pins s σ H o i v ov iv u Q I ro ri rv h
  rcases h with h | ⟨a, H4, rfl, hp, hq⟩
  · exact set_list pins s σ H o i v ov iv u Q I ro ri rv h
  · obtain rfl : ov = Value.ref a := ro
    exact d_setItem hu I hp ri rv fun s' I' => ⟨H4, I', hq⟩
theorem set_of {v k : V} {dv dk d d' : D} {a : Addr} {Q : Hp → Prop} (m : MemOk K F Ad M H) (xv : Den K F Ad v dv) (xk : Den K F Ad k dk) (r : Root K F Ad H a d) (hu : stSub dk dv d = some d') (hq : ∀ o', Root K F Ad (upd H a o') a d' → Q (upd H a o')) : rSetAll (.ref a) k v H Q := by
  unfold stSub at hu
  cases r with
  | lst h r =>
    dsimp only at hu
    split at hu
    · rename_i i
      split at hu
      · rename_i oo j hj
        cases hu
        cases xk
        exact .inl ⟨a, _, i, j, rfl, rfl, h, by rw [r.length]; exact hj, hq _ (.lst upd_same (r.set j xv))⟩
      · cases hu
    · cases hu
  | dK h r =>
    dsimp only at hu
    split at hu
    · rename_i oo kk hk
      split at hu
      · rename_i hl
        cases hu
        exact .inr ⟨a, _, rfl, .inl ⟨_, kk, h, keyD_v xk hk, by rw [r.length]; exact hl, rfl⟩, hq _ (.dK upd_same (r.put xv))⟩
      · cases hu
    · cases hu
  | dT h r =>
    dsimp only at hu
    split at hu
    · rename_i ks
      split at hu
      · rename_i oo kk hk
        split at hu
        · rename_i hl
          cases hu
          cases xk with
          | tup h2 r2 =>
            rw [keysD_v r2 hk] at h2
            exact .inr ⟨a, _, rfl, .inr ⟨_, kk, _, h, rfl, m.sub _ _ h2, by rw [r.length]; exact hl, rfl⟩, hq _ (.dT upd_same (r.put xv))⟩
        · cases hu
      · cases hu
    · cases hu
  | ins h r => exact nomatch hu
def has (i : Nat) (env : EnvM) : Bool := match env[i]? with
  | some (.shr _) => true
  | some (.own _) => true
  | some (.slf _) => true
  | _ => false
theorem EnvOk.has (en : EnvOk K N0 F Ad H σ env) (h : has i env = true) : ∃ v, σ[i]? = some (some v) := by
  unfold MP.has at h
  split at h
  · rename_i d hd; obtain ⟨v, h1, _⟩ := en.shr i d hd; exact ⟨v, h1⟩
  · rename_i d hd; obtain ⟨v, h1, _⟩ := en.own i d hd; exact ⟨_, h1⟩
  · rename_i d hd; obtain ⟨_, h1, _⟩ := en.slf i d hd; exact ⟨_, h1⟩
  · cases h
def bSub (i : Nat) (fk fv : EF) : SF := fun env M => (fv env M).bindS env fun dv M1 => if has i env = true then (fk env M1).bindS env fun dk M2 => store i (stSub dk dv) env M2 else .stuck
theorem ss_sub {x : Str} {k value : Expr} {pos' pos2 : Pos} (hu : X.A.units + 1 < cLine) (hN : X.N[i]? = some x) (hv : Vis X.env.scope x) (hk : SE X W k fk) (he : SE X W value fv)
    (ha : ∀ v, assign (.Subscript (.Name x pos2) k pos') X.env v = (do
      let ov ← holding [v] (eval (.Name x pos2) X.env)
      let iv ← holding [v, ov] (eval k X.env)
      standAt pos'
      holding [v, ov, iv] (setItem ov iv v)
      release [v, ov, iv] []) := by intro _; rfl)
    (hs : swapsWithSole [.Subscript (.Name x pos2) k pos'] value pos.line X.env = pure false := by rfl) (hw : swappedStores [.Subscript (.Name x pos2) k pos'] value X.env = pure none := by rfl)
    (h1 : (assignEach [.Subscript (.Name x pos2) k pos'] X.env).map (·.2) = [assign (.Subscript (.Name x pos2) k pos') X.env] := by rfl)
    (hd : (x == ("__debug__" : Str)) = false := by decide) (hcd : (x == ("__classdict__" : Str)) = false := by decide) :
    SS X W DR (.Assign [.Subscript (.Name x pos2) k pos'] value pos) (bSub i fk fv) :=
  PS.imp (ps_asg he (pg_sub (pe_var hN hv hd hcd) hk (set_all hu) ha) hs hw h1) fun D σ H ⟨N0, F, Ad, M, env, ge0, m, en, r⟩ =>
    tE_of ge0 m en r fun dv M1 v F1 Ad1 H1 g1 ge m1 en1 x1 r1 => by
      split at r1
      · rename_i hh
        obtain ⟨v0, hv0⟩ := en1.has hh
        refine ⟨v0, hv0, tE_of ge m1 en1 r1 fun dk M2 vk F2 Ad2 H2 g2 ge2 m2 en2 x2 r2 => ?_⟩
        obtain ⟨a, d, d', c1, c2, c3, c4, c5⟩ := store_ok ge2 m2 en2 r2
        rw [hv0] at c1; cases c1
        exact set_of m2 (x1.mono g2.fle g2.pre) x2 c4 c3 c5
      · exact r1.elim
/-- x.append(v) -/
def isLst : Option D → Bool
  | some (.lst _) => true
  | _ => false
def bApp (i : Nat) (fv : EF) : SF := fun env M => if isLst (cont i env M) = true then (fv env M).bindS env fun dv M1 => store i (stApp dv) env M1 else .stuck
theorem cont_ok (m : MemOk K F Ad M H) (en : EnvOk K N0 F Ad H σ env) {d : D} (h : cont i env M = some d) : ∃ a, σ[i]? = some (some (.ref a)) ∧ Root K F Ad H a d := by
  unfold cont at h
  split at h
  · rename_i d' hd; cases h; obtain ⟨a, h1, _, _, _, h2⟩ := en.own i _ hd; exact ⟨a, h1, h2⟩
  · rename_i d' hd; cases h; obtain ⟨_, h1, _, _, _, h2, _⟩ := en.slf i _ hd; exact ⟨_, h1, h2⟩
  · rename_i n hd
    obtain ⟨v, h1, h2⟩ := en.shr i _ hd
    cases h2 with
    | @cel a _ ha => exact ⟨a, h1, (m.cel n a d ha h).2⟩
  · cases h
theorem ss_app {x : Str} {value : Expr} {apos pos2 cpos : Pos} (hN : X.N[i]? = some x) (hv : Vis X.env.scope x) (he : SE X W value fv)
    (hs0 : starEach [value] X.env = [(false, eval value X.env)] := by rfl) (hbase : attributeBase (.Name x pos2) "append" X.env (eval (.Name x pos2) X.env) = eval (.Name x pos2) X.env := by rfl)
    (hfew : ((backTo cpos (starEach [value] X.env)).all (fun x => !x.1) && (backToKw cpos (keywordEach [] X.env)).all (fun x => x.1.isSome)
      && decide (([value] : List Expr).length + ([] : List Keyword).length + (if ([] : List Keyword).isEmpty then 0 else 1) < 30)) = true := by rfl)
    (hline : (apos.endLine == cpos.line) = true := by rfl)
    (hd : (x == ("__debug__" : Str)) = false := by decide) (hcd : (x == ("__classdict__" : Str)) = false := by decide) (hsw : swapsWith (.Call (.Attribute (.Name x pos2) "append" apos) [value] [] cpos) none pos.line X.env = pure false := by rfl) :
    SS X W DR (.Expr (.Call (.Attribute (.Name x pos2) "append" apos) [value] [] cpos) pos) (bApp i fv) :=
  PS.imp (ps_expr (pe_bm (name := "append") PySem.F.plainAttrs_list PySem.F.slot_list_append PySem.F.type_list_append mt_append (pe_var hN hv hd hcd) (sl_one he hs0) hbase hfew hline hs0 (by rfl)) hsw) fun D σ H ⟨N0, F, Ad, M, env, ge0, m, en, r⟩ => by
    unfold bApp at r
    split at r
    · rename_i hl
      unfold isLst at hl
      split at hl
      · rename_i xs hx
        obtain ⟨a, ha, ra⟩ := cont_ok m en hx
        refine ⟨.ref a, ha, ?_, ?_⟩
        · cases ra with
          | lst h _ => exact .inl ⟨rfl, _, SqL.of h⟩
        · refine tE_of ge0 m en r fun dv M1 v F1 Ad1 H1 g1 ge m1 en1 x1 r1 => ?_
          obtain ⟨a', d, d', c1, c2, c3, c4, c5⟩ := store_ok ge m1 en1 r1
          rw [ha] at c1; cases c1
          unfold stApp at c3
          split at c3
          · split at c3
            · rename_i hz
              cases c3
              cases c4 with
              | lst h r => exact ⟨a, _, v, rfl, rfl, h, by rw [r.length]; exact hz, c5 _ (.lst upd_same (r.append (.cons x1 .nil)))⟩
            · cases c3
          · cases c3
      · cases hl
    · exact r.elim
/-- x.f = v -/
def bFld (i : Nat) (c f : Str) (fv : EF) : SF := fun env M => (fv env M).bindS env fun dv M1 => store i (stFld c f dv) env M1
theorem ss_fld {x c g : Str} {value : Expr} {pos' pos2 : Pos} (hN : X.N[i]? = some x) (hv : Vis X.env.scope x) (he : SE X W value fv) (hc : Cls X.K (He.ga X.K c)) (hn : NoAttr X.K (He.ga X.K c) g)
    (hs : swapsWith value (some (.Attribute (.Name x pos2) g pos')) pos.line X.env = pure false := by rfl) (hd : (x == ("__debug__" : Str)) = false := by decide) (hcd : (x == ("__classdict__" : Str)) = false := by decide) :
    SS X W DR (.Assign [.Attribute (.Name x pos2) g pos'] value pos) (bFld i c g fv) :=
  PS.imp (ps_fld (pe_var hN hv hd hcd) he hs) fun D σ H ⟨N0, F, Ad, M, env, ge0, m, en, r⟩ =>
    tE_of ge0 m en r fun dv M1 v F1 Ad1 H1 g1 ge m1 en1 x1 r1 => by
      obtain ⟨a, d, d', c1, c2, c3, c4, c5⟩ := store_ok ge m1 en1 r1
      refine ⟨.ref a, c1, ?_⟩
      unfold stFld at c3
      split at c3
      · split at c3
        · rename_i hz
          cases c3
          cases c4 with
          | ins h rr =>
            obtain ⟨rfl, hl⟩ := hz
            exact ⟨a, _, _, _, rfl, h, hc, hn, by rw [rr.length]; exact hl, c5 _ (.ins upd_same (rr.put x1))⟩
        · cases c3
      · cases c3
/-! ### for -/
def forL (gd : D → EnvM → Option EnvM) (b : SF) : List D → SF
  | [], env, M => .next env M
  | d :: ds, env, M => match gd d env with
    | none => .stuck
    | some env1 => match b env1 M with
      | .next env2 M2 => forL gd b ds env2 M2
      | .cont env2 M2 => forL gd b ds env2 M2
      | .brk env2 M2 => .next env2 M2
      | r => r
def bFor (l : LF) (gd : D → EnvM → Option EnvM) (b : SF) : SF := fun env M => match l env M with
  | .ok ds M1 => forL gd b ds env M1
  | .exc x M1 => .exc x env M1
  | .stuck => .stuck
theorem ss_for {gd : D → EnvM → Option EnvM} {g : TG} {js : List Nat} (hp : PassesOwn (model X.prog X.w) X.A X.env X.xe) (hc : X.calm = true) (hi : SI X W true tg iter l) (tgo : TgOk X.K js gd g) (hg : PG X tg g) (hb : SSs X W DR body b) (hs : ∀ x, foldedSetIterable iter X.env x = pure x := by intro _; rfl) :
    SS X W DR (.For tg iter body [] pos) (bFor l gd b) := PS.imp (ps_for hp hc hi hg hb hs) fun E σ H ⟨N0, F, Ad, M, env, ge0, m, en, r⟩ => by
  refine ⟨N0, F, Ad, M, env, m, en, ?_⟩
  unfold bFor at r
  cases ql : l env M with
  | exc x M1 => rw [ql] at r; exact fun cls dx F' Ad' H' g' m' z => r cls dx σ F' Ad' H' (ge0.trans g') g'.fle g'.pre m' (en.gr g') z
  | stuck => rw [ql] at r; exact r
  | ok ds M1 =>
    rw [ql] at r
    intro J ks F1 Ad1 H1 g1 m1 it k1 k2 kz
    have kz := kz rfl
    subst kz
    refine ⟨fun i mm σ2 H2 => mm = ds.length - i ∧ i ≤ ds.length ∧ ∃ F2 Ad2 M2 env2, GrE N0 F2 Ad2 H2 ∧ FLe F1 F2 ∧ Pre Ad1 Ad2 ∧ MemOk X.K F2 Ad2 M2 H2 ∧ EnvOk X.K N0 F2 Ad2 H2 σ2 env2 ∧ RPS X.K W DR E N0 F2 Ad2 (forL gd b (ds.drop i) env2 M2),
      ⟨_, rfl, Nat.zero_le _, F1, Ad1, M1, env, ge0.trans g1, FLe.refl _, pre_refl, m1, en.gr g1, by simpa using RPS.gr r g1.fle g1.pre⟩, ?_⟩
    rintro i mm σ2 H2 ⟨rfl, hi, F2, Ad2, M2, env2, ge2, l2, p2, m2, en2, r2⟩
    by_cases hlt : i < ds.length
    · right
      refine ⟨it.go i F2 Ad2 M2 H2 hlt l2 p2 m2 (fun _ z => nomatch z), fun σ' H' => i + 1 ≤ ds.length ∧ ∃ F3 Ad3 M3 env3, GrE N0 F3 Ad3 H' ∧ FLe F1 F3 ∧ Pre Ad1 Ad3 ∧ MemOk X.K F3 Ad3 M3 H' ∧ EnvOk X.K N0 F3 Ad3 H' σ' env3 ∧ RPS X.K W DR E N0 F3 Ad3 (forL gd b (ds.drop (i + 1)) env3 M3),
        fun σ' H' ⟨h1, h2⟩ => ⟨ds.length - (i + 1), by omega, rfl, h1, h2⟩, fun x H3 hy => ?_⟩
      obtain ⟨d, F3, hd, g3, m3, x3⟩ := it.yld i F2 Ad2 M2 H2 x H3 hlt l2 p2 m2 (fun _ z => nomatch z) hy
      have hdrop : ds.drop i = d :: ds.drop (i + 1) := by
        rw [List.drop_eq_getElem_cons hlt]
        rw [List.getElem?_eq_getElem hlt] at hd
        cases hd; rfl
      rw [hdrop] at r2
      unfold forL at r2
      cases hgd : gd d env2 with
      | none => rw [hgd] at r2; exact r2.elim
      | some env3 =>
        rw [hgd] at r2
        dsimp only at r2
        refine tgo.ok N0 F3 Ad2 M2 H3 σ2 env2 x d env3 _ m3 (en2.gr g3) x3 hgd fun σ' en' _ => ?_
        refine ⟨N0, F3, Ad2, M2, env3, ge2.trans g3, m3, en', ?_⟩
        have r3 := RPS.gr r2 g3.fle (pre_refl (Ad := Ad2))
        have stp : ∀ env4 M4, RPS X.K W DR E N0 F3 Ad2 (forL gd b (ds.drop (i + 1)) env4 M4) → ∀ σ F' Ad' H', GrE N0 F' Ad' H' → FLe F3 F' → Pre Ad2 Ad' → MemOk X.K F' Ad' M4 H' → EnvOk X.K N0 F' Ad' H' σ env4 →
            (i + 1 ≤ ds.length ∧ ∃ F3 Ad3 M3 env3, GrE N0 F3 Ad3 H' ∧ FLe F1 F3 ∧ Pre Ad1 Ad3 ∧ MemOk X.K F3 Ad3 M3 H' ∧ EnvOk X.K N0 F3 Ad3 H' σ env3 ∧ RPS X.K W DR E N0 F3 Ad3 (forL gd b (ds.drop (i + 1)) env3 M3)) :=
          fun env4 M4 r4 σ F' Ad' H' g' l' p' m' en' => ⟨hlt, F', Ad', M4, env4, g', (l2.trans g3.fle).trans l', p2.trans p', m', en', RPS.gr r4 l' p'⟩
        cases hb : b env3 M2 with
        | next env4 M4 => rw [hb] at r3; exact stp env4 M4 r3
        | cont env4 M4 => rw [hb] at r3; exact stp env4 M4 r3
        | brk env4 M4 => rw [hb] at r3; exact r3
        | ret d M4 => rw [hb] at r3; exact r3
        | exc z env4 M4 => rw [hb] at r3; exact r3
        | stuck => rw [hb] at r3; exact r3
    · left
      have hi2 : i = ds.length := by omega
      subst hi2
      refine ⟨it.stop F2 Ad2 M2 H2 l2 p2 m2 (fun _ z => nomatch z), ?_⟩
      rw [List.drop_length] at r2
      exact r2 σ2 F2 Ad2 H2 ge2 (FLe.refl _) pre_refl m2 en2
/-! ### an own object becomes a value -/
def bShare (i : Nat) : SF := fun env M => match env[i]? with
  | some (.own d) => .next (env.set i (.shr d)) M
  | _ => .stuck
theorem ss_share {K : PySem.W.Frag} (D : Ends) (σ : St) (H : Hp) (h : tS K W DR (bSeq (bShare i) b) D σ H) : tS K W DR b D σ H := by
  obtain ⟨N0, F, Ad, M, env, g, m, en, r⟩ := h
  unfold bSeq bShare at r
  cases hd : env[i]? with
  | none => rw [hd] at r; exact r.elim
  | some bb =>
    cases bb with
    | own d =>
      rw [hd] at r
      dsimp only at r
      obtain ⟨a, c1, c2, c3, c4, c5⟩ := en.own i d hd
      have hl : i < env.length := (List.getElem?_eq_some_iff.mp hd).1
      obtain ⟨F', g', m', dn, l', off⟩ := freeze g m (v := .ref a) ⟨a, rfl, c2, c3, c4, c5⟩
      refine ⟨N0, F', Ad, M, _, g', m', ⟨by simp [en.len], fun j e hj => ?_, fun j e hj => ?_, fun j k e1 e2 b h1 h2 h3 h4 => ?_, fun j e hj => ?_⟩, RPS.gr r l' pre_refl⟩
      · by_cases e1 : i = j
        · subst e1; rw [List.getElem?_set_self hl] at hj; cases hj; exact ⟨_, c1, dn⟩
        · rw [List.getElem?_set_ne e1] at hj
          obtain ⟨v, z1, z2⟩ := en.shr j e hj
          exact ⟨v, z1, z2.mono l' pre_refl⟩
      · have e1 : i ≠ j := fun e1 => by subst e1; rw [List.getElem?_set_self hl] at hj; cases hj
        rw [List.getElem?_set_ne e1] at hj
        obtain ⟨b, b1, b2, b3, b4, b5⟩ := en.own j e hj
        have ne : b ≠ a := fun z => by subst z; exact e1 (en.dis i j d e b hd hj c1 b1)
        exact ⟨b, b1, off b b2 (fun z => ne (by cases z; rfl)), b3, b4, b5.mono l' pre_refl rfl⟩
      · have e1' : i ≠ j := fun e1 => by subst e1; rw [List.getElem?_set_self hl] at h1; cases h1
        have e2' : i ≠ k := fun e1 => by subst e1; rw [List.getElem?_set_self hl] at h2; cases h2
        rw [List.getElem?_set_ne e1'] at h1
        rw [List.getElem?_set_ne e2'] at h2
        exact en.dis j k _ _ b h1 h2 h3 h4
      · have e1 : i ≠ j := fun e1 => by subst e1; rw [List.getElem?_set_self hl] at hj; cases hj
        rw [List.getElem?_set_ne e1] at hj
        obtain ⟨z0, z1, z2, z3, z4, z5, z6⟩ := en.slf j e hj
        have ne : N0.me ≠ a := fun z => z6 i d hd (by rw [c1, z])
        refine ⟨z0, z1, off _ z2 (fun z => ne (by cases z; rfl)), z3, z4, z5.mono l' pre_refl rfl, fun k d2 hk => ?_⟩
        by_cases e2 : i = k
        · subst e2; rw [List.getElem?_set_self hl] at hk; cases hk
        · rw [List.getElem?_set_ne e2] at hk; exact z6 k d2 hk
    | _ => rw [hd] at r; exact r.elim
theorem sss_share (h : SSs X W DR rest b) : SSs X W DR rest (bSeq (bShare i) b) := PSs.imp h fun D σ H x => ss_share D σ H x
end
end MP

set_option maxRecDepth 100000
set_option maxHeartbeats 1000000
namespace MP
open PySem PySem.Spec PyProof.Rows L2
/-! ### isinstance -/
def D.tyN : D → Option String
  | .non => some "NoneType"
  | .bl _ => some "bool"
  | .int _ => some "int"
  | .str _ => some "str"
  | .tup _ => some "tuple"
  | .ktp _ => some "tuple"
  | .lst _ => some "list"
  | .scr _ => some "list"
  | .dK _ => some "dict"
  | .dT _ => some "dict"
  | _ => none
def tyNs : List String := ["NoneType", "bool", "int", "str", "tuple", "list", "dict"]
def subN (n T : String) : Bool := n == T || (n == "bool" && T == "int")
/-- what isinstance asks of T -/
abbrev TyT (T : String) : Prop := ∀ n ∈ tyNs, kitB n T = some (subN n T)
theorem tyT_int : TyT "int" := by decide +kernel
theorem tyT_bool : TyT "bool" := by decide +kernel
theorem tyT_tuple : TyT "tuple" := by decide +kernel
theorem tyT_list : TyT "list" := by decide +kernel
theorem tyT_str : TyT "str" := by decide +kernel
theorem tyT_dict : TyT "dict" := by decide +kernel
theorem D.tyN_mem {d : D} {n : String} (h : d.tyN = some n) : n ∈ tyNs := by
  cases d <;> simp [D.tyN] at h <;> subst h <;> decide
section
variable {X : Cx} {W : WX} {K : PySem.W.Frag} {E : XK} {DR : DRel} {N0 : Ent} {F H : Hp} {Ad : List Addr} {M : List D} {env : EnvM} {σ : St} {Q : VK} {x : V} {e c : Expr} {f : EF} {pos p pc : Pos}
theorem sqT_ty {a : Addr} {xs : List V} (h : SqT K H a xs) : TyX K H (.ref a) (.type "tuple") := by
  rcases h with (h | ⟨o, h⟩) | ⟨o, its, n, hk, hc, _⟩
  · exact .base (.tup h)
  · exact .fTuple h
  · exact .kTuple hk hc
theorem sqL_ty {a : Addr} {xs : List V} (h : SqL K H a xs) : TyX K H (.ref a) (.type "list") := by
  rcases h with (h | ⟨o, h⟩) | ⟨o, its, n, hk, hc, _⟩
  · exact .base (.lst h)
  · exact .base (.frz h)
  · exact .kList hk hc
theorem DV.ty (m : MemOk K F Ad M H) {d : D} {n : String} (h : DV K F Ad H x d) (e : d.tyN = some n) (hd : ∀ k, d ≠ .dT k) : TyX K H x (.type n) := by
  cases d with
  | non => cases e; rw [h.non]; exact .base .non
  | bl b => cases e; rw [h.bl]; exact .base (.bl _)
  | int b => cases e; rw [h.int]; exact .base (.int _)
  | str b => cases e; rw [h.str]; exact .base (.str _)
  | tup b => cases e; obtain ⟨a, vs, rfl, h1, _⟩ := h.tup m; exact .base (.tup h1)
  | ktp b => cases e; obtain ⟨a, vs, rfl, h1, _⟩ := h.ktp m; exact sqT_ty h1
  | lst b => cases e; obtain ⟨a, vs, rfl, h1, _⟩ := h.lst m; exact .base (.lst h1)
  | scr b => cases e; obtain ⟨a, rfl, h1⟩ := h.scr m; exact sqL_ty h1
  | dK b =>
    cases e
    obtain ⟨a, vs, rfl, h1, _⟩ := h.dK m
    rcases h1 with h1 | ⟨o, h1⟩
    · exact .base (.dK h1)
    · exact .fDict h1
  | dT b => exact absurd rfl (hd b)
  | ins c fs => cases e
  | cel n => cases e
/-- a class's instances for isinstance -/
structure ClsT (K : PySem.W.Frag) (c : Str) : Prop where
  cl : Cls K (He.ga K c)
  ha : PySem.W.findIn K (.ref (He.ga K c)) "__class__" = some (some (.builtin "object.__class__"))
  hn : PySem.W.specialIn K (.builtin "object.__class__") "__get__" = some (some (.builtin "getset_descriptor.__get__"))
  htk : PySem.W.takesIn K (.builtin "object.__class__") = some true
  hm : PySem.W.mroIn K (He.ga K c) (.type "object") = some true
/-- k tells isinstance(.., u) -/
def IsK (K : PySem.W.Frag) (u : Value) (k : D → Option Bool) : Prop := ∀ (F : Hp) (Ad : List Addr) (M : List D) (H : Hp) (x : V) (d : D) (b : Bool), MemOk K F Ad M H → DV K F Ad H x d → k d = some b → ∃ t, TyX K H x t ∧ PySem.W.kitOne K t u = some b
/-- of a built-in type T; cs are own classes that are none -/
def isT (T : String) (cs : List Str) (d : D) : Option Bool := match d with
  | .dT _ => none
  | .ins c _ => if cs.contains c = true then some false else none
  | d => d.tyN.map fun n => subN n T
theorem isK_T {T : String} {cs : List Str} (hT : TyT T) (hc : ∀ c ∈ cs, ClsT K c ∧ PySem.W.kitOne K (.ref (He.ga K c)) (.type T) = some false) : IsK K (.type T) (isT T cs) := by
  intro F Ad M H x d b m h e
  have gen : ∀ d' : D, (∀ k, d' ≠ .dT k) → d'.tyN.map (fun n => subN n T) = some b → DV K F Ad H x d' → ∃ t, TyX K H x t ∧ PySem.W.kitOne K t (.type T) = some b := fun d' hn e' h' => by
    rw [Option.map_eq_some_iff] at e'
    obtain ⟨n, e1, e2⟩ := e'
    exact ⟨_, h'.ty m e1 hn, by rw [← e2]; exact kit_ty (hT n (D.tyN_mem e1))⟩
  cases d with
  | dT k => cases e
  | ins c fs =>
    dsimp only [isT] at e
    split at e
    · rename_i hcs
      cases e
      obtain ⟨a, dx, vs, rfl, h1, _⟩ := h.ins m
      obtain ⟨z, hk⟩ := hc c (by simpa using hcs)
      exact ⟨_, .base (.ins h1 z.cl z.ha z.hn z.htk z.hm), hk⟩
    · cases e
  | non => exact gen (.non) (fun _ z => nomatch z) e h
  | bl y => exact gen (.bl y) (fun _ z => nomatch z) e h
  | int y => exact gen (.int y) (fun _ z => nomatch z) e h
  | str y => exact gen (.str y) (fun _ z => nomatch z) e h
  | tup y => exact gen (.tup y) (fun _ z => nomatch z) e h
  | ktp y => exact gen (.ktp y) (fun _ z => nomatch z) e h
  | lst y => exact gen (.lst y) (fun _ z => nomatch z) e h
  | scr y => exact gen (.scr y) (fun _ z => nomatch z) e h
  | dK y => exact gen (.dK y) (fun _ z => nomatch z) e h
  | cel _ => cases e
def oIsi (k : D → Option Bool) (d : D) (M : List D) : R := match k (view M d) with
  | some b => .ok (.bl b) M
  | none => .stuck
theorem se_isi {k : D → Option Bool} {cv : V} {u : Value} (hk : IsK X.K u k) (he : SB X W e f) (hc : PE X c (fun _ H Q => Q cv H)) (hcv : ClsV cv u) (hg : Gl X "isinstance") (hm : X.mg "isinstance" = none)
    (hs1 : starEach [e, c] X.env = (false, eval e X.env) :: starEach [c] X.env := by rfl) (hs2 : starEach [c] X.env = [(false, eval c X.env)] := by rfl) (hpl : (backTo pos (starEach [c] X.env)).any (·.1) = false := by rfl) :
    SE X W (.Call (.Name "isinstance" p) [e, c] [] pos) (e1 (oIsi k) f) := by
  refine ⟨fun pins s σ H Q I ⟨N0, F, Ad, M, env, m, en, r⟩ => ?_⟩
  have ha : PA X [e, c] (fun σ H Q => tG X.K W (DB X.K) f σ H fun x H1 => Q [x, cv] H1) := pa_cons he (pa_cons hc pa_nil hs2) hs1
  refine wpAny_Call_Name_kw (ld_blt I hg hm (show bootBuiltins "isinstance" = some (.builtin "isinstance") by decide +kernel) ?_ (by decide) (by decide))
  refine PyProof.Rows.callWith_builtin1 (thn (ha.run pos pins s σ H (fun vs H1 => ∃ F1 Ad1 M1 d v, vs = [v, cv] ∧ MemOk X.K F1 Ad1 M1 H1 ∧ DB X.K H1 F1 Ad1 H1 v d ∧ RP X.K (fun c d H => W c d σ H) (DE X.K) F1 Ad1 H1 Q (oIsi k d M1)) I
    (tG_seq DE.ok m en r fun d M1 v F1 Ad1 H1 g1 m1 en1 x1 r1 => ⟨F1, Ad1, M1, d, v, rfl, m1, x1, r1⟩)) fun us s1 ⟨vs, H1, I1, rv, F1, Ad1, M1, d, v, ev, m1, x1, r1⟩ => ?_) hs1 hpl
  unfold oIsi at r1
  split at r1
  · rename_i b hb
    obtain ⟨t, ht, hkit⟩ := hk F1 Ad1 M1 H1 v _ b m1 (DB.view m1 x1) hb
    exact call_isi pins s1 σ H1 vs us Q I1 rv ⟨v, cv, t, u, b, ev, hcv, ht, hkit, RP.here r1 m1 .bl⟩
  · exact r1.elim
theorem pe_tyN {n : String} {y : Str} (hg : Gl X y) (hm : X.mg y = none) (hv : bootBuiltins y = some (.type n)) (hn : y ≠ "__name__" := by decide) (hd : (y == ("__debug__" : Str)) = false := by decide) : PE X (.Name y pos) (fun _ H Q => Q (.ty n) H) :=
  pe_bltn (v := .ty n) hg hm hv (show RelV (.ty n) (.type n) from rfl) hn hd

/-! ### dict(pairs) -/
def pairsD : List D → Option (List (Key × D))
  | [] => some []
  | .tup [k, v] :: r => match keyD k, pairsD r with
    | some q, some l => some ((q, v) :: l)
    | _, _ => none
  | _ :: _ => none
def mrgD (kvs more : List (Key × D)) : List (Key × D) := more.foldl (fun acc kv => insK acc kv.1 kv.2) kvs
theorem mrg_ok : ∀ {more : List (Key × V)} {md : List (Key × D)} {kvs : List (Key × V)} {kd : List (Key × D)}, DenK K F Ad more md → DenK K F Ad kvs kd → DenK K F Ad (mergeK kvs more) (mrgD kd md)
  | _, _, _, _, .nil, h => h
  | _, _, _, _, .cons (k := k) q r, h => by
    have z := mrg_ok r (h.put (k := k) q)
    exact z
theorem pairs_ok (m : MemOk K F Ad M H) : ∀ {vs ds l}, DenL K F Ad vs ds → pairsD ds = some l → ∃ (ps : List Addr) (kvs : List (Key × V)), vs = ps.map V.ref ∧ Paired (fun p kv => SqT K H p [kV kv.1, kv.2]) ps kvs ∧ DenK K F Ad kvs l
  | _, _, l, .nil, e => by simp [pairsD] at e; subst e; exact ⟨[], [], rfl, .nil, .nil⟩
  | _, _, l, .cons (d := d) h r, e => by
    unfold pairsD at e
    split at e
    · rename_i hh; cases hh
    · rename_i k v r' hh
      cases hh
      split at e
      · rename_i q l' e1 e2
        cases e
        obtain ⟨ps, kvs, rfl, h2, h3⟩ := pairs_ok m r e2
        cases h with
        | tup h4 h5 =>
          cases h5 with
          | cons a1 a2 => cases a2 with
            | cons a3 a4 => cases a4; exact ⟨_ :: ps, (q, _) :: kvs, rfl, .cons (by rw [← keyD_v a1 e1]; exact SqT.of (m.sub _ _ h4)) h2, .cons a3 h3⟩
      · cases e
    · cases e
def bDict (ds : List D) (M : List D) : R := match ds with
  | [d] => (match view M d with
    | .lst xs => (match pairsD xs with
      | some l => .ok (.dK (mrgD [] l)) M
      | none => .stuck)
    | _ => .stuck)
  | _ => .stuck
theorem call_dictS (hc : X.calm = true) : CallS X (DO X.K) (.type "dict") bDict := by
  intro pins s σ H F Ad M E xs us ds Q I m rv x r
  unfold bDict at r
  split at r
  · rename_i d
    obtain ⟨v, rfl, hx⟩ := x.one
    have ax := DB.view m hx
    split at r
    · rename_i ys e; rw [e] at ax; obtain ⟨a, vs, rfl, h1, h2⟩ := ax.lst m
      split at r
      · rename_i l hl
        obtain ⟨ps, kvs, rfl, h3, h4⟩ := pairs_ok m h2 hl
        exact call_dictP hc pins s σ H _ us Q I rv ⟨a, ps, kvs, rfl, SqL.of h1, h3, fun p hp => RP.ownDK r m (mrg_ok h4 .nil) hp⟩
      · exact r.elim
    · exact r.elim
  · exact r.elim
end
/-! ### a def's promise out of its body -/
def env0 (n : Nat) (ds : List D) : EnvM := ds.map B.shr ++ List.replicate (n - ds.length) B.no
def endE (r : RS) : R := match r with
  | .ret d M => .ok d M
  | .next _ M => .ok .non M
  | .exc x _ M => .exc x M
  | _ => .stuck
def endO (r : RS) : R := match r with
  | .ret d M => .ok d M
  | .exc x _ M => .exc x M
  | _ => .stuck
def endI (r : RS) : R := match r with
  | .next env M => (match (env[0]? : Option B) with | some (B.slf d) => .ok d M | _ => .stuck)
  | .exc x _ M => .exc x M
  | _ => .stuck
section
variable {P : Program} {w : World} {K : PySem.W.Frag} {mg : Str → Option Value} {base : Heap} {x qual : Str} {params : Arguments} {body : List Stmt} {scope : Scope} {dvs : List V} {kws : List (Str × V)} {f : Addr} {fd : FuncData} {N ps : List Str} {k : Nat} {F H : Hp} {Ad : List Addr} {M : List D}
abbrev wxE (E : XK) : WX := fun c d _ H => E c d H
theorem env0_ok {vs : List V} {ds : List D} (x : DenL K F Ad vs ds) (me : Addr) : EnvOk K ⟨H, F, Ad, me⟩ F Ad H (L2.start N vs) (env0 N.length ds) := by
  have hl := x.length
  have hs : ∀ {i : Nat} {b : B}, (env0 N.length ds)[i]? = some b → b ≠ .no → ∃ d, ds[i]? = some d ∧ b = .shr d := fun {i b} h hb => by
    unfold env0 at h
    by_cases hi : i < ds.length
    · rw [List.getElem?_append_left (by simpa using hi), List.getElem?_map, List.getElem?_eq_getElem hi] at h
      exact ⟨_, List.getElem?_eq_getElem hi, by simpa using h.symm⟩
    · rw [List.getElem?_append_right (by simpa using hi), List.getElem?_replicate] at h
      split at h
      · cases h; exact absurd rfl hb
      · cases h
  refine ⟨by unfold env0 L2.start; simp [hl], fun i d h => ?_, fun i d h => ?_, fun i j d e a h _ _ _ => ?_, fun i d h => ?_⟩
  · obtain ⟨d', h1, h2⟩ := hs h (fun z => nomatch z)
    cases h2
    obtain ⟨v, h3, h4⟩ := x.get h1
    refine ⟨v, ?_, h4⟩
    unfold L2.start
    rw [List.getElem?_append_left (by simpa using (List.getElem?_eq_some_iff.mp h3).1), List.getElem?_map, h3]; rfl
  · obtain ⟨d', h1, h2⟩ := hs h (fun z => nomatch z); cases h2
  · obtain ⟨d', h1, h2⟩ := hs h (fun z => nomatch z); cases h2
  · obtain ⟨d', h1, h2⟩ := hs h (fun z => nomatch z); cases h2
theorem fnok_of {DR : DRel} {fin : RS → R} {n : Nat} {b : SF} (Fd : FunD K x qual params body scope dvs kws f fd) (S : FnScope N ps scope) (hn : ps.length = n)
    (hfin : ∀ (E : XK) (Q : VK) (F H : Hp) (Ad : List Addr) (r : RS), RP K E DR F Ad H Q (fin r) → RPS K (wxE E) DR { nx := fun _ H' => Q .non H', rt := Q } ⟨H, F, Ad, 0⟩ F Ad r)
    (hbody : ∀ (cdv : Value) (A : Around) (outer : List Env) (s : Shared) (H : Hp) (E : XK), Room k (A.deeper (envOfC qual scope s.heap.objs.size f cdv)) → SSs (cxOf (L2.CX P w) P w K mg base N qual scope f cdv A outer s H E) (wxE E) DR body b) :
    FnOk P w K mg base (L2.CX P w) (k + 1) f fd ps (spD K DR n (fun ds M => fin (b (env0 N.length ds) M))) := by
  refine Fd.ok S (fun vs H Q E h => h.1.trans hn.symm) fun cdv A outer s H vs Q E hr hsp => ⟨_, hbody cdv A outer s H E hr, ?_⟩
  obtain ⟨_, F, Ad, M, ds, m, dx, r⟩ := hsp
  exact ⟨⟨H, F, Ad, 0⟩, F, Ad, M, _, Gr.refl, m, env0_ok dx 0, hfin E Q F H Ad _ r⟩
theorem fnk_of {DR : DRel} {fin : RS → R} {n : Nat} {dd : List D} {us : List Value} {b : SF} (Fd : FunD K x qual params body scope dvs kws f fd) (S : FnScope N ps scope) (hn : ps.length = n) (hb : Binds K fd ps us) (hv : Vals dvs us) (hdd : ∀ F Ad, DenL K F Ad dvs dd)
    (hfin : ∀ (E : XK) (Q : VK) (F H : Hp) (Ad : List Addr) (r : RS), RP K E DR F Ad H Q (fin r) → RPS K (wxE E) DR { nx := fun _ H' => Q .non H', rt := Q } ⟨H, F, Ad, 0⟩ F Ad r)
    (hbody : ∀ (cdv : Value) (A : Around) (outer : List Env) (s : Shared) (H : Hp) (E : XK), Room k (A.deeper (envOfC qual scope s.heap.objs.size f cdv)) → SSs (cxOf (L2.CX P w) P w K mg base N qual scope f cdv A outer s H E) (wxE E) DR body b) :
    FnK P w K mg base DR (k + 1) n f dd (fun ds M => fin (b (env0 N.length ds) M)) := ⟨fd, ps, dvs, us, fnok_of Fd S hn hfin hbody, hb, hv, hdd, Fd.kp⟩
theorem finE (E : XK) (Q : VK) (F H : Hp) (Ad : List Addr) (r : RS) (h : RP K E (DE K) F Ad H Q (endE r)) : RPS K (wxE E) (DE K) { nx := fun _ H' => Q .non H', rt := Q } ⟨H, F, Ad, 0⟩ F Ad r := by
  cases r with
  | next env M => exact fun σ F' Ad' H' g l p m en => h .non F' Ad' H' g m .non
  | ret d M => exact fun v F' Ad' H' g m x => h v F' Ad' H' g m x
  | brk env M => exact h.elim
  | cont env M => exact h.elim
  | exc x env M => exact fun cls dx σ F' Ad' H' g l p m en z => h cls dx F' Ad' H' g m z
  | stuck => exact h
theorem finO (E : XK) (Q : VK) (F H : Hp) (Ad : List Addr) (r : RS) (h : RP K E (DO K) F Ad H Q (endO r)) : RPS K (wxE E) (DO K) { nx := fun _ H' => Q .non H', rt := Q } ⟨H, F, Ad, 0⟩ F Ad r := by
  cases r with
  | next env M => exact h.elim
  | ret d M => exact fun v F' Ad' H' g m x => h v F' Ad' H' g m x
  | brk env M => exact h.elim
  | cont env M => exact h.elim
  | exc x env M => exact fun cls dx σ F' Ad' H' g l p m en z => h cls dx F' Ad' H' g m z
  | stuck => exact h
/-- __init__ -/
def env0I (n : Nat) (cn : Str) (ds : List D) : EnvM := B.slf (.ins cn []) :: (ds.map B.shr ++ List.replicate (n - (ds.length + 1)) B.no)
theorem ink_of {n : Nat} {cn : Str} {dd : List D} {us : List Value} {b : SF} (Mm : Mk K (He.ga K cn) f) (Fd : FunD K x qual params body scope dvs kws f fd) (S : FnScope N ps scope) (hn : ps.length = n + 1) (hb : Binds K fd ps us) (hv : Vals dvs us) (hdd : ∀ F Ad, DenL K F Ad dvs dd)
    (hbody : ∀ (cdv : Value) (A : Around) (outer : List Env) (s : Shared) (H : Hp) (E : XK), Room k (A.deeper (envOfC qual scope s.heap.objs.size f cdv)) → SSs (cxOf (L2.CX P w) P w K mg base N qual scope f cdv A outer s H E) (wxE E) (DE K) body b) :
    InK P w K mg base (k + 1) n cn f dd (fun ds M => endI (b (env0I N.length cn ds) M)) := by
  refine ⟨Mm, fd, ps, dvs, us, Fd.ok S (fun vs H Q E h => h.1.trans hn.symm) fun cdv A outer s H vs Q E hr hsp => ⟨_, hbody cdv A outer s H E hr, ?_⟩, hb, hv, hdd⟩
  obtain ⟨hlen, xx, dx, rest, HH, F, Ad, M, ds, rfl, rfl, n1, n2, ne, m, dl, r⟩ := hsp
  have hl := dl.length
  have g1 : Gr F Ad HH F Ad (upd HH dx (.own xx)) := gr_own n2
  have n1' : upd HH dx (.own xx) xx = none := by rw [upd_ne (Ne.symm ne)]; exact n1
  have g2 := g1.trans (gr_own (o := .ins (He.ga K cn) dx []) n1')
  have m2 := mem_own (o := .ins (He.ga K cn) dx []) (mem_own (o := .own xx) m n2) n1'
  have hs : ∀ {i : Nat} {bb : B}, (env0I N.length cn ds)[i]? = some bb → bb ≠ .no → (i = 0 ∧ bb = .slf (.ins cn [])) ∨ ∃ j d, i = j + 1 ∧ ds[j]? = some d ∧ bb = .shr d := fun {i bb} h hb => by
    unfold env0I at h
    cases i with
    | zero => simp at h; exact .inl ⟨rfl, h.symm⟩
    | succ i =>
      right
      simp only [List.getElem?_cons_succ] at h
      by_cases hi : i < ds.length
      · rw [List.getElem?_append_left (by simpa using hi), List.getElem?_map, List.getElem?_eq_getElem hi] at h
        exact ⟨i, _, rfl, List.getElem?_eq_getElem hi, by simpa using h.symm⟩
      · rw [List.getElem?_append_right (by simpa using hi), List.getElem?_replicate] at h
        split at h
        · cases h; exact absurd rfl hb
        · cases h
  refine ⟨⟨HH, F, Ad, xx⟩, F, Ad, M, env0I N.length cn ds, g2, m2, ⟨?_, fun i d h => ?_, fun i d h => ?_, fun i j d e a h _ _ _ => ?_, fun i d h => ?_⟩, ?_⟩
  · unfold env0I L2.start; simp [hl]
  · rcases hs h (fun z => nomatch z) with ⟨_, z⟩ | ⟨j, d', rfl, h1, h2⟩
    · cases z
    · cases h2
      obtain ⟨v, h3, h4⟩ := dl.get h1
      refine ⟨v, ?_, h4⟩
      unfold L2.start
      simp only [List.map_cons, List.cons_append, List.getElem?_cons_succ]
      rw [List.getElem?_append_left (by simpa using (List.getElem?_eq_some_iff.mp h3).1), List.getElem?_map, h3]; rfl
  · rcases hs h (fun z => nomatch z) with ⟨_, z⟩ | ⟨j, d', rfl, h1, h2⟩
    · cases z
    · cases h2
  · rcases hs h (fun z => nomatch z) with ⟨_, z⟩ | ⟨j, d', rfl, h1, h2⟩
    · cases z
    · cases h2
  · rcases hs h (fun z => nomatch z) with ⟨rfl, z⟩ | ⟨j, d', rfl, h1, h2⟩
    · cases z
      refine ⟨rfl, rfl, m.none n1, m.notin n1, n1, .ins upd_same .nil, fun j e hj => ?_⟩
      rcases hs hj (fun z => nomatch z) with ⟨_, z⟩ | ⟨j', d', rfl, h1, h2⟩
      · cases z
      · cases h2
    · cases h2
  · show RPS K (wxE E) (DE K) _ _ F Ad (b (env0I N.length cn ds) M)
    cases hq : b (env0I N.length cn ds) M with
    | next env M' =>
      simp only [hq, endI] at r
      intro σ F' Ad' H' g l p m' en
      split at r
      · rename_i d hd
        obtain ⟨_, c1, c2, c3, c4, c5, _⟩ := en.slf 0 d hd
        exact r (.ref xx) F' Ad' H' g m' ⟨xx, rfl, c2, c3, c4, c5⟩ rfl
      · exact r.elim
    | ret d M' => simp only [hq, endI] at r; exact r.elim
    | brk env M' => simp only [hq, endI] at r; exact r.elim
    | cont env M' => simp only [hq, endI] at r; exact r.elim
    | exc z env M' => simp only [hq, endI] at r; exact fun cls dx2 σ F' Ad' H' g l p m' en zz => r cls dx2 F' Ad' H' g m' zz
    | stuck => simp only [hq, endI] at r; exact r.elim
end
end MP

set_option maxRecDepth 100000
set_option maxHeartbeats 1000000
namespace MP
open PySem PySem.Spec PyProof.Rows L2
/-! ### what the head tells -/
/-- a property's getter -/
def prA (K : PySem.W.Frag) (C f : Str) : Addr := match PySem.W.recIn K (He.ma K (He.ga K C) f) "property" with
  | some (.ref g :: _) => g
  | _ => 0
/-- where a def stands: a global's, a method, a property's getter -/
inductive Loc3 where
  | g (x : Str) | m (C f : Str) | p (C f : Str)
def Loc3.at_ (K : PySem.W.Frag) : Loc3 → Addr
  | .g x => He.ga K x
  | .m C f => He.ma K (He.ga K C) f
  | .p C f => prA K C f
structure DefM where
  loc : Loc3
  name : Str
  qual : Str
  params : Arguments
  body : List Stmt
  scope : Scope
  dfl : List He.Dv := []
def DefM.val (d : DefM) : He.FnW := some (d.name, d.qual, d.params, .stmts d.body, d.scope, mainGlobals, [], builtinsNs)
def DefM.dvs (K : PySem.W.Frag) (d : DefM) : List V := d.dfl.map (He.Dv.v K)
def fnA (K : PySem.W.Frag) (a : Addr) : He.FnW := match K.lookup a with
  | some ⟨_, _, .func fd, _⟩ => some (fd.name, fd.qualname, fd.params, fd.body, fd.scope, fd.globals, fd.closure, fd.builtins)
  | _ => none
def DefM.ok (K : PySem.W.Frag) (d : DefM) : Bool := PySem.W.keepIn K (.ref (d.loc.at_ K)) && (match K.lookup (d.loc.at_ K) with
  | some ⟨_, _, .func fd, _⟩ => PySem.W.codeIn K fd.code d.qual && He.dflB K fd.defaults (d.dvs K)
  | _ => false)
theorem DefM.funD {K : PySem.W.Frag} {d : DefM} (e : fnA K (d.loc.at_ K) = d.val) (c : d.ok K = true) : ∃ fd, FunD K d.name d.qual d.params d.body d.scope (d.dvs K) [] (d.loc.at_ K) fd := by
  obtain ⟨kp, c2⟩ := He.ba c
  unfold fnA at e
  cases q : K.lookup (d.loc.at_ K) with
  | none => rw [q] at c2; cases c2
  | some o =>
    rw [q] at c2 e
    obtain ⟨oc, od, dt, osl⟩ := o
    cases dt with
    | func fd =>
      obtain ⟨n1, n2, n3, n4, n5, n6, n7, n8, n9, n10, n11, n12, n13, n14, n15⟩ := fd
      have e2 : (some (n1, n2, n3, n4, n5, n6, n7, n15) : He.FnW) = d.val := e
      unfold DefM.val at e2
      simp only [Option.some.injEq, Prod.mk.injEq] at e2
      obtain ⟨h1, h2, h3, h4, h5, h6, h7, h8⟩ := e2
      subst h1 h2 h3 h4 h5 h6 h7 h8
      obtain ⟨k1, k3⟩ := He.ba c2
      exact ⟨_, ⟨oc, od, n8, n9, n10, n11, n12, n13, n14, osl, rfl, q, k1, He.dflB_ok k3, He.kwdB_ok (kws := []) rfl⟩, kp⟩
    | _ => cases c2
/-- more facts -/
inductive Fm where
  | prop (C f : Str)
  | clsT (c : Str)
  | kit (c : Str) (T : String) (b : Bool)
  | kitT (T : String) (c : Str) (b : Bool)
  | kitC (c d : Str) (b : Bool)
def clsTB (K : PySem.W.Frag) (c : Str) : Bool := (He.Fa.cls c).ok K && (He.eqO (PySem.W.findIn K (.ref (He.ga K c)) "__class__") (some (some (.builtin "object.__class__"))) && (He.eqO (PySem.W.specialIn K (.builtin "object.__class__") "__get__") (some (some (.builtin "getset_descriptor.__get__"))) &&
  (decide (PySem.W.takesIn K (.builtin "object.__class__") = some true) && decide (PySem.W.mroIn K (He.ga K c) (.type "object") = some true))))
theorem clsTB_ok {K : PySem.W.Frag} {c : Str} (h : clsTB K c = true) : ClsT K c := by
  obtain ⟨h1, h⟩ := He.ba h
  obtain ⟨h2, h⟩ := He.ba h
  obtain ⟨h3, h⟩ := He.ba h
  obtain ⟨h4, h5⟩ := He.ba h
  exact ⟨He.cls_ok h1, He.eqO_ok h2, He.eqO_ok h3, of_decide_eq_true h4, of_decide_eq_true h5⟩
def propB (K : PySem.W.Frag) (C f : Str) : Bool := He.eqO (PySem.W.findIn K (.ref (He.ga K C)) f) (some (some (.ref (He.ma K (He.ga K C) f)))) && (He.eqO (PySem.W.specialIn K (.ref (He.ma K (He.ga K C) f)) "__get__") (some (some (.builtin "property.__get__"))) &&
  (decide (PySem.W.takesIn K (.ref (He.ma K (He.ga K C) f)) = some true) && (match PySem.W.recIn K (He.ma K (He.ga K C) f) "property" with
    | some (.ref _ :: _) => true
    | _ => false)))
theorem propB_ok {K : PySem.W.Frag} {C f : Str} (h : propB K C f = true) : PropOf K (He.ga K C) f (He.ma K (He.ga K C) f) (prA K C f) := by
  obtain ⟨h1, h⟩ := He.ba h
  obtain ⟨h2, h⟩ := He.ba h
  obtain ⟨h3, h⟩ := He.ba h
  refine ⟨He.eqO_ok h1, He.eqO_ok h2, of_decide_eq_true h3, ?_⟩
  unfold prA
  split at h
  · rename_i g rest e
    rw [e]
    exact ⟨rest, rfl⟩
  · cases h
def Fm.ok (K : PySem.W.Frag) : Fm → Bool
  | .prop C f => propB K C f
  | .clsT c => clsTB K c
  | .kit c T b => decide (PySem.W.kitOne K (.ref (He.ga K c)) (.type T) = some b)
  | .kitT T c b => decide (PySem.W.kitOne K (.type T) (.ref (He.ga K c)) = some b)
  | .kitC c d b => decide (PySem.W.kitOne K (.ref (He.ga K c)) (.ref (He.ga K d)) = some b)
abbrev AlM : Type := Bool × List He.FnW
def obsM (fa : List He.Fa) (fm : List Fm) (fn : List DefM) (K : PySem.W.Frag) : AlM := ((fa.all fun f => f.ok K) && ((fm.all fun f => f.ok K) && fn.all fun d => d.ok K), fn.map fun d => fnA K (d.loc.at_ K))
def valM (fn : List DefM) : AlM := (true, fn.map DefM.val)
def SaysM (fa : List He.Fa) (fm : List Fm) (fn : List DefM) (K : PySem.W.Frag) : Prop := obsM fa fm fn K = valM fn
def hookM (n : Nat) (fa : List He.Fa) (fm : List Fm) (fn : List DefM) : PySem.W.Hook where
  α := AlM
  obs := fun s => obsM fa fm fn (He.frG s.heap.get? (He.asD s.heap.get? n))
  val := fun _ => valM fn
  says := fun _ h => ∃ K : PySem.W.Frag, K.In h ∧ SaysM fa fm fn K
  of := fun _ _ e => ⟨_, He.frG_in, e⟩
  keeps := fun _ _ _ ⟨K, hK, c⟩ k => ⟨K, PySem.W.Frag.In.keeps hK k, c⟩
def obG (n : Nat) (fa : List He.Fa) (fm : List Fm) (fn : List DefM) (g : Addr → Option Obj) : AlM := obsM fa fm fn (He.frG g (He.asD g n))
theorem obG_eq {n : Nat} {fa : List He.Fa} {fm : List Fm} {fn : List DefM} {g : Addr → Option Obj} {s : Shared} (h : ∀ a, g a = s.heap.get? a) : obG n fa fm fn g = (hookM n fa fm fn).obs s := by
  have e : g = s.heap.get? := funext h
  subst e
  rfl
section
variable {fa : List He.Fa} {fm : List Fm} {fn : List DefM} {K : PySem.W.Frag}
theorem SaysM.all (c : SaysM fa fm fn K) : (fa.all fun f => f.ok K) = true ∧ (fm.all fun f => f.ok K) = true ∧ (fn.all fun d => d.ok K) = true := by
  have e : ((fa.all fun f => f.ok K) && ((fm.all fun f => f.ok K) && fn.all fun d => d.ok K)) = true := congrArg (fun z : AlM => z.1) c
  obtain ⟨h1, h⟩ := He.ba e
  obtain ⟨h2, h3⟩ := He.ba h
  exact ⟨h1, h2, h3⟩
theorem SaysM.a (c : SaysM fa fm fn K) (i : Nat) {f : He.Fa} (h : fa[i]? = some f) : f.ok K = true := List.all_eq_true.mp c.all.1 f (List.mem_of_getElem? h)
theorem SaysM.b (c : SaysM fa fm fn K) (i : Nat) {f : Fm} (h : fm[i]? = some f) : f.ok K = true := List.all_eq_true.mp c.all.2.1 f (List.mem_of_getElem? h)
theorem SaysM.d (c : SaysM fa fm fn K) (i : Nat) {d : DefM} (h : fn[i]? = some d) : ∃ fd, FunD K d.name d.qual d.params d.body d.scope (d.dvs K) [] (d.loc.at_ K) fd := by
  refine DefM.funD ?_ (List.all_eq_true.mp c.all.2.2 d (List.mem_of_getElem? h))
  have e : (fn.map fun d => fnA K (d.loc.at_ K)) = fn.map DefM.val := congrArg (fun z : AlM => z.2) c
  have e2 := congrArg (fun l : List He.FnW => l[i]?) e
  simp only [List.getElem?_map, h, Option.map_some, Option.some.injEq] at e2
  exact e2
end
/-- the frame of a row's body -/
theorem takesX {P : Program} {w : World} {K : PySem.W.Frag} {mg : Str → Option Value} {base : Heap} {N : List Str} {qual : Str} {scope : Scope} {f : Addr} {cd : Value} {A : Around} {outer : List Env} {s : Shared} {H : Hp} {E : XK} :
    Takes (cxOf (L2.CX P w) P w K mg base N qual scope f cd A outer s H E) (wxE E) := takes_of (X := cxOf (L2.CX P w) P w K mg base N qual scope f cd A outer s H E) (E := E) rfl rfl rfl rfl
theorem pasX {P : Program} {w : World} {K : PySem.W.Frag} {mg : Str → Option Value} {base : Heap} {N : List Str} {qual : Str} {scope : Scope} {f : Addr} {cd : Value} {A : Around} {outer : List Env} {s : Shared} {H : Hp} {E : XK} :
    Pas (cxOf (L2.CX P w) P w K mg base N qual scope f cd A outer s H E) (wxE E) := fun σ => passAt takesX σ
theorem ownX {P : Program} {w : World} {K : PySem.W.Frag} {mg : Str → Option Value} {base : Heap} {N : List Str} {qual : Str} {scope : Scope} {f : Addr} {cd : Value} {A : Around} {outer : List Env} {s : Shared} {H : Hp} {E : XK} :
    PassesOwn (model (cxOf (L2.CX P w) P w K mg base N qual scope f cd A outer s H E).prog w) (cxOf (L2.CX P w) P w K mg base N qual scope f cd A outer s H E).A (cxOf (L2.CX P w) P w K mg base N qual scope f cd A outer s H E).env (cxOf (L2.CX P w) P w K mg base N qual scope f cd A outer s H E).xe := passes_of (X := cxOf (L2.CX P w) P w K mg base N qual scope f cd A outer s H E) rfl
/-- some world's -/
def CXa (P : Program) : CXT := fun outer H s E u s' => ∃ w, L2.CX P w outer H s E u s'
theorem fn_any {P : Program} {w : World} {K : PySem.W.Frag} {mg : Str → Option Value} {base : Heap} {k : Nat} {f : Addr} {fd : FuncData} {ps : List Str} {sp : Sp} (F : FnOk P w K mg base (L2.CX P w) k f fd ps sp) : FnOk P w K mg base (CXa P) k f fd ps sp := by
  refine ⟨F.len, fun A outer s H args us vs Q E hr he hb hv hs => codeAny_mono (F.run A outer s H args us vs Q E hr he hb hv hs) fun r s' q => ?_⟩
  cases r with
  | error e => exact ⟨w, q⟩
  | ok fl => cases fl <;> exact q
theorem cxa_end {P : Program} (H : Hp) (s : Shared) (e : Value) (s' : Shared) (c : CXa P [] H s (fun _ _ _ => False) e s') : False := by
  obtain ⟨_, _, _, _, _, _, _, _, _, _, _, _, _, z⟩ := c
  exact z
theorem cx_end {P : Program} {w : World} (H : Hp) (s : Shared) (e : Value) (s' : Shared) (c : L2.CX P w [] H s (fun _ _ _ => False) e s') : False := by
  obtain ⟨_, _, _, _, _, _, _, _, _, _, _, _, z⟩ := c
  exact z
/-- the law's promise, from its data -/
theorem law_sp {K : PySem.W.Frag} {c : List D → List D → R} {H : Hp} {a : Addr} {ns : List Int} (hS : SqL K H a (ns.map V.int)) (h : ∃ M, c [.scr ns] [] = .ok (.bl true) M) : spD K (DE K) 1 c [.ref a] H (fun v _ => v = .bl true) fun _ _ _ => False := by
  refine ⟨rfl, H, [], [], [.scr ns], ⟨fun _ _ h => h, rfl, List.nodup_nil, fun n a d h => by simp at h⟩, .cons (.scr hS) .nil, ?_⟩
  obtain ⟨M, h⟩ := h
  rw [h]
  intro v F' Ad' H' _ _ x
  cases x; rfl
end MP

set_option maxRecDepth 100000
set_option maxHeartbeats 1000000
namespace MP
open PySem PySem.Spec PyProof.Rows L2
section
variable {X : Cx} {W : WX} {K : PySem.W.Frag} {DR : DRel} {N0 : Ent} {F H : Hp} {Ad : List Addr} {M : List D} {env : EnvM} {σ : St} {Q : VK} {a b c : Expr} {fa fb fc : EF} {pos : Pos}
theorem chain_read {op op' : CmpOp} {g g' : D → D → List D → R} (h : tG X.K W (DE X.K) (eChain g g' fa fb fc) σ H Q) :
    tChain (rOp X (fun c d H => W c d σ H) (DE X.K) g) (rOp X (fun c d H => W c d σ H) (DE X.K) g') (tG X.K W (DB X.K) fa) (tG X.K W (DB X.K) fb) (tG X.K W (DB X.K) fc) σ H Q := by
  obtain ⟨N0, F, Ad, M, env, m, en, r⟩ := h
  refine tG_seq DE.ok m en r fun d M1 v F1 Ad1 H1 g1 m1 en1 x1 r1 => ?_
  refine tG_seq DE.ok m1 en1 r1 fun d2 M2 v2 F2 Ad2 H2 g2 m2 en2 x2 r2 => ?_
  refine ⟨F2, Ad2, M2, d, d2, m2, DB.gr g2 x1, x2, ?_⟩
  cases q : g d d2 M2 with
  | ok d3 M3 =>
    rw [q] at r2
    intro v3 F3 Ad3 H3 g3 m3 x3
    have r3 := RP.gr DE.ok r2 g3
    have en3 := en2.gr g3
    cases d3 with
    | bl k =>
      cases x3
      refine ⟨k, rfl, ?_⟩
      cases k with
      | true =>
        refine tG_seq DE.ok m3 en3 r3 fun d4 M4 v4 F4 Ad4 H4 g4 m4 en4 x4 r4 => ?_
        exact ⟨F4, Ad4, M4, d2, d4, m4, DB.gr g4 (DB.gr g3 x2 (H0' := H3)), x4, r4⟩
      | false => exact RP.here r3 m3 .bl
    | _ => exact r3.elim
  | exc x M3 => rw [q] at r2; exact r2
  | stuck => rw [q] at r2; exact r2
theorem se_ch {op op' : CmpOp} {g g' : D → D → List D → R} (ho : Op2 X (DE X.K) (compareOp op) g) (ho' : Op2 X (DE X.K) (compareOp op') g') (ha : SB X W a fa) (hb : SB X W b fb) (hc : SB X W c fc) (hm : lastMarks [op, op'] [b, c] = false := by rfl) :
    SE X W (.Compare a [op, op'] [b, c] pos) (eChain g g' fa fb fc) :=
  ⟨fun pins s σ H Q I h => (pe_chain (ho.opR (E := fun c d H => W c d σ H)) (ho'.opR (E := fun c d H => W c d σ H)) ha hb hc hm).run pins s σ H Q I (chain_read (op := op) (op' := op') h)⟩
theorem st_ch {op op' : CmpOp} {g g' : D → D → List D → R} (ho : Op2 X (DE X.K) (compareOp op) g) (ho' : Op2 X (DE X.K) (compareOp op') g') (ha : SB X W a fa) (hb : SB X W b fb) (hc : SB X W c fc) (hm : lastMarks [op, op'] [b, c] = false := by rfl) :
    ST X W (.Compare a [op, op'] [b, c] pos) (eChain g g' fa fb fc) :=
  ⟨fun pins s σ H Q I ⟨N0, F, Ad, M, env, m, en, r⟩ => (pt_chain (ho.opR (E := fun c d H => W c d σ H)) (ho'.opR (E := fun c d H => W c d σ H)) ha hb hc hm).run pins s σ H Q I (chain_read (op := op) (op' := op') ⟨N0, F, Ad, M, env, m, en, by
    cases q : eChain g g' fa fb fc env M with
    | ok d M1 =>
      rw [q] at r
      intro v F' Ad' H' g m' x
      cases d with
      | bl b => cases x; exact ⟨b, rfl, r F' Ad' H' g m'⟩
      | _ => exact r.elim
    | exc x M1 => rw [q] at r; exact r
    | stuck => rw [q] at r; exact r⟩)⟩
/-- a, b = x, y -/
def bPar (i j : Nat) (fa fb : EF) : SF := fun env M => (fa env M).bindS env fun d M1 => (fb env M1).bindS env fun d2 M2 => match gAll [i, j] [d, d2] env with
  | some env1 => .next env1 M2
  | none => .stuck
theorem ss_par {i j : Nat} {x y : Str} {px py pt : Pos} {kt k2 pt2} (hc : X.calm = true) (hN : X.N.Nodup) (hi : X.N[i]? = some x) (hj : X.N[j]? = some y) (hij : i ≠ j)
    (hx : X.env.scope.names.lookup x = some .local) (hy : X.env.scope.names.lookup y = some .local) (ha : SE X W a fa) (hb : SE X W b fb)
    (hw : swappedStores [.Tuple [.Name x px, .Name y py] kt pt] (.Tuple [a, b] k2 pt2) X.env = pure (some [x, y]) := by rfl)
    (hs : swapsWithSole [.Tuple [.Name x px, .Name y py] kt pt] (.Tuple [a, b] k2 pt2) pos.line X.env = pure false := by rfl)
    (s1 : starEach [a, b] X.env = (false, eval a X.env) :: starEach [b] X.env := by rfl) (s2 : starEach [b] X.env = (false, eval b X.env) :: starEach [] X.env := by rfl) :
    SS X W DR (.Assign [.Tuple [.Name x px, .Name y py] kt pt] (.Tuple [a, b] k2 pt2) pos) (bPar i j fa fb) :=
  PS.imp (ps_par hc hN hi hj hij hx hy (pa_cons ha (pa_cons hb pa_nil s2) s1) hw hs) fun E σ H ⟨N0, F, Ad, M, env, ge0, m, en, r⟩ =>
    tE_of ge0 m en r fun d M1 v F1 Ad1 H1 g1 ge m1 en1 x1 r1 => tE_of ge m1 en1 r1 fun d2 M2 v2 F2 Ad2 H2 g2 ge2 m2 en2 x2 r2 => by
      refine ⟨v, v2, rfl, ?_⟩
      cases h : gAll [i, j] [d, d2] env with
      | none => rw [h] at r2; exact r2.elim
      | some env1 =>
        rw [h] at r2
        simp only [gAll, Option.bind_eq_some_iff] at h
        obtain ⟨e1, h1, e2, h2, h3⟩ := h
        cases h3
        exact r2 _ F2 Ad2 H2 ge2 (FLe.refl _) pre_refl m2 ((en2.set (x1.mono g2.fle g2.pre) h1).set x2 h2)
end
end MP

set_option maxRecDepth 100000
set_option maxHeartbeats 1000000
namespace MP
open PySem PySem.Spec PyProof.Rows L2
section
variable {X : Cx} {W : WX} {x : Str} {pos : Pos}
theorem vE (i : Nat) (hN : X.N[i]? = some x := by rfl) (hv : Vis X.env.scope x := by first | exact Or.inl rfl | exact Or.inr (Or.inl rfl) | exact Or.inr (Or.inr rfl)) (hd : (x == ("__debug__" : Str)) = false := by decide) (hcd : (x == ("__classdict__" : Str)) = false := by decide) : SE X W (.Name x pos) (eV i) := se_var hN hv hd hcd
theorem vB (i : Nat) (hN : X.N[i]? = some x := by rfl) (hv : Vis X.env.scope x := by first | exact Or.inl rfl | exact Or.inr (Or.inl rfl) | exact Or.inr (Or.inr rfl)) (hd : (x == ("__debug__" : Str)) = false := by decide) (hcd : (x == ("__classdict__" : Str)) = false := by decide) : SB X W (.Name x pos) (eVB i) := sb_var hN hv hd hcd
theorem pgN (i : Nat) (hN : X.N.Nodup) (hi : X.N[i]? = some x := by rfl) (hx : Loc X.env.scope x := by first | exact Or.inl rfl | exact Or.inr rfl) (hf : X.fn x = true ∨ X.env.scope.names.lookup x = some .local := by first | exact .inl rfl | exact .inr rfl) : PG X (.Name x pos) (gName i) := pg_name hN hi hx hf
end
theorem u1 {k : Nat} {A : Around} (r : Room k A) : A.units + 1 < cLine := by have := r.units; omega
def clsB : Stmt → List Stmt
  | .ClassDef (body := b) .. => b
  | _ => []
end MP

set_option maxRecDepth 100000
set_option maxHeartbeats 1000000
namespace MP
open PySem L2
/-! ### to compute with the data -/
theorem R.bind_congr {r r' : R} {k : D → List D → R} (h : r = r') : r.bind k = r'.bind k := by rw [h]
theorem R.bindL_congr {r r' : R} {k : D → List D → RL} (h : r = r') : r.bindL k = r'.bindL k := by rw [h]
theorem RL.bind_congr {r r' : RL} {k : List D → List D → R} (h : r = r') : r.bind k = r'.bind k := by rw [h]
theorem RL.bindL_congr {r r' : RL} {k : List D → List D → RL} (h : r = r') : r.bindL k = r'.bindL k := by rw [h]
theorem R.bindS_congr {r r' : R} {env : EnvM} {k : D → List D → RS} (h : r = r') : r.bindS env k = r'.bindS env k := by rw [h]
@[simp] theorem R.bind_stuck {k} : R.stuck.bind k = .stuck := rfl
def RS.seq (r : RS) (k : SF) : RS := match r with
  | .next env M => k env M
  | r => r
theorem RS.seq_congr {r r' : RS} {k : SF} (h : r = r') : r.seq k = r'.seq k := by rw [h]
@[simp] theorem RS.seq_next {env M k} : (RS.next env M).seq k = k env M := rfl
@[simp] theorem RS.seq_ret {d M k} : (RS.ret d M).seq k = .ret d M := rfl
@[simp] theorem RS.seq_cont {d M k} : (RS.cont d M).seq k = .cont d M := rfl
@[simp] theorem RS.seq_brk {d M k} : (RS.brk d M).seq k = .brk d M := rfl
@[simp] theorem RS.seq_stuck {k} : RS.stuck.seq k = .stuck := rfl
section
variable {f g fa fb fc fk fv a b c : EF} {l : LF} {env : EnvM} {M : List D} {p q : SF} {i j n : Nat} {d x y : D} {G : D → D → List D → R}
@[simp] theorem bSeq_eq : bSeq p q env M = (p env M).seq q := rfl
@[simp] theorem bNext_eq : bNext env M = .next env M := rfl
@[simp] theorem bPass_eq : bPass env M = .next env M := rfl
@[simp] theorem bBrk_eq : bBrk env M = .brk env M := rfl
@[simp] theorem bCont_eq : bCont env M = .cont env M := rfl
@[simp] theorem bRetN_eq : bRetN env M = .ret .non M := rfl
@[simp] theorem bRet_eq : bRet f env M = (f env M).bindS env fun d M1 => .ret d M1 := rfl
@[simp] theorem bExpr_eq : bExpr f env M = (f env M).bindS env fun _ M1 => .next env M1 := rfl
def setR (o : Option EnvM) (M : List D) : RS := match o with
  | some env1 => .next env1 M
  | none => .stuck
@[simp] theorem setR_some : setR (some env) M = .next env M := rfl
@[simp] theorem bSet_eq : bSet i f env M = (f env M).bindS env fun d M1 => setR (gN i d env) M1 := rfl
@[simp] theorem bSetT_eq {js} : bSetT js f env M = (f env M).bindS env fun d M1 => setR (gT js d env) M1 := rfl
@[simp] theorem bOwn_eq : bOwn i f env M = (f env M).bindS env fun d M1 => setR (oN i d env) M1 := rfl
@[simp] theorem bPar_eq : bPar i j fa fb env M = (fa env M).bindS env fun d M1 => (fb env M1).bindS env fun d2 M2 => setR (gAll [i, j] [d, d2] env) M2 := rfl
def gNb (o : Option B) (env : EnvM) (i : Nat) (b : B) : Option EnvM := match o with
  | some (.slf _) => none
  | some _ => some (env.set i b)
  | none => none
@[simp] theorem gNb_no {b} : gNb (some .no) env i b = some (env.set i b) := rfl
@[simp] theorem gNb_shr {b} : gNb (some (.shr d)) env i b = some (env.set i b) := rfl
@[simp] theorem gNb_own {b} : gNb (some (.own d)) env i b = some (env.set i b) := rfl
def B.free (b : B) : Prop := match b with | .slf _ => False | _ => True
@[simp] theorem gNb_free {b c : B} (h : c.free) : gNb (some c) env i b = some (env.set i b) := by
  cases c <;> first | rfl | exact h.elim
@[simp] theorem free_no : B.free .no := trivial
@[simp] theorem free_shr : B.free (.shr d) := trivial
@[simp] theorem free_own : B.free (.own d) := trivial
@[simp] theorem gN_eq : gN i d env = gNb env[i]? env i (.shr d) := by unfold gN gNb; split <;> simp_all
@[simp] theorem oN_eq : oN i d env = gNb env[i]? env i (.own d) := by unfold oN gNb; split <;> simp_all
@[simp] theorem gAll_nil : gAll [] [] env = some env := rfl
@[simp] theorem gAll_cons {js ds} : gAll (j :: js) (d :: ds) env = (gN j d env).bind (gAll js ds) := rfl
@[simp] theorem gT_tup {js ds} : gT js (.tup ds) env = gAll js ds env := rfl
def iteS (d : D) (r s : RS) : RS := match d with
  | .bl true => r
  | .bl false => s
  | _ => .stuck
theorem iteS_congr {d d' : D} {r s : RS} (h : d = d') : iteS d r s = iteS d' r s := by rw [h]
@[simp] theorem iteS_bl {b : Bool} {r s} : iteS (.bl b) r s = if b = true then r else s := by cases b <;> rfl
theorem bindS_fun {k k' : D → List D → RS} (h : ∀ d M, k d M = k' d M) {r : R} : r.bindS env k = r.bindS env k' := by
  have : k = k' := by funext d M; exact h d M
  rw [this]
@[simp] theorem bIf_eq : bIf f p q env M = (f env M).bindS env fun d M1 => iteS d (p env M1) (q env M1) := by
  unfold bIf
  exact bindS_fun fun d M1 => by cases d <;> first | rfl | (rename_i b; cases b <;> rfl)
def iteR (d : D) (r s : R) : R := match d with
  | .bl true => r
  | .bl false => s
  | _ => .stuck
theorem iteR_congr {d d' : D} {r s : R} (h : d = d') : iteR d r s = iteR d' r s := by rw [h]
@[simp] theorem iteR_bl {b : Bool} {r s} : iteR (.bl b) r s = if b = true then r else s := by cases b <;> rfl
theorem iteR_fun {k k' : D → List D → R} (h : ∀ d M, k d M = k' d M) {r : R} : r.bind k = r.bind k' := by
  have : k = k' := by funext d M; exact h d M
  rw [this]
@[simp] theorem eIf_eq : eIf c a b env M = (c env M).bind fun x M1 => iteR x (a env M1) (b env M1) := by
  unfold eIf
  exact iteR_fun fun d M1 => by cases d <;> first | rfl | (rename_i b; cases b <;> rfl)
@[simp] theorem eAnd_eq : eAnd a b env M = (a env M).bind fun x M1 => iteR x (b env M1) (.ok (.bl false) M1) := by
  unfold eAnd
  exact iteR_fun fun d M1 => by cases d <;> first | rfl | (rename_i b; cases b <;> rfl)
@[simp] theorem eOr_eq : eOr a b env M = (a env M).bind fun x M1 => iteR x (.ok (.bl true) M1) (b env M1) := by
  unfold eOr
  exact iteR_fun fun d M1 => by cases d <;> first | rfl | (rename_i b; cases b <;> rfl)
def notR (d : D) (M : List D) : R := match d with | .bl c => .ok (.bl !c) M | _ => .stuck
@[simp] theorem notR_bl {b : Bool} : notR (.bl b) M = .ok (.bl !b) M := rfl
@[simp] theorem eNot_eq : eNot a env M = (a env M).bind notR := by
  unfold eNot
  exact iteR_fun fun d M1 => by cases d <;> rfl
@[simp] theorem eChain_eq {G G'} : eChain G G' a b c env M = (a env M).bind fun x M1 => (b env M1).bind fun y M2 => (G x y M2).bind fun r M3 => iteR r ((c env M3).bind fun z M4 => G' y z M4) (.ok (.bl false) M3) := by
  unfold eChain
  refine iteR_fun fun x M1 => iteR_fun fun y M2 => iteR_fun fun r M3 => ?_
  cases r <;> first | rfl | (rename_i b; cases b <;> rfl)
@[simp] theorem eC_eq : eC d env M = .ok d M := rfl
@[simp] theorem eNew_eq : eNew d env M = .ok d M := rfl
@[simp] theorem e2_eq : e2 G a b env M = (a env M).bind fun x M1 => (b env M1).bind fun y M2 => G x y M2 := rfl
@[simp] theorem e1_eq {g : D → List D → R} : e1 g a env M = (a env M).bind g := rfl
def getE (o : Option B) (M : List D) : R := match o with | some (.shr d) => .ok d M | _ => .stuck
def getB (o : Option B) (M : List D) : R := match o with | some (.shr d) => .ok d M | some (.own d) => .ok d M | some (.slf d) => .ok d M | _ => .stuck
@[simp] theorem getE_shr : getE (some (.shr d)) M = .ok d M := rfl
@[simp] theorem getB_shr : getB (some (.shr d)) M = .ok d M := rfl
@[simp] theorem getB_own : getB (some (.own d)) M = .ok d M := rfl
@[simp] theorem getB_slf : getB (some (.slf d)) M = .ok d M := rfl
@[simp] theorem eV_eq : eV i env M = getE env[i]? M := by unfold eV getE; split <;> simp_all
@[simp] theorem eVB_eq : eVB i env M = getB env[i]? M := by unfold eVB getB; split <;> simp_all
@[simp] theorem lNil_eq : lNil env M = .ok [] M := rfl
@[simp] theorem lCons_eq : lCons a l env M = (a env M).bindL fun x M1 => (l env M1).bindL fun xs M2 => .ok (x :: xs) M2 := rfl
@[simp] theorem eCall_eq {g} : eCall g l env M = (l env M).bind g := rfl
def lenR (f : List D → D) (xs : List D) (M : List D) : R := if xs.length ≤ sizeLine then .ok (f xs) M else .stuck
@[simp] theorem lenR_le {f xs} (h : xs.length ≤ sizeLine) : lenR f xs M = .ok (f xs) M := by unfold lenR; rw [if_pos h]
@[simp] theorem lenR0 {f} : lenR f [] M = .ok (f []) M := lenR_le (Nat.zero_le _)
@[simp] theorem lenR1 {f a1} : lenR f [a1] M = .ok (f [a1]) M := lenR_le (show 1 ≤ sizeLine by decide)
@[simp] theorem lenR2 {f a1 a2} : lenR f [a1, a2] M = .ok (f [a1, a2]) M := lenR_le (show 2 ≤ sizeLine by decide)
@[simp] theorem lenR3 {f a1 a2 a3} : lenR f [a1, a2, a3] M = .ok (f [a1, a2, a3]) M := lenR_le (show 3 ≤ sizeLine by decide)
@[simp] theorem lenR4 {f a1 a2 a3 a4} : lenR f [a1, a2, a3, a4] M = .ok (f [a1, a2, a3, a4]) M := lenR_le (show 4 ≤ sizeLine by decide)
@[simp] theorem eTup_eq : eTup l env M = (l env M).bind (lenR .tup) := rfl
@[simp] theorem eLst_eq : eLst l env M = (l env M).bind (lenR .lst) := rfl
@[simp] theorem eCell_eq : eCell f env M = (f env M).bind fun d M1 => .ok (.cel M1.length) (M1 ++ [d]) := rfl
@[simp] theorem apC_eq {c n dd xs} : apC c n dd xs M = if (xs ++ dd).length = n then c (xs ++ dd) M else .stuck := rfl
/-! operations -/
@[simp] theorem oAdd_int {i j : Int} : oAdd (.int i) (.int j) M = .ok (.int (i + j)) M := rfl
@[simp] theorem oSub_int {i j : Int} : oSub (.int i) (.int j) M = .ok (.int (i - j)) M := rfl
@[simp] theorem oMul_int {i j : Int} : oMul (.int i) (.int j) M = if CMulB i j then .ok (.int (i * j)) M else .stuck := rfl
@[simp] theorem oDiv_int {i j : Int} : oDiv (.int i) (.int j) M = if CDivW i j then .ok (.int (i / j)) M else .stuck := rfl
@[simp] theorem oMod_int {i j : Int} : oMod (.int i) (.int j) M = if 0 < j then .ok (.int (i % j)) M else .stuck := rfl
@[simp] theorem oPow_int {i j : Int} : oPow (.int i) (.int j) M = if CPow i j then .ok (.int (i ^ j.toNat)) M else .stuck := rfl
@[simp] theorem oNeg_int {i : Int} : oNeg (.int i) M = .ok (.int (-i)) M := rfl
@[simp] theorem oLt_int {i j : Int} : oLt (.int i) (.int j) M = .ok (.bl (decide (i < j))) M := rfl
@[simp] theorem oLe_int {i j : Int} : oLe (.int i) (.int j) M = .ok (.bl (decide (i ≤ j))) M := rfl
@[simp] theorem oGt_int {i j : Int} : oGt (.int i) (.int j) M = .ok (.bl (decide (j < i))) M := rfl
@[simp] theorem oGe_int {i j : Int} : oGe (.int i) (.int j) M = .ok (.bl (decide (j ≤ i))) M := rfl
@[simp] theorem oEq_int {i j : Int} : oEq (.int i) (.int j) M = .ok (.bl (i == j)) M := rfl
@[simp] theorem oNe_int {i j : Int} : oNe (.int i) (.int j) M = .ok (.bl (!(i == j))) M := rfl
@[simp] theorem oIs_non : oIs x .non M = .ok (.bl x.isN) M := rfl
@[simp] theorem oIsnt_non : oIsnt x .non M = .ok (.bl !x.isN) M := rfl
@[simp] theorem isN_int {i : Int} : (D.int i).isN = false := rfl
@[simp] theorem isN_non : D.non.isN = true := rfl
@[simp] theorem isN_tup {xs} : (D.tup xs).isN = false := rfl
def ixR (o : Option D) (M : List D) : R := match o with | some d => .ok d M | none => .stuck
@[simp] theorem ixR_some : ixR (some d) M = .ok d M := rfl
@[simp] theorem oIx_lst {xs} {i : Int} : oIx (.lst xs) (.int i) M = ixR (atI xs i) M := by
  unfold oIx view ixR; rfl
@[simp] theorem oIx_tup {xs} {i : Int} : oIx (.tup xs) (.int i) M = ixR (atI xs i) M := by
  unfold oIx view ixR; rfl
@[simp] theorem oIx_ktp {xs} {i : Int} : oIx (.ktp xs) (.int i) M = ixR (atI xs i) M := by
  unfold oIx view ixR; rfl
@[simp] theorem oIx_dKi {kvs} {i : Int} : oIx (.dK kvs) (.int i) M = ixR (valK kvs (.inl i)) M := by
  unfold oIx view ixR keyD; rfl
@[simp] theorem oIx_dKs {kvs} {z : Str} : oIx (.dK kvs) (.str z) M = ixR (valK kvs (.inr z)) M := by
  unfold oIx view ixR keyD; rfl
theorem oIx_scr {ns : List Int} {i v : Int} (h : atI ns i = some v) : oIx (.scr ns) (.int i) M = .ok (.int v) M := by
  show (match atI ns i with | some d => R.ok (D.int d) M | none => R.stuck) = _
  rw [h]
theorem oIx_celL {xs} {i : Int} (h : M[n]? = some (.lst xs)) : oIx (.cel n) (.int i) M = ixR (atI xs i) M := by
  have e : view M (.cel n) = .lst xs := by show (M[n]?).getD (.cel n) = _; rw [h]; rfl
  unfold oIx; rw [e]; rfl
@[simp] theorem bInt_int {i : Int} : bInt [.int i] M = .ok (.int i) M := rfl
@[simp] theorem bAbs_int {i : Int} : bAbs [.int i] M = .ok (.int (if i < 0 then -i else i)) M := rfl
@[simp] theorem bMax_int {i j : Int} : bMax [.int i, .int j] M = .ok (.int (mx2 i j)) M := rfl
@[simp] theorem bMin_int {i j : Int} : bMin [.int i, .int j] M = .ok (.int (mn2 i j)) M := rfl
@[simp] theorem bLen_lst {xs} : bLen [.lst xs] M = .ok (.int xs.length) M := rfl
@[simp] theorem bLen_tup {xs} : bLen [.tup xs] M = .ok (.int xs.length) M := rfl
@[simp] theorem bLen_ktp {xs} : bLen [.ktp xs] M = .ok (.int xs.length) M := rfl
@[simp] theorem bLen_scr {xs : List Int} : bLen [.scr xs] M = .ok (.int xs.length) M := rfl
@[simp] theorem bTup_lst {xs} : bTup [.lst xs] M = .ok (.tup xs) M := rfl
@[simp] theorem bTup_tup {xs} : bTup [.tup xs] M = .ok (.tup xs) M := rfl
/-! stores -/
@[simp] theorem store_own {u d d'} (h : env[i]? = some (.own d)) (hu : u d = some d') : store i u env M = .next (env.set i (.own d')) M := by
  unfold store; rw [h]; dsimp only; rw [hu]
theorem store_cel {u d d'} (h : env[i]? = some (.shr (.cel n))) (hm : M[n]? = some d) (hu : u d = some d') : store i u env M = .next env (M.set n d') := by
  unfold store; rw [h]; dsimp only; rw [hm]; dsimp only; rw [hu]
theorem store_slf {u d d'} (h : env[i]? = some (.slf d)) (hu : u d = some d') : store i u env M = .next (env.set i (.slf d')) M := by
  unfold store; rw [h]; dsimp only; rw [hu]
def guS (b : Bool) (r : RS) : RS := if b = true then r else .stuck
theorem guS_congr {b b' : Bool} {r : RS} (h : b = b') : guS b r = guS b' r := by rw [h]
@[simp] theorem guS_true {r} : guS true r = r := rfl
@[simp] theorem bSub_eq : bSub i fk fv env M = (fv env M).bindS env fun dv M1 => guS (has i env) ((fk env M1).bindS env fun dk M2 => store i (stSub dk dv) env M2) := rfl
@[simp] theorem bApp_eq : bApp i fv env M = guS (isLst (cont i env M)) ((fv env M).bindS env fun dv M1 => store i (stApp dv) env M1) := rfl
@[simp] theorem bFld_eq {c g} : bFld i c g fv env M = (fv env M).bindS env fun dv M1 => store i (stFld c g dv) env M1 := rfl
theorem stApp_ok {xs : List D} (h : xs.length < 1000000) : stApp d (.lst xs) = some (.lst (xs ++ [d])) := by
  show (if xs.length < sizeLine then some (D.lst (xs ++ [d])) else none) = _
  rw [if_pos (Nat.lt_trans h (by decide))]
theorem has_shr (h : env[i]? = some (.shr d)) : has i env = true := by unfold has; rw [h]
theorem has_own (h : env[i]? = some (.own d)) : has i env = true := by unfold has; rw [h]
theorem isLst_own {xs} (h : env[i]? = some (.own (.lst xs))) : isLst (cont i env M) = true := by unfold cont; rw [h]; rfl
theorem bShare_own (h : env[i]? = some (.own d)) : bShare i env M = .next (env.set i (.shr d)) M := by unfold bShare; rw [h]
/-! loops -/
def forR (gd : D → EnvM → Option EnvM) (b : SF) (env : EnvM) (r : RL) : RS := match r with
  | .ok ds M1 => forL gd b ds env M1
  | .exc x M1 => .exc x env M1
  | .stuck => .stuck
@[simp] theorem forR_ok {gd b ds} : forR gd b env (.ok ds M) = forL gd b ds env M := rfl
@[simp] theorem bFor_eq {gd b} : bFor l gd b env M = forR gd b env (l env M) := by unfold bFor forR; split <;> simp_all
@[simp] theorem forL_nil {gd b} : forL gd b [] env M = .next env M := rfl
def forK (gd : D → EnvM → Option EnvM) (b : SF) (ds : List D) (r : RS) : RS := match r with
  | .next env2 M2 => forL gd b ds env2 M2
  | .cont env2 M2 => forL gd b ds env2 M2
  | .brk env2 M2 => .next env2 M2
  | r => r
@[simp] theorem forK_next {gd b ds} : forK gd b ds (.next env M) = forL gd b ds env M := rfl
@[simp] theorem forK_ret {gd b ds} : forK gd b ds (.ret d M) = .ret d M := rfl
theorem forL_cons {gd b d ds env1} (h : gd d env = some env1) : forL gd b (d :: ds) env M = forK gd b ds (b env1 M) := by
  show (match gd d env with | none => RS.stuck | some env1 => _) = _
  rw [h]
  show (match b env1 M with | .next env2 M2 => forL gd b ds env2 M2 | .cont env2 M2 => forL gd b ds env2 M2 | .brk env2 M2 => .next env2 M2 | r => r) = _
  unfold forK; split <;> simp_all
/-- a loop by its invariant -/
theorem forL_inv {gd : D → EnvM → Option EnvM} {b : SF} {ds : List D} (I : Nat → EnvM → List D → Prop) (hs : ∀ i d env M, ds[i]? = some d → I i env M → ∃ env1, gd d env = some env1 ∧ ∃ env2 M2, b env1 M = .next env2 M2 ∧ I (i + 1) env2 M2) {env : EnvM} {M : List D} (h0 : I 0 env M) :
    ∃ env2 M2, forL gd b ds env M = .next env2 M2 ∧ I ds.length env2 M2 := by
  have key : ∀ (k i : Nat) (env : EnvM) (M : List D), i + k = ds.length → I i env M → ∃ env2 M2, forL gd b (ds.drop i) env M = .next env2 M2 ∧ I ds.length env2 M2 := by
    intro k
    induction k with
    | zero => intro i env M hk h; have : i = ds.length := by omega
              subst this; exact ⟨env, M, by rw [List.drop_length]; rfl, h⟩
    | succ k ih =>
      intro i env M hk h
      have hlt : i < ds.length := by omega
      obtain ⟨env1, h1, env2, M2, h2, h3⟩ := hs i ds[i] env M (List.getElem?_eq_getElem hlt) h
      obtain ⟨env3, M3, h4, h5⟩ := ih (i + 1) env2 M2 (by omega) h3
      refine ⟨env3, M3, ?_, h5⟩
      rw [List.drop_eq_getElem_cons hlt, forL_cons h1, h2]
      exact h4
  simpa using key ds.length 0 env M (by omega) h0
/-- a comprehension by its invariant -/
theorem comp_inv {gd : D → EnvM → Option EnvM} {ft fe : EF} {env0 : EnvM} {ds : List D} (I : Nat → List D → List D → Prop) (hs : ∀ i d acc M, ds[i]? = some d → I i acc M → ∃ env1, gd d env0 = some env1 ∧
      ((∃ M1 y M2, ft env1 M = .ok (.bl true) M1 ∧ fe env1 M1 = .ok y M2 ∧ acc.length < sizeLine ∧ I (i + 1) (acc ++ [y]) M2) ∨ (∃ M1, ft env1 M = .ok (.bl false) M1 ∧ I (i + 1) acc M1))) {M : List D} (h0 : I 0 [] M) :
    ∃ acc M2, compL gd ft fe env0 ds [] M = .ok (.lst acc) M2 ∧ I ds.length acc M2 := by
  have key : ∀ (k i : Nat) (acc M : List D), i + k = ds.length → I i acc M → ∃ acc2 M2, compL gd ft fe env0 (ds.drop i) acc M = .ok (.lst acc2) M2 ∧ I ds.length acc2 M2 := by
    intro k
    induction k with
    | zero => intro i acc M hk h; have : i = ds.length := by omega
              subst this; exact ⟨acc, M, by rw [List.drop_length]; rfl, h⟩
    | succ k ih =>
      intro i acc M hk h
      have hlt : i < ds.length := by omega
      obtain ⟨env1, h1, h2⟩ := hs i ds[i] acc M (List.getElem?_eq_getElem hlt) h
      rw [List.drop_eq_getElem_cons hlt]
      rcases h2 with ⟨M1, y, M2, h2, h3, h4, h5⟩ | ⟨M1, h2, h3⟩
      · obtain ⟨acc2, M3, g1, g2⟩ := ih (i + 1) (acc ++ [y]) M2 (by omega) h5
        exact ⟨acc2, M3, by unfold compL; rw [h1]; dsimp only; rw [h2]; dsimp only; rw [h3]; dsimp only; rw [if_pos h4]; exact g1, g2⟩
      · obtain ⟨acc2, M3, g1, g2⟩ := ih (i + 1) acc M1 (by omega) h3
        exact ⟨acc2, M3, by unfold compL; rw [h1]; dsimp only; rw [h2]; dsimp only; exact g1, g2⟩
  simpa using key ds.length 0 [] M (by omega) h0
@[simp] theorem eComp_eq {gd ft fe vs} : eComp l gd ft fe vs env M = (l env M).bind fun ds M1 => compL gd ft fe (wipeE env vs) ds [] M1 := rfl
@[simp] theorem wipeE_nil : wipeE env [] = env := rfl
@[simp] theorem wipeE_cons {v vs} : wipeE env (v :: vs) = (wipeE env vs).set v .no := rfl
def seqL (d : D) (M : List D) : RL := match d with
  | .lst xs => .ok xs M
  | .tup xs => .ok xs M
  | .ktp xs => .ok xs M
  | .scr ns => .ok (ns.map .int) M
  | _ => .stuck
@[simp] theorem seqL_lst {xs} : seqL (.lst xs) M = .ok xs M := rfl
@[simp] theorem seqL_tup {xs} : seqL (.tup xs) M = .ok xs M := rfl
@[simp] theorem seqL_ktp {xs} : seqL (.ktp xs) M = .ok xs M := rfl
@[simp] theorem seqL_scr {xs} : seqL (.scr xs) M = .ok (xs.map .int) M := rfl
@[simp] theorem iSeq_eq : iSeq f env M = (f env M).bindL seqL := rfl
def enuL (d : D) (M : List D) : RL := match d with
  | .lst xs => .ok (enumD xs) M
  | .tup xs => .ok (enumD xs) M
  | .ktp xs => .ok (enumD xs) M
  | _ => .stuck
@[simp] theorem enuL_lst {xs} : enuL (.lst xs) M = .ok (enumD xs) M := rfl
@[simp] theorem enuL_tup {xs} : enuL (.tup xs) M = .ok (enumD xs) M := rfl
@[simp] theorem iEnu_eq : iEnu f env M = (f env M).bindL enuL := rfl
def rngL1 (d : D) (M : List D) : RL := match d with
  | .int j => if inR j then .ok (rngD 0 j.toNat) M else .stuck
  | _ => .stuck
@[simp] theorem rngL1_int {j : Int} (h : inR j) : rngL1 (.int j) M = .ok (rngD 0 j.toNat) M := by unfold rngL1; dsimp only; rw [if_pos h]
@[simp] theorem iRng1_eq : iRng1 f env M = (f env M).bindL rngL1 := by cases M <;> rfl
def rngL2 (d d2 : D) (M : List D) : RL := match d, d2 with
  | .int i, .int j => if inR i ∧ inR j then .ok (rngD i (j - i).toNat) M else .stuck
  | _, _ => .stuck
@[simp] theorem rngL2_int {i j : Int} (h : inR i) (h2 : inR j) : rngL2 (.int i) (.int j) M = .ok (rngD i (j - i).toNat) M := by unfold rngL2; dsimp only; rw [if_pos ⟨h, h2⟩]
@[simp] theorem iRng2_eq : iRng2 f g env M = (f env M).bindL fun d M1 => (g env M1).bindL fun d2 M2 => rngL2 d d2 M2 := by cases M <;> rfl
theorem rngD_get {lo : Int} {n i : Nat} (h : i < n) : (rngD lo n)[i]? = some (.int (lo + (i : Nat))) := by simp [rngD, h]
@[simp] theorem rngD_len {lo : Int} {n : Nat} : (rngD lo n).length = n := by simp [rngD]
theorem rngD_of {lo : Int} {n i : Nat} {d : D} (h : (rngD lo n)[i]? = some d) : i < n ∧ d = .int (lo + (i : Nat)) := by
  have hi : i < n := by
    have := (List.getElem?_eq_some_iff.mp h).1
    simpa using this
  rw [rngD_get hi] at h
  exact ⟨hi, (Option.some.inj h).symm⟩
/-! methods, fields, isinstance -/
def methR (cn m : Str) (d : D) (r : R) : R := match d with
  | .ins c' fs => if c' = cn ∧ fs.lookup m = none then r else .stuck
  | _ => .stuck
theorem methR_congr {cn m : Str} {d d' : D} {r : R} (h : d = d') : methR cn m d r = methR cn m d' r := by rw [h]
theorem methR_ins {cn m : Str} {fs} {r : R} (h : fs.lookup m = none) : methR cn m (.ins cn fs) r = r := by unfold methR; dsimp only; rw [if_pos ⟨rfl, h⟩]
@[simp] theorem eMeth_eq {cn m c n dd} : eMeth cn m c n dd f l env M = (f env M).bind fun x M1 => methR cn m (view M1 x) ((l env M1).bind fun xs M2 => apC c n dd (x :: xs) M2) := by
  unfold eMeth
  refine iteR_fun fun x M1 => ?_
  unfold methR; split <;> simp_all
@[simp] theorem view_ins {c fs} : view M (.ins c fs) = .ins c fs := rfl
theorem view_cel (h : M[n]? = some d) : view M (.cel n) = d := by show (M[n]?).getD _ = _; rw [h]; rfl
theorem fldR_ins {c g fs} (h : List.lookup g fs = some d) : fldR c g (.ins c fs) M = .ok d M := by
  unfold fldR; rw [view_ins]; dsimp only; rw [if_pos rfl, h]
theorem propR_ins {cn c fs d M1} (h : c [.ins cn fs] M = .ok d M1) : propR cn c (.ins cn fs) M = .ok d M1 := by
  unfold propR; rw [view_ins]; dsimp only; rw [if_pos rfl]
  unfold apC noX
  simp [h]
@[simp] theorem oIsi_int {k : D → Option Bool} {i : Int} : oIsi k (.int i) M = (match k (.int i) with | some b => .ok (.bl b) M | none => .stuck) := rfl
@[simp] theorem oIsi_non {k : D → Option Bool} : oIsi k .non M = (match k .non with | some b => .ok (.bl b) M | none => .stuck) := rfl
@[simp] theorem oIsi_tup {k : D → Option Bool} {xs} : oIsi k (.tup xs) M = (match k (.tup xs) with | some b => .ok (.bl b) M | none => .stuck) := rfl
@[simp] theorem endE_ret : endE (.ret d M) = .ok d M := rfl
@[simp] theorem endE_next : endE (.next env M) = .ok .non M := rfl
end
theorem inR_of {i : Int} (h1 : -1000000000 ≤ i) (h2 : i ≤ 1000000000) : inR i := Nat.div_eq_of_lt (by omega)
theorem cmul_r {i j : Int} (h : -1000000000000000000 ≤ j ∧ j ≤ 1000000000000000000) : CMulB i j := .inr (Nat.div_eq_of_lt (by omega))
theorem cmul_l {i j : Int} (h : -1000000000000000000 ≤ i ∧ i ≤ 1000000000000000000) : CMulB i j := .inl (Nat.div_eq_of_lt (by omega))
theorem cdiv_s {i j : Int} (h : 0 < j) (h2 : j < 2 ^ 200) : CDivW i j := by
  refine ⟨h, ?_⟩
  have e : j.natAbs < 2 ^ 200 := by omega
  by_cases z : j.natAbs = 0
  · rw [z]; decide
  · have := (Nat.log2_lt z).mpr e
    omega
theorem ixN_nat {n i : Nat} (h : i < n) : ixN n (i : Int) = some i := by
  unfold ixN
  rw [if_pos (by omega), if_pos (by omega)]; simp
theorem ints_map : ∀ ns : List Int, intsOf (ns.map D.int) = some ns
  | [] => rfl
  | n :: ns => by simp [intsOf, ints_map ns]
theorem bMin_ints {ns : List Int} {M : List D} (h : ns ≠ []) : bMin [.lst (ns.map D.int)] M = .ok (.int (mnL ns)) M := by
  show (match intsOf (ns.map D.int) with | some (i :: r) => R.ok (D.int (mnL (i :: r))) M | _ => .stuck) = _
  rw [ints_map]
  cases ns with
  | nil => exact absurd rfl h
  | cons i r => rfl
theorem bMax_ints {ns : List Int} {M : List D} (h : ns ≠ []) : bMax [.lst (ns.map D.int)] M = .ok (.int (mxL ns)) M := by
  show (match intsOf (ns.map D.int) with | some (i :: r) => R.ok (D.int (mxL (i :: r))) M | _ => .stuck) = _
  rw [ints_map]
  cases ns with
  | nil => exact absurd rfl h
  | cons i r => rfl
theorem bools_map : ∀ ns : List Bool, boolsOf (ns.map D.bl) = some ns
  | [] => rfl
  | n :: ns => by simp [boolsOf, bools_map ns]
theorem bAll_bools {ns : List Bool} {M : List D} : bAll [.lst (ns.map D.bl)] M = .ok (.bl (ns.all id)) M := by
  show (match boolsOf (ns.map D.bl) with | some bs => R.ok (D.bl (bs.all id)) M | _ => .stuck) = _
  rw [bools_map]
theorem pdL_ints : ∀ ns : List Int, D.pdL (ns.map D.int) = some (ns.map PyData.int)
  | [] => rfl
  | a :: r => by simp [D.pdL, D.pd, pdL_ints r]
theorem lay_ints : ∀ ns : List Int, PyData.canLayAll0 (ns.map PyData.int) = true ∧ PyData.depthAll (ns.map PyData.int) = 0
  | [] => ⟨rfl, rfl⟩
  | a :: r => by simp [PyData.canLayAll0, PyData.canLay0, PyData.depthAll, PyData.depth, lay_ints r]
theorem shaped_ints (ns : List Int) : SeqAt.shaped (.list (ns.map PyData.int)) = true := by
  simp [SeqAt.shaped, PyData.canLay0, PyData.depth, lay_ints]
theorem eqD_nil {ns : List Int} : eqD (.lst (ns.map D.int)) (.lst []) = some ns.isEmpty := by
  have e2 : D.pd (.lst (ns.map D.int)) = some (.list (ns.map PyData.int)) := by simp [D.pd, pdL_ints]
  have e3 : D.pd (.lst []) = some (.list []) := rfl
  have e4 : SeqAt.shaped (.list []) = true := shaped_ints []
  show (match eqP (.lst (ns.map D.int)) (.lst []) with | b => b) = _
  unfold eqP
  rw [e2, e3]
  dsimp only
  rw [if_pos ⟨shaped_ints ns, e4⟩]
  cases ns <;> rfl
theorem oNe_nil {ns : List Int} {M : List D} : oNe (.lst (ns.map D.int)) (.lst []) M = .ok (.bl (!ns.isEmpty)) M := by
  show (match eqD (.lst (ns.map D.int)) (.lst []) with | some b => R.ok (.bl !b) M | none => .stuck) = _
  rw [eqD_nil]
theorem oNe_nil0 {M : List D} : oNe (.lst []) (.lst []) M = .ok (.bl false) M := oNe_nil (ns := [])
theorem oEq_nil {ns : List Int} {M : List D} : oEq (.lst (ns.map D.int)) (.lst []) M = .ok (.bl ns.isEmpty) M := by
  show (match eqD (.lst (ns.map D.int)) (.lst []) with | some b => R.ok (.bl b) M | none => .stuck) = _
  rw [eqD_nil]
end MP

set_option maxRecDepth 100000
set_option maxHeartbeats 1000000
namespace K26
open MP
open PySem PySem.Spec PyProof.Rows L2
def N__law_dip : List Str := [("_law_jar_here" : Str), ("_law_many" : Str), ("_law_digit" : Str), ("_law_seed" : Str)]
def b__law_dip : SF := (bSeq (bSub 0 (eC (.int 2)) (e2 oAdd (e2 oIx (eVB 0) (eC (.int 2))) (eC (.int 1)))) (bSeq (bIf (e2 oGt (e2 oIx (eVB 0) (eC (.int 0))) (eC (.int 0))) (bSeq (bSet 2 (e2 oMod (eCall bInt (lCons (e2 oIx (eVB 0) (eC (.int 0))) lNil)) (eVB 1))) (bSeq (bSub 0 (eC (.int 0)) (e2 oDiv (eCall bInt (lCons (e2 oIx (eVB 0) (eC (.int 0))) lNil)) (eVB 1))) (bRet (eV 2)))) bNext) (bSeq (bSet 3 (eCall bInt (lCons (e2 oIx (eVB 0) (eC (.int 1))) lNil))) (bSeq (bSub 0 (eC (.int 1)) (e2 oMod (eCall bInt (lCons (e2 oAdd (e2 oAdd (e2 oMul (eVB 3) (eC (.int 48271))) (e2 oMul (e2 oIx (eVB 0) (eC (.int 2))) (eC (.int 40503)))) (eC (.int 17))) lNil)) (eC (.int 2147483629)))) (bRet (e2 oMod (eCall bInt (lCons (e2 oDiv (e2 oIx (eVB 0) (eC (.int 1))) (eC (.int 4096))) lNil)) (eVB 1)))))))
def c__law_dip (ds M : List D) : R := endE (b__law_dip (env0 N__law_dip.length ds) M)
def N__law_steps : List Str := [("_law_jar_here" : Str), ("_law_most" : Str), ("_law_many" : Str), ("_law_found" : Str), ("_law_k" : Str), ("_law_cost" : Str)]
def b__law_steps_1 : EF := (eIf (e2 oEq (eCall (apC c__law_dip 2 []) (lCons (eV 0) (lCons (eC (.int 4)) lNil))) (eC (.int 0))) (eC .non) (eCall (apC c__law_dip 2 []) (lCons (eV 0) (lCons (e2 oAdd (eVB 1) (eC (.int 1))) lNil))))
def b__law_steps_2 : SF := (bSub 3 (eV 4) (eIf (e2 oIs (e2 oIx (eVB 3) (eVB 4)) (eC .non)) (eC .non) (e2 oAdd (e2 oIx (eVB 3) (eVB 4)) (e2 oDiv (e2 oMul (eVB 1) (e2 oAdd (eVB 4) (eC (.int 1)))) (eC (.int 3))))))
def b__law_steps_3 : EF := (eV 5)
def b__law_steps_4 : EF := (e2 oIsnt (eVB 5) (eC .non))
def b__law_steps : SF := (bSeq (bSet 2 (e2 oAdd (eC (.int 1)) (eCall (apC c__law_dip 2 []) (lCons (eV 0) (lCons (eC (.int 12)) lNil))))) (bSeq (bOwn 3 (eComp (iRng1 (eV 2)) (gN 4) (eC (.bl true)) b__law_steps_1 [4])) (bSeq (bIf (e2 oEq (eCall (apC c__law_dip 2 []) (lCons (eV 0) (lCons (eC (.int 2)) lNil))) (eC (.int 0))) (bFor (iRng1 (eV 2)) (gN 4) b__law_steps_2) bNext) (bSeq (bIf (e2 oEq (eComp (iSeq (eVB 3)) (gN 5) b__law_steps_4 b__law_steps_3 [5]) (eLst lNil)) (bSub 3 (eCall (apC c__law_dip 2 []) (lCons (eV 0) (lCons (eV 2) lNil))) (eCall (apC c__law_dip 2 []) (lCons (eV 0) (lCons (e2 oAdd (eVB 1) (eC (.int 1))) lNil)))) bNext) (bRet (eCall bTup (lCons (eVB 3) lNil)))))))
def c__law_steps (ds M : List D) : R := endE (b__law_steps (env0 N__law_steps.length ds) M)
def N__law_pick : List Str := [("_law_jar_here" : Str), ("_law_menu" : Str), ("_law_at" : Str)]
def b__law_pick : SF := (bSeq (bSet 2 (eCall (apC c__law_dip 2 []) (lCons (eV 0) (lCons (eCall bLen (lCons (eVB 1) lNil)) lNil)))) (bRet (e2 oIx (eVB 1) (eVB 2))))
def c__law_pick (ds M : List D) : R := endE (b__law_pick (env0 N__law_pick.length ds) M)
def N_is_integer : List Str := [("value" : Str)]
def b_is_integer : SF := (bRet (eAnd (e1 (oIsi (isT "int" [])) (eVB 0)) (eNot (e1 (oIsi (isT "bool" [])) (eVB 0)))))
def c_is_integer (ds M : List D) : R := endE (b_is_integer (env0 N_is_integer.length ds) M)
def N_is_within : List Str := [("value" : Str), ("low" : Str), ("high" : Str)]
def b_is_within : SF := (bRet (eAnd (eCall (apC c_is_integer 1 []) (lCons (eV 0) lNil)) (eChain oLe oLe (eVB 1) (eVB 0) (eVB 2))))
def c_is_within (ds M : List D) : R := endE (b_is_within (env0 N_is_within.length ds) M)
def N_is_price : List Str := [("value" : Str)]
def b_is_price : SF := (bRet (eCall (apC c_is_within 3 []) (lCons (eV 0) (lCons (eC (.int 0)) (lCons (eC (.int 1000000000000)) lNil)))))
def c_is_price (ds M : List D) : R := endE (b_is_price (env0 N_is_price.length ds) M)
def N_check_tariff_prices : List Str := [("prices" : Str), ("index" : Str), ("price" : Str)]
def b_check_tariff_prices_1 : SF := (bIf (eAnd (e2 oIsnt (eVB 2) (eC .non)) (eNot (eCall (apC c_is_price 1 []) (lCons (eV 2) lNil)))) bStuck bNext)
def b_check_tariff_prices_2 : EF := (e2 oIs (eVB 2) (eC .non))
def b_check_tariff_prices : SF := (bSeq (bIf (eOr (eNot (e1 (oIsi (isT "tuple" [])) (eVB 0))) (eNot (eChain oLe oLe (eC (.int 1)) (eCall bLen (lCons (eVB 0) lNil)) (eC (.int 12))))) bStuck bNext) (bSeq (bFor (iEnu (eV 0)) (gT [1, 2]) b_check_tariff_prices_1) (bIf (eCall bAll (lCons (eComp (iSeq (eVB 0)) (gN 2) (eC (.bl true)) b_check_tariff_prices_2 [2]) lNil)) bStuck bNext)))
def c_check_tariff_prices (ds M : List D) : R := endE (b_check_tariff_prices (env0 N_check_tariff_prices.length ds) M)
def N_Tariff___init__ : List Str := [("self" : Str), ("prices" : Str), ("index" : Str), ("price" : Str)]
def b_Tariff___init___1 : EF := (eTup (lCons (e2 oAdd (eVB 2) (eC (.int 1))) (lCons (eV 3) lNil)))
def b_Tariff___init___2 : EF := (e2 oIsnt (eVB 3) (eC .non))
def b_Tariff___init__ : SF := (bSeq (bExpr (eCall (apC c_check_tariff_prices 1 []) (lCons (eV 1) lNil))) (bSeq (bFld 0 "Tariff" "row" (eV 1)) (bFld 0 "Tariff" "pieces" (eComp (iEnu (eV 1)) (gT [2, 3]) b_Tariff___init___2 b_Tariff___init___1 [2, 3]))))
def c_Tariff___init__ (ds M : List D) : R := endI (b_Tariff___init__ (env0I N_Tariff___init__.length "Tariff" ds) M)
def N__law_fares : List Str := [("_law_steps_here" : Str), ("_law_last" : Str), ("_law_found" : Str), ("_law_length_here" : Str), ("_law_costs" : Str), ("_law_k" : Str)]
def b__law_fares_1 : SF := (bIf (e2 oIsnt (e2 oIx (eVB 0) (eVB 5)) (eC .non)) (bApp 4 (e2 oAdd (e2 oIx (eVB 0) (eVB 5)) (e2 oIx (eVB 2) (eCall bMax (lCons (eC (.int 0)) (lCons (e2 oSub (e2 oSub (eVB 3) (eVB 5)) (eC (.int 1))) lNil)))))) bNext)
def b__law_fares_2 : SF := (bSeq (bOwn 4 (eLst lNil)) (bSeq (bFor (iRng1 (eCall bLen (lCons (eVB 0) lNil))) (gN 5) b__law_fares_1) (bApp 2 (eCall bMin (lCons (eVB 4) lNil)))))
def b__law_fares : SF := (bSeq (bOwn 2 (eLst (lCons (eC (.int 0)) lNil))) (bSeq (bFor (iRng2 (eC (.int 1)) (e2 oAdd (eVB 1) (eC (.int 1)))) (gN 3) b__law_fares_2) (bSeq (bShare 2) (bRet (eV 2)))))
def c__law_fares (ds M : List D) : R := endE (b__law_fares (env0 N__law_fares.length ds) M)
def N_best_of : List Str := [("pieces" : Str), ("found" : Str), ("piece" : Str)]
def b_best_of_1 : SF := (bIf (e2 oLt (e2 oMul (e2 oIx (eVB 2) (eC (.int 1))) (e2 oIx (eVB 1) (eC (.int 0)))) (e2 oMul (e2 oIx (eVB 1) (eC (.int 1))) (e2 oIx (eVB 2) (eC (.int 0))))) (bSet 1 (eV 2)) bNext)
def b_best_of : SF := (bSeq (bSet 1 (e2 oIx (eVB 0) (eC (.int 0)))) (bSeq (bFor (iSeq (eV 0)) (gN 2) b_best_of_1) (bRet (e2 oIx (eVB 1) (eC (.int 0))))))
def c_best_of (ds M : List D) : R := endE (b_best_of (env0 N_best_of.length ds) M)
def N_Tariff_best : List Str := [("self" : Str)]
def b_Tariff_best : SF := (bRet (eCall (apC c_best_of 1 []) (lCons (e1 (fldR "Tariff" "pieces") (eVB 0)) lNil)))
def c_Tariff_best (ds M : List D) : R := endE (b_Tariff_best (env0 N_Tariff_best.length ds) M)
def N__law_far : List Str := [("_law_jar_here" : Str), ("_law_size" : Str)]
def b__law_far : SF := (bSeq (bSet 1 (eCall (apC c__law_pick 2 []) (lCons (eV 0) (lCons (eLst (lCons (e2 oPow (eC (.int 10)) (eC (.int 3))) (lCons (e2 oPow (eC (.int 10)) (eC (.int 6))) (lCons (e2 oPow (eC (.int 10)) (eC (.int 12))) (lCons (e2 oPow (eC (.int 10)) (eC (.int 29))) lNil))))) lNil)))) (bRet (e2 oAdd (e2 oAdd (eVB 1) (eCall (apC c__law_dip 2 []) (lCons (eV 0) (lCons (eV 1) lNil)))) (eC (.int 200)))))
def c__law_far (ds M : List D) : R := endE (b__law_far (env0 N__law_far.length ds) M)
def N_Tariff_turning : List Str := [("self" : Str)]
def b_Tariff_turning : SF := (bRet (e2 oMul (e2 oSub (e1 (propR "Tariff" c_Tariff_best) (eV 0)) (eC (.int 1))) (eCall bLen (lCons (e1 (fldR "Tariff" "row") (eVB 0)) lNil))))
def c_Tariff_turning (ds M : List D) : R := endE (b_Tariff_turning (env0 N_Tariff_turning.length ds) M)
def N_Tariff_sums : List Str := [("self" : Str), ("found" : Str), ("length" : Str), ("costs" : Str), ("piece" : Str), ("price" : Str)]
def b_Tariff_sums_1 : EF := (e2 oAdd (e2 oIx (eVB 1) (e2 oSub (eVB 2) (eVB 4))) (eVB 5))
def b_Tariff_sums_2 : EF := (eAnd (e2 oLe (eVB 4) (eVB 2)) (e2 oIsnt (e2 oIx (eVB 1) (e2 oSub (eVB 2) (eVB 4))) (eC .non)))
def b_Tariff_sums_3 : SF := (bSeq (bOwn 3 (eComp (iSeq (e1 (fldR "Tariff" "pieces") (eVB 0))) (gT [4, 5]) b_Tariff_sums_2 b_Tariff_sums_1 [4, 5])) (bSeq (bShare 3) (bApp 1 (eIf (e2 oNe (eVB 3) (eLst lNil)) (eCall bMin (lCons (eVB 3) lNil)) (eC .non)))))
def b_Tariff_sums : SF := (bSeq (bOwn 1 (eLst (lCons (eC (.int 0)) lNil))) (bSeq (bFor (iRng2 (eC (.int 1)) (e2 oAdd (eMeth "Tariff" "turning" c_Tariff_turning 1 [] (eV 0) lNil) (eC (.int 1)))) (gN 2) b_Tariff_sums_3) (bSeq (bShare 1) (bRet (eV 1)))))
def c_Tariff_sums (ds M : List D) : R := endE (b_Tariff_sums (env0 N_Tariff_sums.length ds) M)
def N_fare_of : List Str := [("tariff" : Str), ("length" : Str), ("best" : Str), ("price" : Str), ("costs" : Str), ("others" : Str), ("cost" : Str)]
def b_fare_of_1 : SF := (bIf (e2 oIsnt (eVB 6) (eC .non)) (bApp 4 (e2 oAdd (eVB 6) (e2 oMul (eVB 3) (eCall bMax (lCons (eC (.int 0)) (lCons (e2 oDiv (e2 oSub (e2 oAdd (e2 oSub (eVB 1) (eVB 5)) (eVB 2)) (eC (.int 1))) (eVB 2)) lNil)))))) bNext)
def b_fare_of : SF := (bSeq (bPar 2 3 (e1 (propR "Tariff" c_Tariff_best) (eV 0)) (e2 oIx (eCall bDict (lCons (e1 (fldR "Tariff" "pieces") (eVB 0)) lNil)) (e1 (propR "Tariff" c_Tariff_best) (eV 0)))) (bSeq (bOwn 4 (eLst lNil)) (bSeq (bFor (iEnu (eMeth "Tariff" "sums" c_Tariff_sums 1 [] (eV 0) lNil)) (gT [5, 6]) b_fare_of_1) (bRet (eCall bMin (lCons (eVB 4) lNil))))))
def c_fare_of (ds M : List D) : R := endE (b_fare_of (env0 N_fare_of.length ds) M)
def N_Tariff_fare : List Str := [("self" : Str), ("length" : Str)]
def b_Tariff_fare : SF := (bSeq (bIf (eNot (eCall (apC c_is_within 3 []) (lCons (eV 1) (lCons (eC (.int 1)) (lCons (eC (.int 1000000000000000000000000000000)) lNil))))) bStuck bNext) (bRet (eCall (apC c_fare_of 2 []) (lCons (eV 0) (lCons (eV 1) lNil)))))
def c_Tariff_fare (ds M : List D) : R := endE (b_Tariff_fare (env0 N_Tariff_fare.length ds) M)
def N__law_right : List Str := [("_law_jar_here" : Str), ("_law_lap" : Str), ("_law_steps_here" : Str), ("_law_mine" : Str), ("_law_near" : Str), ("_law_best" : Str), ("_law_turn" : Str), ("_law_far_here" : Str), ("_law_rest" : Str), ("_law_part" : Str)]
def b__law_right_1 : SF := (bSeq (bSet 7 (eCall (apC c__law_far 1 []) (lCons (eV 0) lNil))) (bSeq (bSet 8 (e2 oAdd (eC (.int 140)) (e2 oMod (eCall bInt (lCons (e2 oSub (eVB 7) (eC (.int 140))) lNil)) (eVB 5)))) (bSeq (bIf (e2 oNe (eMeth "Tariff" "fare" c_Tariff_fare 2 [] (eV 3) (lCons (eV 7) lNil)) (e2 oAdd (e2 oIx (eVB 4) (eVB 8)) (e2 oMul (e2 oDiv (e2 oSub (eVB 7) (eVB 8)) (eVB 5)) (e2 oIx (eVB 2) (e2 oSub (eVB 5) (eC (.int 1))))))) (bRet (eC (.bl false))) bNext) (bSeq (bSet 9 (e2 oAdd (eC (.int 1)) (eCall (apC c__law_dip 2 []) (lCons (eV 0) (lCons (e2 oSub (eVB 7) (eC (.int 1))) lNil))))) (bIf (eOr (e2 oGt (eMeth "Tariff" "fare" c_Tariff_fare 2 [] (eV 3) (lCons (eV 7) lNil)) (e2 oAdd (eMeth "Tariff" "fare" c_Tariff_fare 2 [] (eV 3) (lCons (eV 9) lNil)) (eMeth "Tariff" "fare" c_Tariff_fare 2 [] (eV 3) (lCons (e2 oSub (eVB 7) (eVB 9)) lNil)))) (e2 oGt (eMeth "Tariff" "fare" c_Tariff_fare 2 [] (eV 3) (lCons (eV 9) lNil)) (eMeth "Tariff" "fare" c_Tariff_fare 2 [] (eV 3) (lCons (eV 7) lNil)))) (bRet (eC (.bl false))) bNext)))))
def b__law_right_2 : SF := (bSeq (bSet 2 (eCall (apC c__law_steps 2 []) (lCons (eV 0) (lCons (eCall (apC c__law_pick 2 []) (lCons (eV 0) (lCons (eLst (lCons (eC (.int 3)) (lCons (eC (.int 20)) (lCons (e2 oPow (eC (.int 10)) (eC (.int 11))) lNil)))) lNil))) lNil)))) (bSeq (bPar 3 4 (eCall (apC c_Tariff___init__ 1 []) (lCons (eV 2) lNil)) (eCall (apC c__law_fares 2 []) (lCons (eV 2) (lCons (eC (.int 160)) lNil)))) (bSeq (bSet 5 (e1 (propR "Tariff" c_Tariff_best) (eV 3))) (bSeq (bFor (iRng1 (eC (.int 4))) (gN 6) b__law_right_1) (bIf (e2 oLt (eMeth "Tariff" "fare" c_Tariff_fare 2 [] (eV 3) (lCons (e2 oPow (eC (.int 10)) (eC (.int 30))) lNil)) (eMeth "Tariff" "fare" c_Tariff_fare 2 [] (eV 3) (lCons (e2 oSub (e2 oPow (eC (.int 10)) (eC (.int 30))) (eC (.int 1))) lNil))) (bRet (eC (.bl false))) bNext)))))
def b__law_right : SF := (bSeq (bFor (iRng1 (eC (.int 2))) (gN 1) b__law_right_2) (bRet (eC (.bl true))))
def c__law_right (ds M : List D) : R := endE (b__law_right (env0 N__law_right.length ds) M)
def N__law_jar : List Str := [("_law_script" : Str), ("_law_k" : Str), ("_law_mixed" : Str), ("_law_cell" : Str), ("_law_own" : Str), ("_law_digits" : Str)]
def b__law_jar_1 : SF := (bSet 2 (e2 oMod (eCall bInt (lCons (e2 oAdd (e2 oMul (eVB 2) (eC (.int 617))) (eVB 3)) lNil)) (eC (.int 1000000007))))
def b__law_jar : SF := (bSeq (bSet 2 (e2 oAdd (e2 oMul (e2 oMul (eC (.int 6007)) (e2 oAdd (eVB 1) (eC (.int 4)))) (e2 oAdd (eVB 1) (eC (.int 3)))) (e2 oMul (eC (.int 17)) (eCall bLen (lCons (eVB 0) lNil))))) (bSeq (bFor (iSeq (eSl oSlE (eVB 0) (eC .non) (eInt (eC (.int 4))))) (gN 3) b__law_jar_1) (bSeq (bSet 4 (eIf (e2 oLt (eVB 1) (eCall bLen (lCons (eVB 0) lNil))) (e2 oIx (eVB 0) (eVB 1)) (eC (.int 0)))) (bSeq (bSet 5 (eIf (eOr (e2 oLt (eVB 4) (eC (.int 0))) (e2 oGe (eVB 4) (e2 oPow (eC (.int 10)) (eC (.int 18))))) (eCall bAbs (lCons (eVB 4) lNil)) (eC (.int 0)))) (bRet (eCell (eLst (lCons (eV 5) (lCons (e2 oMod (eCall bInt (lCons (e2 oAdd (e2 oAdd (e2 oMul (eVB 2) (eC (.int 7907))) (e2 oMul (eVB 4) (eC (.int 65537)))) (e2 oMul (eC (.int 104729)) (e2 oAdd (eVB 1) (eC (.int 1))))) lNil)) (eC (.int 2147483587))) (lCons (eC (.int 0)) lNil))))))))))
def c__law_jar (ds M : List D) : R := endE (b__law_jar (env0 N__law_jar.length ds) M)
def N_law : List Str := [("_law_script" : Str), ("_law_k" : Str)]
def b_law_1 : EF := (eCall (apC c__law_right 1 []) (lCons (eCall (apC c__law_jar 2 []) (lCons (eV 0) (lCons (eV 1) lNil))) lNil))
def b_law : SF := (bRet (eCall bAll (lCons (eComp (iRng1 (eCall bMax (lCons (eC (.int 2)) (lCons (eCall bMin (lCons (eCall bLen (lCons (eVB 0) lNil)) (lCons (eC (.int 4)) lNil))) lNil)))) (gN 1) (eC (.bl true)) b_law_1 [1]) lNil)))
def c_law (ds M : List D) : R := endE (b_law (env0 N_law.length ds) M)
end K26

set_option maxRecDepth 100000
set_option maxHeartbeats 1000000
namespace K26
open MP
/-! ### fares: the plain law -/
theorem mnL_mem : ∀ {ns : List Int}, ns ≠ [] → mnL ns ∈ ns
  | [i], _ => by simp [mnL]
  | i :: j :: r, _ => by
    have h := mnL_mem (ns := j :: r) (by simp)
    show min i (mnL (j :: r)) ∈ _
    by_cases e : i ≤ mnL (j :: r)
    · rw [Int.min_eq_left e]; simp
    · rw [Int.min_eq_right (by omega)]; exact List.mem_cons_of_mem _ h
theorem mnL_le : ∀ {ns : List Int} {y : Int}, y ∈ ns → mnL ns ≤ y
  | [i], y, h => by simp at h; subst h; simp [mnL]
  | i :: j :: r, y, h => by
    show min i (mnL (j :: r)) ≤ y
    rcases List.mem_cons.mp h with rfl | h
    · exact Int.min_le_left _ _
    · exact Int.le_trans (Int.min_le_right _ _) (mnL_le h)
abbrev Pc := Nat × Int
def tot (l : List Pc) : Nat := (l.map (·.1)).sum
def cost (l : List Pc) : Int := (l.map (·.2)).sum
@[simp] theorem tot_nil : tot [] = 0 := rfl
@[simp] theorem cost_nil : cost [] = 0 := rfl
@[simp] theorem tot_cons (q : Pc) (l : List Pc) : tot (q :: l) = q.1 + tot l := by simp [tot]
@[simp] theorem cost_cons (q : Pc) (l : List Pc) : cost (q :: l) = q.2 + cost l := by simp [cost]
@[simp] theorem tot_app (a b : List Pc) : tot (a ++ b) = tot a + tot b := by simp [tot]
@[simp] theorem cost_app (a b : List Pc) : cost (a ++ b) = cost a + cost b := by simp [cost]
theorem tot_rep (m : Nat) (q : Pc) : tot (List.replicate m q) = m * q.1 := by
  induction m with
  | zero => simp
  | succ m ih => rw [List.replicate_succ, tot_cons, ih, Nat.succ_mul]; omega
theorem cost_rep (m : Nat) (q : Pc) : cost (List.replicate m q) = (m : Int) * q.2 := by
  induction m with
  | zero => simp
  | succ m ih => rw [List.replicate_succ, cost_cons, ih]; push_cast; rw [Int.add_mul]; omega
/-- what pieces are -/
structure Pcs (ps : List Pc) : Prop where
  ne : ps ≠ []
  pos : ∀ q ∈ ps, 1 ≤ q.1
  nn : ∀ q ∈ ps, 0 ≤ q.2
/-- the fares as a table -/
def tb (ps : List Pc) : Nat → List Int
  | 0 => [0]
  | n + 1 => tb ps n ++ [mnL (ps.map fun q => q.2 + (tb ps n).getD (n + 1 - q.1) 0)]
def fr (ps : List Pc) (n : Nat) : Int := (tb ps n).getD n 0
theorem tb_len (ps : List Pc) : ∀ n, (tb ps n).length = n + 1
  | 0 => rfl
  | n + 1 => by simp [tb, tb_len ps n]
theorem tb_get (ps : List Pc) : ∀ (n i : Nat), i ≤ n → (tb ps n).getD i 0 = fr ps i
  | 0, i, h => by
    have : i = 0 := by omega
    subst this; rfl
  | n + 1, i, h => by
    by_cases e : i = n + 1
    · subst e; rfl
    · have : i < (tb ps n).length := by rw [tb_len]; omega
      show (tb ps n ++ _).getD i 0 = _
      rw [List.getD_eq_getElem?_getD, List.getElem?_append_left this, ← List.getD_eq_getElem?_getD]
      exact tb_get ps n i (by omega)
theorem fr_zero (ps : List Pc) : fr ps 0 = 0 := rfl
variable {ps : List Pc}
theorem fr_succ (h : Pcs ps) (n : Nat) : fr ps (n + 1) = mnL (ps.map fun q => q.2 + fr ps (n + 1 - q.1)) := by
  have e : fr ps (n + 1) = mnL (ps.map fun q => q.2 + (tb ps n).getD (n + 1 - q.1) 0) := by
    unfold fr
    show (tb ps n ++ [_]).getD (n + 1) 0 = _
    rw [List.getD_eq_getElem?_getD, List.getElem?_append_right (by rw [tb_len]; omega), tb_len]; simp
  rw [e]
  congr 1
  apply List.map_congr_left
  intro q hq
  rw [tb_get ps n _ (by have := h.pos q hq; omega)]
theorem fr_le (h : Pcs ps) {q : Pc} (hq : q ∈ ps) (n : Nat) : fr ps (n + 1) ≤ q.2 + fr ps (n + 1 - q.1) := by
  rw [fr_succ h]
  exact mnL_le (List.mem_map.mpr ⟨q, hq, rfl⟩)
theorem fr_at (h : Pcs ps) (n : Nat) : ∃ q ∈ ps, fr ps (n + 1) = q.2 + fr ps (n + 1 - q.1) := by
  have := mnL_mem (ns := ps.map fun q => q.2 + fr ps (n + 1 - q.1)) (by simpa using h.ne)
  rw [← fr_succ h] at this
  obtain ⟨q, hq, e⟩ := List.mem_map.mp this
  exact ⟨q, hq, e.symm⟩
theorem cost_nn (h : Pcs ps) : ∀ {l : List Pc}, (∀ q ∈ l, q ∈ ps) → 0 ≤ cost l
  | [], _ => by simp
  | q :: l, hl => by
    rw [cost_cons]
    have h1 := h.nn q (hl q (by simp))
    have h2 := cost_nn h (l := l) fun x hx => hl x (List.mem_cons_of_mem _ hx)
    omega
theorem cov_le (h : Pcs ps) : ∀ {l : List Pc} {n : Nat}, (∀ q ∈ l, q ∈ ps) → n ≤ tot l → fr ps n ≤ cost l
  | [], n, _, hn => by
    have : n = 0 := by simpa using hn
    subst this; simp [fr_zero]
  | q :: l, 0, hl, _ => by rw [fr_zero]; exact cost_nn h hl
  | q :: l, n + 1, hl, hn => by
    rw [tot_cons] at hn
    rw [cost_cons]
    have h1 := fr_le h (hl q (by simp)) n
    have h2 := cov_le h (l := l) (n := n + 1 - q.1) (fun x hx => hl x (List.mem_cons_of_mem _ hx)) (by omega)
    omega
theorem cov_at (h : Pcs ps) (n : Nat) : ∃ l : List Pc, (∀ q ∈ l, q ∈ ps) ∧ n ≤ tot l ∧ cost l = fr ps n := by
  induction n using Nat.strongRecOn with
  | _ n ih =>
    cases n with
    | zero => exact ⟨[], by simp, by simp, by simp [fr_zero]⟩
    | succ n =>
      obtain ⟨q, hq, e⟩ := fr_at h n
      obtain ⟨l, h1, h2, h3⟩ := ih (n + 1 - q.1) (by have := h.pos q hq; omega)
      exact ⟨q :: l, fun x hx => by rcases List.mem_cons.mp hx with rfl | hx; exact hq; exact h1 x hx, by rw [tot_cons]; omega, by rw [cost_cons, h3, e]⟩
theorem php : ∀ (n : Nat) (f : Nat → Nat), (∀ i, i ≤ n → f i < n) → ∃ i j, i < j ∧ j ≤ n ∧ f i = f j
  | 0, f, h => absurd (h 0 (Nat.le_refl _)) (Nat.not_lt_zero _)
  | n + 1, f, h => by
    by_cases hv : ∃ i, i ≤ n ∧ f i = f (n + 1)
    · obtain ⟨i, h1, h2⟩ := hv
      exact ⟨i, n + 1, by omega, Nat.le_refl _, h2⟩
    · have hv' : ∀ i, i ≤ n → f i ≠ f (n + 1) := fun i hi e => hv ⟨i, hi, e⟩
      obtain ⟨i, j, h1, h2, h3⟩ := php n (fun i => if f i = n then f (n + 1) else f i) (fun i hi => by
        have a := h i (by omega)
        have b := h (n + 1) (Nat.le_refl _)
        have d := hv' i hi
        try dsimp only
        split <;> omega)
      refine ⟨i, j, h1, by omega, ?_⟩
      have d1 := hv' i (by omega)
      have d2 := hv' j h2
      try dsimp only at h3
      split at h3 <;> split at h3 <;> omega
/-- the best piece -/
structure Best (ps : List Pc) (b : Nat) (p : Int) : Prop where
  mem : (b, p) ∈ ps
  all : ∀ q ∈ ps, p * (q.1 : Int) ≤ q.2 * (b : Int)
variable {b : Nat} {p : Int}
theorem cost_rate (hb : Best ps b p) : ∀ {l : List Pc}, (∀ q ∈ l, q ∈ ps) → p * (tot l : Int) ≤ cost l * (b : Int)
  | [], _ => by simp
  | q :: l, hl => by
    rw [tot_cons, cost_cons]
    have h1 := hb.all q (hl q (by simp))
    have h2 := cost_rate hb (l := l) fun x hx => hl x (List.mem_cons_of_mem _ hx)
    push_cast
    rw [Int.mul_add, Int.add_mul]
    omega
theorem exch (h : Pcs ps) (hb : Best ps b p) (l : List Pc) (hl : ∀ q ∈ l, q ∈ ps) : ∃ (l' : List Pc) (m : Nat), (∀ q ∈ l', q ∈ ps) ∧ l'.length < b ∧ tot l = tot l' + m * b ∧ cost l' + (m : Int) * p ≤ cost l := by
  have hb1 : 1 ≤ b := h.pos _ hb.mem
  generalize hn : l.length = n
  induction n using Nat.strongRecOn generalizing l with
  | _ n ih =>
    by_cases hlt : l.length < b
    · exact ⟨l, 0, hl, hlt, by simp, by simp⟩
    · obtain ⟨i, j, h1, h2, h3⟩ := php b (fun i => tot (l.take i) % b) (fun i _ => Nat.mod_lt _ (by omega))
      try dsimp only at h3
      have ej : l.take j = l.take i ++ (l.take j).drop i := by
        conv => lhs; rw [← List.take_append_drop i (l.take j)]
        rw [List.take_take, Nat.min_eq_left (by omega)]
      have el : l = (l.take i ++ (l.take j).drop i) ++ l.drop j := by
        rw [← ej, List.take_append_drop]
      obtain ⟨A, hA⟩ : ∃ A, A = l.take i := ⟨_, rfl⟩
      obtain ⟨B, hB⟩ : ∃ B, B = (l.take j).drop i := ⟨_, rfl⟩
      obtain ⟨C, hC⟩ : ∃ C, C = l.drop j := ⟨_, rfl⟩
      rw [ej, ← hA, ← hB, tot_app] at h3
      rw [← hA, ← hB, ← hC] at el
      have hdvd : tot B % b = 0 := by
        have e1 : (tot A + tot B) % b = tot A % b := h3.symm
        have e2 := Nat.add_mod (tot A) (tot B) b
        rw [e1] at e2
        have lt1 : tot A % b < b := Nat.mod_lt _ (by omega)
        have lt2 : tot B % b < b := Nat.mod_lt _ (by omega)
        by_cases hs : tot A % b + tot B % b < b
        · rw [Nat.mod_eq_of_lt hs] at e2; omega
        · have e3 : (tot A % b + tot B % b) % b = tot A % b + tot B % b - b := by
            rw [Nat.mod_eq_sub_mod (by omega), Nat.mod_eq_of_lt (by omega)]
          omega
      obtain ⟨t, ht⟩ : ∃ t, tot B = b * t := ⟨tot B / b, by have := Nat.div_add_mod (tot B) b; omega⟩
      have hlB : B.length = j - i := by rw [hB]; simp; omega
      have hlen : (A ++ C).length < n := by
        have e := congrArg List.length el
        simp only [List.length_append] at e ⊢
        omega
      have hAC : ∀ q ∈ A ++ C, q ∈ ps := fun q hq => hl q (by
        rw [el]
        rcases List.mem_append.mp hq with z | z
        · exact List.mem_append_left _ (List.mem_append_left _ z)
        · exact List.mem_append_right _ z)
      have hBm : ∀ q ∈ B, q ∈ ps := fun q hq => hl q (by rw [el]; exact List.mem_append_left _ (List.mem_append_right _ hq))
      obtain ⟨l', m, g1, g2, g3, g4⟩ := ih _ hlen (A ++ C) hAC rfl
      have rate := cost_rate hb hBm
      have key : p * (t : Int) ≤ cost B := by
        rw [ht] at rate
        push_cast at rate
        have e : p * ((b : Int) * (t : Int)) = (p * (t : Int)) * (b : Int) := by rw [Int.mul_comm (b : Int), Int.mul_assoc]
        rw [e] at rate
        exact Int.le_of_mul_le_mul_right rate (by omega)
      refine ⟨l', m + t, g1, g2, ?_, ?_⟩
      · have e := congrArg tot el
        simp only [tot_app] at e g3
        rw [e, ht, Nat.add_mul, Nat.mul_comm t b]; omega
      · have e := congrArg cost el
        simp only [cost_app] at e g4
        push_cast
        rw [Int.add_mul, e, Int.mul_comm (t : Int) p]; omega
theorem tot_le {k : Nat} : ∀ {l : List Pc}, (∀ q ∈ l, q.1 ≤ k) → tot l ≤ l.length * k
  | [], _ => by simp
  | q :: l, hl => by
    rw [tot_cons, List.length_cons, Nat.succ_mul]
    have := tot_le (l := l) fun x hx => hl x (List.mem_cons_of_mem _ hx)
    have := hl q (by simp)
    omega
/-- no piece longer than k -/
theorem exch_tot {k : Nat} (hk : ∀ q ∈ ps, q.1 ≤ k) {l' : List Pc} (h1 : ∀ q ∈ l', q ∈ ps) (h2 : l'.length < b) : tot l' ≤ (b - 1) * k := by
  have := tot_le (l := l') fun q hq => hk q (h1 q hq)
  exact Nat.le_trans this (Nat.mul_le_mul_right _ (by omega))
theorem fr_add (h : Pcs ps) (hb : Best ps b p) {k : Nat} (hk : ∀ q ∈ ps, q.1 ≤ k) {n : Nat} (hn : (b - 1) * k ≤ n) : fr ps (n + b) = fr ps n + p := by
  have hb1 : 1 ≤ b := h.pos _ hb.mem
  apply Int.le_antisymm
  · obtain ⟨m, rfl⟩ : ∃ m, b = m + 1 := ⟨b - 1, by omega⟩
    have := fr_le h hb.mem (n + m)
    simp only at this
    rw [show n + m + 1 - (m + 1) = n by omega] at this
    rw [show n + (m + 1) = n + m + 1 by omega]
    omega
  · obtain ⟨l, h1, h2, h3⟩ := cov_at h (n + b)
    obtain ⟨l', m, g1, g2, g3, g4⟩ := exch h hb l h1
    have g5 := exch_tot hk g1 g2
    have hm : m ≠ 0 := by rintro rfl; simp at g3; omega
    obtain ⟨m, rfl⟩ : ∃ m', m = m' + 1 := ⟨m - 1, by omega⟩
    have h4 := cov_le h (l := l' ++ List.replicate m (b, p)) (n := n) (fun q hq => by
      rcases List.mem_append.mp hq with z | z
      · exact g1 q z
      · rw [(List.mem_replicate.mp z).2]; exact hb.mem) (by
        rw [tot_app, tot_rep]
        rw [Nat.succ_mul] at g3
        dsimp only; omega)
    rw [cost_app, cost_rep] at h4
    push_cast at g4
    rw [Int.add_mul] at g4
    dsimp only at h4
    omega
theorem fr_far (h : Pcs ps) (hb : Best ps b p) {k : Nat} (hk : ∀ q ∈ ps, q.1 ≤ k) {n : Nat} (hn : (b - 1) * k ≤ n) : ∀ q : Nat, fr ps (n + q * b) = fr ps n + (q : Int) * p
  | 0 => by simp
  | q + 1 => by
    have e : n + (q + 1) * b = (n + q * b) + b := by rw [Nat.succ_mul]; omega
    rw [e, fr_add h hb hk (by omega), fr_far h hb hk hn q]
    push_cast
    rw [Int.add_mul]; omega
theorem fr_sub (h : Pcs ps) (m n : Nat) : fr ps (m + n) ≤ fr ps m + fr ps n := by
  obtain ⟨l, h1, h2, h3⟩ := cov_at h m
  obtain ⟨l', g1, g2, g3⟩ := cov_at h n
  rw [← h3, ← g3, ← cost_app]
  exact cov_le h (fun q hq => by rcases List.mem_append.mp hq with z | z; exact h1 q z; exact g1 q z) (by rw [tot_app]; omega)
theorem fr_mono (h : Pcs ps) {m n : Nat} (hmn : m ≤ n) : fr ps m ≤ fr ps n := by
  obtain ⟨l, h1, h2, h3⟩ := cov_at h n
  rw [← h3]
  exact cov_le h h1 (by omega)
/-! the exact sums -/
def exN (ps : List Pc) (t : List (Option Int)) (n : Nat) : List Int := ps.filterMap fun q => if q.1 ≤ n then (t.getD (n - q.1) none).map (· + q.2) else none
def ex (ps : List Pc) : Nat → List (Option Int)
  | 0 => [some 0]
  | n + 1 => ex ps n ++ [if exN ps (ex ps n) (n + 1) = [] then none else some (mnL (exN ps (ex ps n) (n + 1)))]
theorem ex_len (ps : List Pc) : ∀ n, (ex ps n).length = n + 1
  | 0 => rfl
  | n + 1 => by simp [ex, ex_len ps n]
def e1 (ps : List Pc) (n : Nat) : Option Int := (ex ps n).getD n none
theorem ex_get (ps : List Pc) : ∀ (n i : Nat), i ≤ n → (ex ps n).getD i none = e1 ps i
  | 0, i, h => by
    have : i = 0 := by omega
    subst this; rfl
  | n + 1, i, h => by
    by_cases e : i = n + 1
    · subst e; rfl
    · have : i < (ex ps n).length := by rw [ex_len]; omega
      show (ex ps n ++ _).getD i none = _
      rw [List.getD_eq_getElem?_getD, List.getElem?_append_left this, ← List.getD_eq_getElem?_getD]
      exact ex_get ps n i (by omega)
theorem e1_succ (n : Nat) : e1 ps (n + 1) = if exN ps (ex ps n) (n + 1) = [] then none else some (mnL (exN ps (ex ps n) (n + 1))) := by
  unfold e1
  show (ex ps n ++ [_]).getD (n + 1) none = _
  rw [List.getD_eq_getElem?_getD, List.getElem?_append_right (by rw [ex_len]; omega), ex_len]; simp
theorem exN_mem (h : Pcs ps) {n : Nat} {y : Int} : y ∈ exN ps (ex ps n) (n + 1) ↔ ∃ q ∈ ps, q.1 ≤ n + 1 ∧ ∃ v, e1 ps (n + 1 - q.1) = some v ∧ y = v + q.2 := by
  unfold exN
  rw [List.mem_filterMap]
  constructor
  · rintro ⟨q, hq, e⟩
    split at e
    · rename_i hle
      rw [ex_get ps n _ (by have := h.pos q hq; omega), Option.map_eq_some_iff] at e
      obtain ⟨v, e1, e2⟩ := e
      exact ⟨q, hq, hle, v, e1, e2.symm⟩
    · cases e
  · rintro ⟨q, hq, hle, v, e1, e2⟩
    refine ⟨q, hq, ?_⟩
    rw [if_pos hle, ex_get ps n _ (by have := h.pos q hq; omega), e1, e2]; rfl
theorem ex_at (h : Pcs ps) (n : Nat) : ∀ v, e1 ps n = some v → ∃ l : List Pc, (∀ q ∈ l, q ∈ ps) ∧ tot l = n ∧ cost l = v := by
  induction n using Nat.strongRecOn with
  | _ n ih =>
    intro v hv
    cases n with
    | zero =>
      have : v = 0 := by
        have e : e1 ps 0 = some 0 := rfl
        rw [e] at hv; cases hv; rfl
      subst this
      exact ⟨[], by simp, by simp, by simp⟩
    | succ n =>
      rw [e1_succ] at hv
      split at hv
      · cases hv
      · rename_i hne
        cases hv
        obtain ⟨q, hq, hle, w, e1, e2⟩ := (exN_mem h).mp (mnL_mem hne)
        obtain ⟨l, h1, h2, h3⟩ := ih (n + 1 - q.1) (by have := h.pos q hq; omega) w e1
        exact ⟨q :: l, fun x hx => by rcases List.mem_cons.mp hx with rfl | hx; exact hq; exact h1 x hx, by rw [tot_cons]; omega, by rw [cost_cons, h3, e2]; omega⟩
theorem ex_le (h : Pcs ps) : ∀ (l : List Pc), (∀ q ∈ l, q ∈ ps) → ∃ v, e1 ps (tot l) = some v ∧ v ≤ cost l
  | [], _ => ⟨0, rfl, by simp⟩
  | q :: l, hl => by
    obtain ⟨w, h1, h2⟩ := ex_le h l fun x hx => hl x (List.mem_cons_of_mem _ hx)
    have hq := hl q (by simp)
    have hp := h.pos q hq
    obtain ⟨n, hn⟩ : ∃ n, q.1 + tot l = n + 1 := ⟨q.1 + tot l - 1, by omega⟩
    have hm : w + q.2 ∈ exN ps (ex ps n) (n + 1) := (exN_mem h).mpr ⟨q, hq, by omega, w, by rw [show n + 1 - q.1 = tot l by omega]; exact h1, rfl⟩
    rw [tot_cons, hn, e1_succ, if_neg (fun e => by rw [e] at hm; cases hm)]
    refine ⟨_, rfl, ?_⟩
    have := mnL_le hm
    rw [cost_cons]; omega
/-- what the program's fare asks -/
def cand (ps : List Pc) (b : Nat) (p : Int) (L : Int) (os : List Nat) : List Int := os.filterMap fun o => (e1 ps o).map fun v => v + p * max 0 ((L - (o : Int) + b - 1) / b)
theorem fare_eq (h : Pcs ps) (hb : Best ps b p) {k : Nat} (hk : ∀ q ∈ ps, q.1 ≤ k) (L : Nat) : cand ps b p L (List.range ((b - 1) * k + 1)) ≠ [] ∧ mnL (cand ps b p L (List.range ((b - 1) * k + 1))) = fr ps L := by
  have hb1 : 1 ≤ b := h.pos _ hb.mem
  have hp0 : 0 ≤ p := h.nn _ hb.mem
  have lo : ∀ y ∈ cand ps b p L (List.range ((b - 1) * k + 1)), fr ps L ≤ y := fun y hy => by
    obtain ⟨o, _, ho⟩ := List.mem_filterMap.mp hy
    rw [Option.map_eq_some_iff] at ho
    obtain ⟨v, h1, rfl⟩ := ho
    obtain ⟨l, g1, g2, g3⟩ := ex_at h o v h1
    obtain ⟨K, hK⟩ : ∃ K : Int, K = ((L : Int) - (o : Int) + b - 1) / b := ⟨_, rfl⟩
    rw [← hK]
    have hK2 : (L : Int) - o ≤ K * b := by
      have := Int.lt_ediv_add_one_mul_self ((L : Int) - (o : Int) + b - 1) (b := (b : Int)) (by omega)
      rw [← hK, Int.add_mul] at this; omega
    obtain ⟨m, hm⟩ : ∃ m : Nat, (m : Int) = max 0 K := ⟨(max 0 K).toNat, by omega⟩
    rw [← hm]
    have c := cov_le h (l := l ++ List.replicate m (b, p)) (n := L) (fun q hq => by
      rcases List.mem_append.mp hq with z | z
      · exact g1 q z
      · rw [(List.mem_replicate.mp z).2]; exact hb.mem) (by
        rw [tot_app, tot_rep, g2]
        dsimp only
        have : (L : Int) ≤ (o : Int) + (m : Int) * (b : Int) := by
          have : K * (b : Int) ≤ (m : Int) * b := Int.mul_le_mul_of_nonneg_right (by omega) (by omega)
          omega
        have e : ((o + m * b : Nat) : Int) = (o : Int) + (m : Int) * (b : Int) := by push_cast; rfl
        omega)
    rw [cost_app, cost_rep, g3] at c
    dsimp only at c
    rw [Int.mul_comm p]; exact c
  obtain ⟨l, h1, h2, h3⟩ := cov_at h L
  obtain ⟨l', m, g1, g2, g3, g4⟩ := exch h hb l h1
  have g5 := exch_tot hk g1 g2
  obtain ⟨v, e2, e3⟩ := ex_le h l' g1
  have hmem : v + p * max 0 (((L : Int) - (tot l' : Int) + b - 1) / b) ∈ cand ps b p L (List.range ((b - 1) * k + 1)) :=
    List.mem_filterMap.mpr ⟨tot l', by simp; omega, by rw [e2]; rfl⟩
  have hle : max 0 (((L : Int) - (tot l' : Int) + b - 1) / b) ≤ (m : Int) := by
    have : ((L : Int) - (tot l' : Int) + b - 1) / b < (m : Int) + 1 := Int.ediv_lt_of_lt_mul (by omega) (by
      have e : ((tot l' + m * b : Nat) : Int) = (tot l' : Int) + (m : Int) * (b : Int) := by push_cast; rfl
      rw [Int.add_mul]; omega)
    omega
  have ne : cand ps b p L (List.range ((b - 1) * k + 1)) ≠ [] := fun e => by rw [e] at hmem; cases hmem
  refine ⟨ne, Int.le_antisymm ?_ (lo _ (mnL_mem ne))⟩
  have := mnL_le hmem
  have z : p * max 0 (((L : Int) - (tot l' : Int) + b - 1) / b) ≤ p * (m : Int) := Int.mul_le_mul_of_nonneg_left hle hp0
  rw [Int.mul_comm p (m : Int)] at z
  omega
end K26

set_option maxRecDepth 100000
set_option maxHeartbeats 1000000
namespace K26
open MP PySem L2
/-! ### the jar -/
def jr (a b c : Int) : D := .lst [.int a, .int b, .int c]
def JarAt (M : List D) (n : Nat) : Prop := ∃ a b c : Int, 0 ≤ a ∧ 0 ≤ b ∧ M[n]? = some (jr a b c)
@[simp] theorem atI3_0 {a b c : D} : atI [a, b, c] 0 = some a := rfl
@[simp] theorem atI3_1 {a b c : D} : atI [a, b, c] 1 = some b := rfl
@[simp] theorem atI3_2 {a b c : D} : atI [a, b, c] 2 = some c := rfl
theorem st_0 {a b c v : Int} : stSub (.int 0) (.int v) (jr a b c) = some (jr v b c) := rfl
theorem st_1 {a b c v : Int} : stSub (.int 1) (.int v) (jr a b c) = some (jr a v c) := rfl
theorem st_2 {a b c v : Int} : stSub (.int 2) (.int v) (jr a b c) = some (jr a b v) := rfl
@[simp] theorem has_c {d : D} {r : EnvM} : has 0 (.shr d :: r) = true := rfl
theorem store_0 {n : Nat} {r : EnvM} {u d d'} {M : List D} (hm : M[n]? = some d) (hu : u d = some d') : store 0 u (.shr (.cel n) :: r) M = .next (.shr (.cel n) :: r) (M.set n d') := store_cel rfl hm hu
theorem dip_ok {M : List D} {n : Nat} {m : Int} (hj : JarAt M n) (hm : 0 < m) (hm2 : m < 2 ^ 200) :
    ∃ v M', c__law_dip [.cel n, .int m] M = .ok (.int v) M' ∧ 0 ≤ v ∧ v < m ∧ JarAt M' n := by
  obtain ⟨a, b, c, ha, hb, hM⟩ := hj
  have hlt : n < M.length := (List.getElem?_eq_some_iff.mp hM).1
  have e0 : env0 N__law_dip.length [.cel n, .int m] = [.shr (.cel n), .shr (.int m), .no, .no] := rfl
  have c1 : ∀ i, CMulB i 48271 := fun i => cmul_r (by decide)
  have c2 : ∀ i, CMulB i 40503 := fun i => cmul_r (by decide)
  have c3 : ∀ i, CDivW i 4096 := fun i => cdiv_s (by decide) (by decide)
  have c4 : ∀ i, CDivW i m := fun i => cdiv_s hm hm2
  have i0 := oIx_celL (i := 2) hM
  have hM1 : (M.set n (jr a b (c + 1)))[n]? = some (jr a b (c + 1)) := by simp [hlt]
  have s1 := fun (r : EnvM) => store_0 (r := r) hM (st_2 (v := c + 1))
  unfold c__law_dip
  rw [e0]
  by_cases h0 : 0 < a
  · refine ⟨a % m, M.set n (jr (a / m) b (c + 1)), ?_, Int.emod_nonneg _ (by omega), Int.emod_lt_of_pos _ hm, ⟨a / m, b, c + 1, Int.ediv_nonneg ha (by omega), hb, by simp [hlt]⟩⟩
    have s2 := fun (r : EnvM) => store_0 (r := r) hM1 (st_0 (v := a / m))
    simp [b__law_dip, i0, s1, s2, oIx_celL hM1, h0, hm, c4]
  · refine ⟨(b * 48271 + (c + 1) * 40503 + 17) % 2147483629 / 4096 % m, M.set n (jr a ((b * 48271 + (c + 1) * 40503 + 17) % 2147483629) (c + 1)), ?_, Int.emod_nonneg _ (by omega), Int.emod_lt_of_pos _ hm, ⟨a, (b * 48271 + (c + 1) * 40503 + 17) % 2147483629, c + 1, ha, Int.emod_nonneg _ (by decide), by simp [hlt]⟩⟩
    have s2 := fun (r : EnvM) => store_0 (r := r) hM1 (st_1 (v := (b * 48271 + (c + 1) * 40503 + 17) % 2147483629))
    have hM2 : (M.set n (jr a ((b * 48271 + (c + 1) * 40503 + 17) % 2147483629) (c + 1)))[n]? = some (jr a ((b * 48271 + (c + 1) * 40503 + 17) % 2147483629) (c + 1)) := by simp [hlt]
    simp [b__law_dip, i0, s1, s2, oIx_celL hM1, oIx_celL hM2, h0, hm, c1, c2, c3, c4]

theorem pick_ok {M : List D} {n : Nat} {ms : List Int} (hj : JarAt M n) (h1 : ms ≠ []) (h2 : ms.length < 1000) :
    ∃ v M', c__law_pick [.cel n, .lst (ms.map .int)] M = .ok (.int v) M' ∧ v ∈ ms ∧ JarAt M' n := by
  have hl : 0 < ms.length := List.length_pos_iff.mpr h1
  obtain ⟨v, M', e, h3, h4, h5⟩ := dip_ok (m := (ms.length : Int)) hj (by omega) (by omega)
  have e0 : env0 N__law_pick.length [.cel n, .lst (ms.map .int)] = [.shr (.cel n), .shr (.lst (ms.map .int)), .no] := rfl
  obtain ⟨k, rfl⟩ : ∃ k : Nat, v = (k : Int) := ⟨v.toNat, by omega⟩
  have hk : k < ms.length := by omega
  have e2 : atI (ms.map D.int) ((k : Nat) : Int) = some (.int ms[k]) := atI_nat (by simp [hk])
  refine ⟨ms[k], M', ?_, List.getElem_mem _, h5⟩
  unfold c__law_pick
  rw [e0]
  simp [b__law_pick, e, e2]
/-! ### prices -/
def od : Option Int → D
  | none => .non
  | some v => .int v
def stD (S : List (Option Int)) : List D := S.map od
/-- good prices: v ≤ B -/
structure Good (S : List (Option Int)) (B : Int) : Prop where
  len1 : 1 ≤ S.length
  len : S.length ≤ 12
  nn : ∀ v, some v ∈ S → 0 ≤ v ∧ v ≤ B
  some_ : ∃ v, some v ∈ S
def pcs : Nat → List (Option Int) → List Pc
  | _, [] => []
  | k, none :: r => pcs (k + 1) r
  | k, some v :: r => (k + 1, v) :: pcs (k + 1) r
theorem pcs_mem : ∀ {k : Nat} {S : List (Option Int)} {q : Pc}, q ∈ pcs k S ↔ ∃ i, S[i]? = some (some q.2) ∧ q.1 = k + i + 1
  | k, [], q => by simp [pcs]
  | k, none :: r, q => by
    rw [pcs, pcs_mem]
    constructor
    · rintro ⟨i, h1, h2⟩; exact ⟨i + 1, by simpa using h1, by omega⟩
    · rintro ⟨i, h1, h2⟩
      cases i with
      | zero => simp at h1
      | succ i => exact ⟨i, by simpa using h1, by omega⟩
  | k, some v :: r, q => by
    rw [pcs, List.mem_cons, pcs_mem]
    constructor
    · rintro (rfl | ⟨i, h1, h2⟩)
      · exact ⟨0, rfl, rfl⟩
      · exact ⟨i + 1, by simpa using h1, by omega⟩
    · rintro ⟨i, h1, h2⟩
      cases i with
      | zero => left; simp at h1; obtain ⟨a, b⟩ := q; simp at h1 h2; subst h1; simp [h2]
      | succ i => right; exact ⟨i, by simpa using h1, by omega⟩
theorem pcs_app : ∀ {k : Nat} {A B : List (Option Int)}, pcs k (A ++ B) = pcs k A ++ pcs (k + A.length) B
  | k, [], B => by simp [pcs]
  | k, none :: r, B => by
    rw [List.cons_append, pcs, pcs, pcs_app, List.length_cons]
    congr 2; omega
  | k, some v :: r, B => by
    rw [List.cons_append, pcs, pcs, pcs_app, List.length_cons, List.cons_append]
    congr 3; omega
def one (i : Nat) : Option Int → List Pc
  | none => []
  | some v => [(i + 1, v)]
theorem pcs_step {S : List (Option Int)} {i : Nat} {o : Option Int} (h : S[i]? = some o) : pcs 0 (S.take (i + 1)) = pcs 0 (S.take i) ++ one i o := by
  have hl := (List.getElem?_eq_some_iff.mp h).1
  have e : S.take (i + 1) = S.take i ++ [o] := by rw [List.take_succ, h]; rfl
  rw [e, pcs_app]
  congr 1
  have e2 : (S.take i).length = i := by rw [List.length_take]; omega
  cases o with
  | none => rfl
  | some v => simp only [pcs, one]; rw [e2]; simp
theorem pcs_ok {S : List (Option Int)} {B : Int} (h : Good S B) : Pcs (pcs 0 S) := by
  refine ⟨fun e => ?_, fun q hq => ?_, fun q hq => ?_⟩
  · obtain ⟨v, hv⟩ := h.some_
    obtain ⟨i, hi, e2⟩ := List.mem_iff_getElem.mp hv
    have : (i + 1, v) ∈ pcs 0 S := pcs_mem.mpr ⟨i, by rw [List.getElem?_eq_getElem hi, e2], by omega⟩
    rw [e] at this; cases this
  · obtain ⟨i, _, e⟩ := pcs_mem.mp hq; omega
  · obtain ⟨i, e, _⟩ := pcs_mem.mp hq; exact (h.nn _ (List.mem_of_getElem? e)).1
theorem pcs_len {S : List (Option Int)} {q : Pc} (h : q ∈ pcs 0 S) : q.1 ≤ S.length := by
  obtain ⟨i, e, e2⟩ := pcs_mem.mp h
  have := (List.getElem?_eq_some_iff.mp e).1
  omega
theorem stD_get {S : List (Option Int)} {i : Nat} {d : D} (h : (stD S)[i]? = some d) : ∃ o, S[i]? = some o ∧ d = od o := by
  unfold stD at h
  rw [List.getElem?_map, Option.map_eq_some_iff] at h
  obtain ⟨o, h1, h2⟩ := h
  exact ⟨o, h1, h2.symm⟩
theorem stD_len {S : List (Option Int)} : (stD S).length = S.length := by simp [stD]
/-! ### the drawn fares -/
def vals (ps : List Pc) (n : Nat) (l : List Pc) : List Int := l.map fun q => q.2 + (tb ps n).getD (n + 1 - q.1) 0
theorem tb_s {ps : List Pc} {n : Nat} : tb ps (n + 1) = tb ps n ++ [mnL (vals ps n ps)] := rfl
theorem mx0 {a b : Nat} : mx2 0 ((a : Int) - (b : Int)) = ((a - b : Nat) : Int) := by unfold mx2; split <;> omega
theorem tbD_get {ps : List Pc} {n i : Nat} (h : i ≤ n) : atI ((tb ps n).map D.int) (i : Int) = some (.int ((tb ps n).getD i 0)) := by
  refine atI_nat ?_
  have hl : i < (tb ps n).length := by rw [tb_len]; omega
  rw [List.getElem?_map, List.getElem?_eq_getElem hl, List.getD_eq_getElem?_getD, List.getElem?_eq_getElem hl]; rfl
theorem atI_st {S : List (Option Int)} {i : Nat} {o : Option Int} (h : S[i]? = some o) : atI (stD S) (i : Int) = some (od o) := by
  refine atI_nat ?_
  unfold stD
  rw [List.getElem?_map, h]; rfl
theorem fares_1 {S : List (Option Int)} {N : D} {n i : Nat} {o : Option Int} {cs : List Int} {x5 : MP.B} {M : List D} (h : S[i]? = some o) (hlen : cs.length < 1000) :
    b__law_fares_1 [.shr (.tup (stD S)), .shr N, .own (.lst ((tb (pcs 0 S) n).map .int)), .shr (.int ((n : Int) + 1)), .own (.lst (cs.map .int)), .shr (.int i)] M =
      .next [.shr (.tup (stD S)), .shr N, .own (.lst ((tb (pcs 0 S) n).map .int)), .shr (.int ((n : Int) + 1)), .own (.lst ((cs ++ vals (pcs 0 S) n (one i o)).map .int)), .shr (.int i)] M := by
  cases o with
  | none => simp [b__law_fares_1, atI_st h, od, D.isN, one, vals]
  | some v =>
    have e1 : (n : Int) + 1 - (i : Int) - 1 = (n : Int) - (i : Int) := by omega
    have e2 := tbD_get (ps := pcs 0 S) (n := n) (i := n - i) (by omega)
    have e3 : isLst (cont 4 [.shr (.tup (stD S)), .shr N, .own (.lst ((tb (pcs 0 S) n).map .int)), .shr (.int ((n : Int) + 1)), .own (.lst (cs.map .int)), .shr (.int i)] M) = true := isLst_own rfl
    have e4 : ∀ y, stApp y (.lst (cs.map D.int)) = some (.lst (cs.map D.int ++ [y])) := fun y => stApp_ok (by rw [List.length_map]; omega)
    have e5 := fun y => store_own (env := [.shr (.tup (stD S)), .shr N, .own (.lst ((tb (pcs 0 S) n).map .int)), .shr (.int ((n : Int) + 1)), .own (.lst (cs.map .int)), .shr (.int i)]) (i := 4) (M := M) rfl (e4 y)
    have e6 : n + 1 - (i + 1) = n - i := by omega
    simp [b__law_fares_1, atI_st h, od, e1, e2, mx0, e3, e5, one, vals, e6]
theorem fares_in {S : List (Option Int)} {N : D} {n : Nat} {x5 : MP.B} {M : List D} (hS : S.length ≤ 12) (hx : x5.free) :
    ∃ x6, x6.free ∧ forL (gN 5) b__law_fares_1 (rngD 0 S.length) [.shr (.tup (stD S)), .shr N, .own (.lst ((tb (pcs 0 S) n).map .int)), .shr (.int ((n : Int) + 1)), .own (.lst []), x5] M =
      .next [.shr (.tup (stD S)), .shr N, .own (.lst ((tb (pcs 0 S) n).map .int)), .shr (.int ((n : Int) + 1)), .own (.lst ((vals (pcs 0 S) n (pcs 0 S)).map .int)), x6] M := by
  have key := forL_inv (gd := gN 5) (b := b__law_fares_1) (ds := rngD 0 S.length)
    (fun i env M' => ∃ x6, MP.B.free x6 ∧ env = [.shr (.tup (stD S)), .shr N, .own (.lst ((tb (pcs 0 S) n).map .int)), .shr (.int ((n : Int) + 1)), .own (.lst ((vals (pcs 0 S) n (pcs 0 (S.take i))).map .int)), x6] ∧ M' = M) ?_ (env := [.shr (.tup (stD S)), .shr N, .own (.lst ((tb (pcs 0 S) n).map .int)), .shr (.int ((n : Int) + 1)), .own (.lst []), x5]) (M := M) ⟨x5, hx, rfl, rfl⟩
  · obtain ⟨env2, M2, h1, x6, h2, rfl, rfl⟩ := key
    rw [rngD_len, List.take_length] at h1
    exact ⟨x6, h2, h1⟩
  · rintro i d env M' hd ⟨x6, h6, rfl, rfl⟩
    obtain ⟨hi, rfl⟩ := rngD_of hd
    have hSi := List.getElem?_eq_getElem hi
    rw [show (0 : Int) + (i : Nat) = (i : Nat) by omega]
    refine ⟨_, by rw [gN_eq]; exact gNb_free h6, _, _, fares_1 (x5 := x5) hSi ?_, .shr (.int (i : Nat)), trivial, ?_, rfl⟩
    · show _ < 1000
      (
        unfold vals
        rw [List.length_map]
        have l1 : ∀ (k : Nat) (T : List (Option Int)), (pcs k T).length ≤ T.length := by
          intro k T
          induction T generalizing k with
          | nil => simp [pcs]
          | cons a r ih => cases a <;> simp [pcs] <;> have := ih (k + 1) <;> omega
        have := l1 0 (S.take i)
        rw [List.length_take] at this; omega)
    · rw [pcs_step hSi]; simp [vals]
theorem fares_ok {S : List (Option Int)} {B : Int} (h : Good S B) {N : Nat} (hN : N < 1000) (M : List D) : c__law_fares [.tup (stD S), .int N] M = .ok (.lst ((tb (pcs 0 S) N).map .int)) M := by
  have hp := pcs_ok h
  have e0 : env0 N__law_fares.length [.tup (stD S), .int N] = [.shr (.tup (stD S)), .shr (.int N), .no, .no, .no, .no] := rfl
  unfold c__law_fares
  rw [e0]
  have hr : inR (1 : Int) := by decide
  have hr2 : inR ((N : Int) + 1) := inR_of (by omega) (by omega)
  have hr3 : inR ((stD S).length : Int) := by rw [stD_len]; have := h.len; exact inR_of (by omega) (by omega)
  have hz : ((N : Int) + 1 - 1).toNat = N := by omega
  have key := forL_inv (gd := gN 3) (b := b__law_fares_2) (ds := rngD 1 N)
    (fun i env M' => ∃ x3 x4 x5, MP.B.free x3 ∧ MP.B.free x4 ∧ MP.B.free x5 ∧ env = [.shr (.tup (stD S)), .shr (.int N), .own (.lst ((tb (pcs 0 S) i).map .int)), x3, x4, x5] ∧ M' = M) ?_ (env := [.shr (.tup (stD S)), .shr (.int N), .own (.lst [.int 0]), .no, .no, .no]) (M := M) ⟨.no, .no, .no, trivial, trivial, trivial, rfl, rfl⟩
  · obtain ⟨env2, M2, h1, x3, x4, x5, _, _, _, rfl, rfl⟩ := key
    rw [rngD_len] at h1
    have hsh := bShare_own (i := 2) (env := [.shr (.tup (stD S)), .shr (.int N), .own (.lst ((tb (pcs 0 S) N).map .int)), x3, x4, x5]) (M := M2) rfl
    simp [b__law_fares, hr, hr2, hz, h1, hsh]
  · rintro i d env M' hd ⟨x3, x4, x5, h3, h4, h5, rfl, rfl⟩
    obtain ⟨hi, rfl⟩ := rngD_of hd
    obtain ⟨x6, h6, hf⟩ := fares_in (S := S) (N := .int N) (n := i) (x5 := x5) (M := M') h.len h5
    have hne : vals (pcs 0 S) i (pcs 0 S) ≠ [] := by
      unfold vals; intro e; exact hp.ne (List.map_eq_nil_iff.mp e)
    have e3 : isLst (cont 2 [.shr (.tup (stD S)), .shr (.int N), .own (.lst ((tb (pcs 0 S) i).map .int)), .shr (.int ((i : Int) + 1)), .own (.lst ((vals (pcs 0 S) i (pcs 0 S)).map .int)), x6] M') = true := isLst_own rfl
    have e4 : ∀ y, stApp y (.lst ((tb (pcs 0 S) i).map D.int)) = some (.lst ((tb (pcs 0 S) i).map D.int ++ [y])) := fun y => stApp_ok (by rw [List.length_map, tb_len]; omega)
    have e5 := fun y => store_own (env := [.shr (.tup (stD S)), .shr (.int N), .own (.lst ((tb (pcs 0 S) i).map .int)), .shr (.int ((i : Int) + 1)), .own (.lst ((vals (pcs 0 S) i (pcs 0 S)).map .int)), x6]) (i := 2) (M := M') rfl (e4 y)
    have hS : ((S.length : Nat) : Int).toNat = S.length := by omega
    rw [stD_len] at hr3
    rw [show (1 : Int) + (i : Nat) = (i : Int) + 1 by omega]
    refine ⟨_, by rw [gN_eq]; exact gNb_free h3, [.shr (.tup (stD S)), .shr (.int N), .own (.lst ((tb (pcs 0 S) (i + 1)).map .int)), .shr (.int ((i : Int) + 1)), .own (.lst ((vals (pcs 0 S) i (pcs 0 S)).map .int)), x6], M', ?_, .shr (.int ((i : Int) + 1)), .own (.lst ((vals (pcs 0 S) i (pcs 0 S)).map .int)), x6, trivial, trivial, h6, rfl, rfl⟩
    simp [b__law_fares_2, h4, stD_len, hr3, hf, e3, e5, bMin_ints hne, tb_s]
end K26

set_option maxRecDepth 100000
set_option maxHeartbeats 1000000
namespace K26
open MP PySem L2
theorem eqD_nil0 : eqD (.lst []) (.lst []) = some true := eqD_nil (ns := [])
theorem dw3 (i : Int) : CDivW i 3 := cdiv_s (by decide) (by decide)
theorem stD_app {S : List (Option Int)} {o : Option Int} : stD S ++ [od o] = stD (S ++ [o]) := by simp [stD]
theorem stD_set {S : List (Option Int)} {i : Nat} {o : Option Int} : (stD S).set i (od o) = stD (S.set i o) := by simp [stD, List.map_set]
theorem od_non : D.non = od none := rfl
@[simp] theorem od_n : od none = .non := rfl
@[simp] theorem od_s {v : Int} : od (some v) = .int v := rfl
theorem od_int {v : Int} : D.int v = od (some v) := rfl
theorem oIs_od {o : Option Int} {M : List D} : oIs (od o) .non M = .ok (.bl o.isNone) M := by cases o <;> rfl
theorem oIsnt_od {o : Option Int} {M : List D} : oIsnt (od o) .non M = .ok (.bl o.isSome) M := by cases o <;> rfl
/-- drawn -/
theorem steps_c {M : List D} {n : Nat} {most many : Int} (hj : JarAt M n) (h1 : 0 ≤ most) (h2 : most < 2 ^ 100) (h3 : 0 ≤ many) (h4 : many ≤ 12) {x3 x5 : MP.B} :
    ∃ S M', compL (gN 4) (eC (.bl true)) b__law_steps_1 [.shr (.cel n), .shr (.int most), .shr (.int many), x3, .no, x5] (rngD 0 many.toNat) [] M = .ok (.lst (stD S)) M' ∧ (S.length : Int) = many ∧ (∀ v, some v ∈ S → 0 ≤ v ∧ v ≤ most) ∧ JarAt M' n := by
  obtain ⟨acc, M2, e, S, rfl, hl, hv, hj2⟩ := comp_inv (gd := gN 4) (ft := eC (.bl true)) (fe := b__law_steps_1) (env0 := [.shr (.cel n), .shr (.int most), .shr (.int many), x3, .no, x5]) (ds := rngD 0 many.toNat)
    (fun i acc M => ∃ S, acc = stD S ∧ S.length = i ∧ (∀ v, some v ∈ S → 0 ≤ v ∧ v ≤ most) ∧ JarAt M n)
    (by
      rintro i d acc M hd ⟨S, rfl, hl, hv, hj⟩
      obtain ⟨hi, rfl⟩ := rngD_of hd
      refine ⟨_, by simp; rfl, .inl ?_⟩
      obtain ⟨v, M1, e1, v0, v1, j1⟩ := dip_ok (m := 4) hj (by decide) (by decide)
      have sz : S.length < sizeLine := Nat.lt_trans (show S.length < 1000 by omega) (by decide)
      by_cases hz : v = 0
      · subst hz
        refine ⟨M, .non, M1, rfl, by simp [b__law_steps_1, e1], by rw [stD_len]; exact sz, S ++ [none], by rw [od_non, stD_app], by simp [hl], fun v hv' => ?_, j1⟩
        rcases List.mem_append.mp hv' with z | z
        · exact hv v z
        · simp at z
      · obtain ⟨w, M2, e2, w0, w1, j2⟩ := dip_ok (m := most + 1) j1 (by omega) (by omega)
        refine ⟨M, .int w, M2, rfl, by simp [b__law_steps_1, e1, hz, e2], by rw [stD_len]; exact sz, S ++ [some w], by rw [od_int, stD_app], by simp [hl], fun v hv' => ?_, j2⟩
        rcases List.mem_append.mp hv' with z | z
        · exact hv v z
        · simp at z; subst z; omega)
    (M := M) ⟨[], rfl, rfl, by simp, hj⟩
  rw [rngD_len] at hl
  exact ⟨S, M2, e, by omega, hv, hj2⟩
/-- lifted -/
theorem steps_l {M : List D} {c : D} {most many : Int} {S : List (Option Int)} {x4 x5 : MP.B} (h1 : 0 ≤ most) (h3 : (S.length : Int) = many) (h4 : many ≤ 12) (hv : ∀ v, some v ∈ S → 0 ≤ v ∧ v ≤ most) (hx4 : x4.free) :
    ∃ S' x4', MP.B.free x4' ∧ forL (gN 4) b__law_steps_2 (rngD 0 many.toNat) [.shr c, .shr (.int most), .shr (.int many), .own (.lst (stD S)), x4, x5] M = .next [.shr c, .shr (.int most), .shr (.int many), .own (.lst (stD S')), x4', x5] M ∧
      (S'.length : Int) = many ∧ ∀ v, some v ∈ S' → 0 ≤ v ∧ v ≤ 5 * most := by
  obtain ⟨env2, M2, e, S', x4', rfl, hx, hl, hb, rfl⟩ := forL_inv (gd := gN 4) (b := b__law_steps_2) (ds := rngD 0 many.toNat)
    (fun i env M' => ∃ S' x4', env = [.shr c, .shr (.int most), .shr (.int many), .own (.lst (stD S')), x4', x5] ∧ MP.B.free x4' ∧ (S'.length : Int) = many ∧ (∀ (j : Nat) v, S'[j]? = some (some v) → 0 ≤ v ∧ v ≤ (if j < i then 5 * most else most)) ∧ M' = M)
    (by
      rintro i d env M' hd ⟨S', x4', rfl, hx, hl, hb, rfl⟩
      obtain ⟨hi, rfl⟩ := rngD_of hd
      have hi' : i < S'.length := by omega
      have hg := List.getElem?_eq_getElem hi'
      rw [show (0 : Int) + (i : Nat) = (i : Nat) by omega]
      refine ⟨_, by rw [gN_eq]; exact gNb_free hx, ?_⟩
      have hS := atI_st hg
      have st : ∀ o : Option Int, stSub (.int (i : Nat)) (od o) (.lst (stD S')) = some (.lst (stD (S'.set i o))) := fun o => by
        show (match ixN (stD S').length (i : Nat) with | some j => some (D.lst ((stD S').set j (od o))) | none => none) = _
        rw [stD_len, ixN_nat hi']
        show some (D.lst ((stD S').set i (od o))) = _
        rw [stD_set]
      have so := fun o => store_own (M := M') (env := [.shr c, .shr (.int most), .shr (.int many), .own (.lst (stD S')), .shr (.int i), x5]) (i := 3) rfl (st o)
      have hh : has 3 [.shr c, .shr (.int most), .shr (.int many), .own (.lst (stD S')), .shr (.int i), x5] = true := rfl
      cases ho : S'[i] with
      | none =>
        rw [ho] at hS
        refine ⟨[.shr c, .shr (.int most), .shr (.int many), .own (.lst (stD (S'.set i none))), .shr (.int i), x5], M', ?_, _, _, rfl, trivial, by simp [hl], fun j v hj => ?_, rfl⟩
        · have hS2 : atI (stD S') (i : Int) = some .non := hS
          have s2 := so none
          simp only [od_n] at s2
          simp [b__law_steps_2, hS2, hh, s2]
        · by_cases e : i = j
          · subst e; rw [List.getElem?_set_self hi'] at hj; cases hj
          · rw [List.getElem?_set_ne e] at hj
            have := hb j v hj
            split at this <;> split <;> omega
      | some v =>
        rw [ho] at hS hg
        have hbv := hb i v hg
        rw [if_neg (by omega)] at hbv
        have cm : CMulB most ((i : Int) + 1) := cmul_r (by omega)
        refine ⟨[.shr c, .shr (.int most), .shr (.int many), .own (.lst (stD (S'.set i (some (v + most * ((i : Int) + 1) / 3))))), .shr (.int i), x5], M', ?_, _, _, rfl, trivial, by simp [hl], fun j w hj => ?_, rfl⟩
        · have hS2 : atI (stD S') (i : Int) = some (.int v) := hS
          have s2 := so (some (v + most * ((i : Int) + 1) / 3))
          simp only [od_s] at s2
          simp [b__law_steps_2, hS2, hh, D.isN, cm, dw3, s2]
        ·
          have key : 0 ≤ most * ((i : Int) + 1) / 3 ∧ most * ((i : Int) + 1) / 3 ≤ 4 * most := by
            have a1 : 0 ≤ most * ((i : Int) + 1) := Int.mul_nonneg h1 (by omega)
            have a2 : most * ((i : Int) + 1) ≤ most * 12 := Int.mul_le_mul_of_nonneg_left (by omega) h1
            omega
          by_cases e : i = j
          · subst e
            rw [List.getElem?_set_self hi'] at hj
            cases hj
            rw [if_pos (by omega)]; omega
          · rw [List.getElem?_set_ne e] at hj
            have := hb j w hj
            split at this <;> split <;> omega)
    (env := [.shr c, .shr (.int most), .shr (.int many), .own (.lst (stD S)), x4, x5]) (M := M) ⟨S, x4, rfl, hx4, h3, fun j v hj => by rw [if_neg (by omega)]; exact hv v (List.mem_of_getElem? hj), rfl⟩
  refine ⟨S', x4', hx, e, hl, fun v hv' => ?_⟩
  obtain ⟨j, hj, e2⟩ := List.mem_iff_getElem.mp hv'
  have := hb j v (by rw [List.getElem?_eq_getElem hj, e2])
  split at this <;> omega
/-- what is a price -/
theorem steps_f {M : List D} {env : EnvM} {S : List (Option Int)} (hl : S.length ≤ 12) (h5 : env[5]? = some .no) : compL (gN 5) b__law_steps_4 b__law_steps_3 env (stD S) [] M = .ok (.lst ((S.filterMap id).map .int)) M := by
  have h5' : 5 < env.length := (List.getElem?_eq_some_iff.mp h5).1
  obtain ⟨acc, M2, e, rfl, rfl⟩ := comp_inv (gd := gN 5) (ft := b__law_steps_4) (fe := b__law_steps_3) (env0 := env) (ds := stD S)
    (fun i acc M' => acc = ((S.take i).filterMap id).map D.int ∧ M' = M)
    (by
      rintro i d acc M' hd ⟨rfl, rfl⟩
      obtain ⟨o, ho, rfl⟩ := stD_get hd
      refine ⟨_, by rw [gN_eq, h5]; rfl, ?_⟩
      have e1 : (env.set 5 (.shr (od o)))[5]? = some (.shr (od o)) := by simp [h5']
      have et : S.take (i + 1) = S.take i ++ [o] := by rw [List.take_succ, ho]; rfl
      cases o with
      | none =>
        simp only [od_n] at e1 ⊢
        exact .inr ⟨M', by simp [b__law_steps_4, e1], by simp [et], rfl⟩
      | some v =>
        simp only [od_s] at e1 ⊢
        refine .inl ⟨M', .int v, M', by simp [b__law_steps_4, e1], by simp [b__law_steps_3, e1], ?_, by simp [et], rfl⟩
        have : ((S.take i).filterMap id).length ≤ S.length := Nat.le_trans (List.length_filterMap_le _ _) (by rw [List.length_take]; omega)
        rw [List.length_map]
        exact Nat.lt_trans (show _ < 1000 by omega) (by decide))
    (M := M) ⟨by simp, rfl⟩
  rw [stD_len, List.take_length] at e
  exact e
theorem steps_ok {M : List D} {n : Nat} {most : Int} (hj : JarAt M n) (h1 : 0 ≤ most) (h2 : most ≤ 100000000000) :
    ∃ S M', c__law_steps [.cel n, .int most] M = .ok (.tup (stD S)) M' ∧ Good S 1000000000000 ∧ JarAt M' n := by
  have e0 : env0 N__law_steps.length [.cel n, .int most] = [.shr (.cel n), .shr (.int most), .no, .no, .no, .no] := rfl
  unfold c__law_steps
  rw [e0]
  obtain ⟨a, M1, ea, a0, a1, j1⟩ := dip_ok (m := 12) hj (by decide) (by decide)
  obtain ⟨S1, M2, ec, l2, v2, j2⟩ := steps_c (many := 1 + a) j1 h1 (by omega) (by omega) (by omega) (x3 := .no) (x5 := .no)
  have ir : inR (1 + a) := inR_of (by omega) (by omega)
  obtain ⟨b, M3, eb, b0, b1, j3⟩ := dip_ok (m := 2) j2 (by decide) (by decide)
  -- lifted or not
  have mid : ∃ S2 x4, MP.B.free x4 ∧ (bIf (MP.e2 oEq (eCall (apC c__law_dip 2 []) (lCons (eV 0) (lCons (eC (.int 2)) lNil))) (eC (.int 0))) (bFor (iRng1 (eV 2)) (gN 4) b__law_steps_2) bNext) [.shr (.cel n), .shr (.int most), .shr (.int (1 + a)), .own (.lst (stD S1)), .no, .no] M2 =
      .next [.shr (.cel n), .shr (.int most), .shr (.int (1 + a)), .own (.lst (stD S2)), x4, .no] M3 ∧ (S2.length : Int) = 1 + a ∧ ∀ v, some v ∈ S2 → 0 ≤ v ∧ v ≤ 5 * most := by
    by_cases hb : b = 0
    · subst hb
      obtain ⟨S2, x4, f4, e4, l4, v4⟩ := steps_l (M := M3) (c := .cel n) (most := most) (many := 1 + a) (S := S1) (x4 := .no) (x5 := .no) h1 l2 (by omega) v2 trivial
      exact ⟨S2, x4, f4, by simp [eb, ir, e4], l4, v4⟩
    · exact ⟨S1, .no, trivial, by simp [eb, hb], l2, fun v hv => by have := v2 v hv; omega⟩
  obtain ⟨S2, x4, f4, em, l4, v4⟩ := mid
  have ef := steps_f (M := M3) (S := S2) (env := [.shr (.cel n), .shr (.int most), .shr (.int (1 + a)), .own (.lst (stD S2)), x4, .no]) (by omega) rfl
  by_cases hz : (S2.filterMap id).isEmpty = true
  · obtain ⟨w, M4, ew, w0, w1, j4⟩ := dip_ok (m := most + 1) j3 (by omega) (by omega)
    obtain ⟨k, M5, ek, k0, k1, j5⟩ := dip_ok (m := 1 + a) j4 (by omega) (by omega)
    obtain ⟨i, rfl⟩ : ∃ i : Nat, k = (i : Int) := ⟨k.toNat, by omega⟩
    have hi' : i < S2.length := by omega
    have st : stSub (.int (i : Nat)) (.int w) (.lst (stD S2)) = some (.lst (stD (S2.set i (some w)))) := by
      show (match ixN (stD S2).length (i : Nat) with | some j => some (D.lst ((stD S2).set j (.int w))) | none => none) = _
      rw [stD_len, ixN_nat hi']
      show some (D.lst ((stD S2).set i (od (some w)))) = _
      rw [stD_set]
    have so := store_own (M := M5) (env := [.shr (.cel n), .shr (.int most), .shr (.int (1 + a)), .own (.lst (stD S2)), x4, .no]) (i := 3) rfl st
    have hh : has 3 [.shr (.cel n), .shr (.int most), .shr (.int (1 + a)), .own (.lst (stD S2)), x4, .no] = true := rfl
    refine ⟨S2.set i (some w), M5, ?_, ⟨by simp; omega, by simp; omega, fun v hv => ?_, ⟨w, ?_⟩⟩, j5⟩
    · have hz2 : S2.filterMap id = [] := List.isEmpty_iff.mp hz
      have q0 : (D.lst ((S2.filterMap id).map D.int)) = .lst ([].map D.int) := by rw [hz2]
      rw [q0] at ef
      simp [b__law_steps, -bIf_eq, ea, ec, ir]
      rw [em]
      simp [ef, oEq, view, eqD_nil0, ew, ek, hh, so]
    · rcases List.mem_or_eq_of_mem_set hv with z | z
      · have := v4 v z; omega
      · cases z; omega
    · exact List.mem_iff_getElem.mpr ⟨i, by simp; exact hi', by simp⟩
  · refine ⟨S2, M3, ?_, ⟨by omega, by omega, fun v hv => by have := v4 v hv; omega, ?_⟩, j3⟩
    · have hz2 : (S2.filterMap id).isEmpty = false := by simpa using hz
      simp [b__law_steps, -bIf_eq, ea, ec, ir]
      rw [em]
      simp [ef, oEq_nil, hz2]
    · cases hq : S2.filterMap id with
      | nil => rw [hq] at hz; exact absurd rfl hz
      | cons v r =>
        have : v ∈ S2.filterMap id := by rw [hq]; simp
        obtain ⟨o, ho, e⟩ := List.mem_filterMap.mp this
        have e : o = some v := e
        subst e
        exact ⟨v, ho⟩
end K26

set_option maxRecDepth 100000
set_option maxHeartbeats 1000000
namespace K26
open MP PySem L2
@[simp] theorem atI2_0 {a b : D} : atI [a, b] 0 = some a := rfl
@[simp] theorem atI2_1 {a b : D} : atI [a, b] 1 = some b := rfl
def pD (q : Pc) : D := .tup [.int q.1, .int q.2]
theorem integer_ok {v : Int} {M : List D} : c_is_integer [.int v] M = .ok (.bl true) M := rfl
theorem within_ok {v lo hi : Int} {M : List D} (h1 : lo ≤ v) (h2 : v ≤ hi) : c_is_within [.int v, .int lo, .int hi] M = .ok (.bl true) M := by
  have e0 : env0 N_is_within.length [.int v, .int lo, .int hi] = [.shr (.int v), .shr (.int lo), .shr (.int hi)] := rfl
  unfold c_is_within
  rw [e0]
  simp [b_is_within, integer_ok, h1, h2]
theorem price_ok {v : Int} {M : List D} (h1 : 0 ≤ v) (h2 : v ≤ 1000000000000) : c_is_price [.int v] M = .ok (.bl true) M := by
  have e0 : env0 N_is_price.length [.int v] = [.shr (.int v)] := rfl
  unfold c_is_price
  rw [e0]
  simp [b_is_price, within_ok h1 h2]
theorem enum_of {S : List (Option Int)} {i : Nat} {d : D} (h : (enumD (stD S))[i]? = some d) : ∃ o, S[i]? = some o ∧ d = .tup [.int (i : Nat), od o] := by
  have hl : i < (stD S).length := by
    have := (List.getElem?_eq_some_iff.mp h).1
    rwa [enum_len] at this
  have e := enum_get (List.getElem?_eq_getElem hl)
  rw [h] at e
  obtain ⟨o, ho, e2⟩ := stD_get (List.getElem?_eq_getElem hl)
  exact ⟨o, ho, by rw [← e2]; exact Option.some.inj e⟩
theorem enumS_len {S : List (Option Int)} : (enumD (stD S)).length = S.length := by rw [enum_len, stD_len]
theorem check_ok {S : List (Option Int)} (h : Good S 1000000000000) (M : List D) : c_check_tariff_prices [.tup (stD S)] M = .ok .non M := by
  have e0 : env0 N_check_tariff_prices.length [.tup (stD S)] = [.shr (.tup (stD S)), .no, .no] := rfl
  unfold c_check_tariff_prices
  rw [e0]
  obtain ⟨env2, M2, e1, x1, x2, f1, f2, rfl, rfl⟩ := forL_inv (gd := gT [1, 2]) (b := b_check_tariff_prices_1) (ds := enumD (stD S))
    (fun i env M' => ∃ x1 x2, MP.B.free x1 ∧ MP.B.free x2 ∧ env = [.shr (.tup (stD S)), x1, x2] ∧ M' = M)
    (by
      rintro i d env M' hd ⟨x1, x2, f1, f2, rfl, rfl⟩
      obtain ⟨o, ho, rfl⟩ := enum_of hd
      refine ⟨[.shr (.tup (stD S)), .shr (.int i), .shr (od o)], by simp [f1, f2], [.shr (.tup (stD S)), .shr (.int i), .shr (od o)], M', ?_, .shr (.int i), .shr (od o), trivial, trivial, rfl, rfl⟩
      cases o with
      | none => simp [b_check_tariff_prices_1]
      | some v =>
        have := h.nn v (List.mem_of_getElem? ho)
        simp [b_check_tariff_prices_1, price_ok this.1 this.2])
    (env := [.shr (.tup (stD S)), .no, .no]) (M := M) ⟨.no, .no, trivial, trivial, rfl, rfl⟩
  obtain ⟨acc, M3, e2, rfl, rfl⟩ := comp_inv (gd := gN 2) (ft := eC (.bl true)) (fe := b_check_tariff_prices_2) (env0 := [.shr (.tup (stD S)), x1, .no]) (ds := stD S)
    (fun i acc M' => acc = ((S.take i).map Option.isNone).map D.bl ∧ M' = M2)
    (by
      rintro i d acc M' hd ⟨rfl, rfl⟩
      obtain ⟨o, ho, rfl⟩ := stD_get hd
      have et : S.take (i + 1) = S.take i ++ [o] := by rw [List.take_succ, ho]; rfl
      refine ⟨[.shr (.tup (stD S)), x1, .shr (od o)], by simp, .inl ⟨M', .bl o.isNone, M', rfl, ?_, ?_, by simp [et], rfl⟩⟩
      · cases o <;> simp [b_check_tariff_prices_2]
      · have := h.len
        simp only [List.length_map, List.length_take]
        exact Nat.lt_trans (show _ < 1000 by omega) (by decide))
    (M := M2) ⟨rfl, rfl⟩
  rw [stD_len, List.take_length] at e2
  have hall : (S.map Option.isNone).all id = false := by
    obtain ⟨v, hv⟩ := h.some_
    rw [List.all_eq_false]
    exact ⟨false, List.mem_map.mpr ⟨some v, hv, rfl⟩, by simp⟩
  have l1 : (1 : Int) ≤ (stD S).length := by rw [stD_len]; have := h.len1; omega
  have l2 : ((stD S).length : Int) ≤ 12 := by rw [stD_len]; have := h.len; omega
  have ba := bAll_bools (ns := S.map Option.isNone) (M := M3)
  rw [hall] at ba
  have t1 : isT "tuple" [] (.tup (stD S)) = some true := rfl
  simp [b_check_tariff_prices, t1, l1, l2, e1, e2, ba, -List.map_map]
/-- the tariff -/
def tar (S : List (Option Int)) : D := .ins "Tariff" [("row", .tup (stD S)), ("pieces", .lst ((pcs 0 S).map pD))]
theorem init_ok {S : List (Option Int)} (h : Good S 1000000000000) (M : List D) : c_Tariff___init__ [.tup (stD S)] M = .ok (tar S) M := by
  have e0 : env0I N_Tariff___init__.length "Tariff" [.tup (stD S)] = [.slf (.ins "Tariff" []), .shr (.tup (stD S)), .no, .no] := rfl
  unfold c_Tariff___init__
  rw [e0]
  obtain ⟨acc, M3, e2, rfl, rfl⟩ := comp_inv (gd := gT [2, 3]) (ft := b_Tariff___init___2) (fe := b_Tariff___init___1) (env0 := [.slf (.ins "Tariff" [("row", .tup (stD S))]), .shr (.tup (stD S)), .no, .no]) (ds := enumD (stD S))
    (fun i acc M' => acc = (pcs 0 (S.take i)).map pD ∧ M' = M)
    (by
      rintro i d acc M' hd ⟨rfl, rfl⟩
      obtain ⟨o, ho, rfl⟩ := enum_of hd
      refine ⟨[.slf (.ins "Tariff" [("row", .tup (stD S))]), .shr (.tup (stD S)), .shr (.int i), .shr (od o)], by simp, ?_⟩
      cases o with
      | none => exact .inr ⟨M', by simp [b_Tariff___init___2], by rw [pcs_step ho]; simp [one], rfl⟩
      | some v =>
        refine .inl ⟨M', pD (i + 1, v), M', by simp [b_Tariff___init___2], by simp [b_Tariff___init___1, pD], ?_, by rw [pcs_step ho]; simp [one], rfl⟩
        have l1 : ∀ (k : Nat) (T : List (Option Int)), (pcs k T).length ≤ T.length := by
          intro k T
          induction T generalizing k with
          | nil => simp [pcs]
          | cons a r ih => cases a <;> simp [pcs] <;> have := ih (k + 1) <;> omega
        have := l1 0 (S.take i)
        have := h.len
        rw [List.length_take] at *
        rw [List.length_map]
        exact Nat.lt_trans (show _ < 1000 by omega) (by decide))
    (M := M) ⟨rfl, rfl⟩
  rw [enumS_len, List.take_length] at e2
  have s1 := store_slf (M := M3) (env := [.slf (.ins "Tariff" []), .shr (.tup (stD S)), .no, .no]) (i := 0) (u := stFld "Tariff" "row" (.tup (stD S))) (d' := .ins "Tariff" [("row", .tup (stD S))]) rfl rfl
  have s2 := store_slf (M := M3) (env := [.slf (.ins "Tariff" [("row", .tup (stD S))]), .shr (.tup (stD S)), .no, .no]) (i := 0) (u := stFld "Tariff" "pieces" (.lst ((pcs 0 S).map pD))) (d' := tar S) rfl rfl
  simp [b_Tariff___init__, check_ok h, s1, e2, s2, endI]
/-! ### the best piece -/
def bq (q : Pc) : List Pc → Pc
  | [] => q
  | r :: rs => bq (if r.2 * (q.1 : Int) < q.2 * (r.1 : Int) then r else q) rs
theorem bq_mem : ∀ {l : List Pc} {q : Pc}, bq q l ∈ q :: l
  | [], q => by simp [bq]
  | r :: rs, q => by
    unfold bq
    have := bq_mem (l := rs) (q := if r.2 * (q.1 : Int) < q.2 * (r.1 : Int) then r else q)
    rcases List.mem_cons.mp this with e | e
    · rw [e]; split <;> simp
    · simp [e]
theorem rate_tr {a b c : Pc} (hb : 1 ≤ b.1) (h1 : a.2 * (b.1 : Int) ≤ b.2 * (a.1 : Int)) (h2 : b.2 * (c.1 : Int) ≤ c.2 * (b.1 : Int)) : a.2 * (c.1 : Int) ≤ c.2 * (a.1 : Int) := by
  have h3 : (a.2 * (b.1 : Int)) * (c.1 : Int) ≤ (b.2 * (a.1 : Int)) * (c.1 : Int) := Int.mul_le_mul_of_nonneg_right h1 (by omega)
  have h4 : (b.2 * (c.1 : Int)) * (a.1 : Int) ≤ (c.2 * (b.1 : Int)) * (a.1 : Int) := Int.mul_le_mul_of_nonneg_right h2 (by omega)
  have e1 : (b.2 * (a.1 : Int)) * (c.1 : Int) = (b.2 * (c.1 : Int)) * (a.1 : Int) := by rw [Int.mul_assoc, Int.mul_comm (a.1 : Int), ← Int.mul_assoc]
  have e2 : (a.2 * (b.1 : Int)) * (c.1 : Int) = (a.2 * (c.1 : Int)) * (b.1 : Int) := by rw [Int.mul_assoc, Int.mul_comm (b.1 : Int), ← Int.mul_assoc]
  have e3 : (c.2 * (b.1 : Int)) * (a.1 : Int) = (c.2 * (a.1 : Int)) * (b.1 : Int) := by rw [Int.mul_assoc, Int.mul_comm (b.1 : Int), ← Int.mul_assoc]
  have h5 : (a.2 * (c.1 : Int)) * (b.1 : Int) ≤ (c.2 * (a.1 : Int)) * (b.1 : Int) := by omega
  exact Int.le_of_mul_le_mul_right h5 (by omega)
theorem bq_best : ∀ {l : List Pc} {q : Pc}, (∀ r ∈ q :: l, 1 ≤ r.1) → ∀ r ∈ q :: l, (bq q l).2 * (r.1 : Int) ≤ r.2 * ((bq q l).1 : Int)
  | [], q, h, r, hr => by simp at hr; subst hr; exact Int.le_refl _
  | s :: rs, q, h, r, hr => by
    unfold bq
    have hq := h q (by simp)
    have hs := h s (by simp)
    by_cases c : s.2 * (q.1 : Int) < q.2 * (s.1 : Int)
    · rw [if_pos c]
      have ih := bq_best (l := rs) (q := s) fun x hx => h x (List.mem_cons_of_mem _ hx)
      rcases List.mem_cons.mp hr with rfl | hr
      · exact rate_tr hs (ih s (by simp)) (by omega)
      · exact ih r hr
    · rw [if_neg c]
      have ih := bq_best (l := rs) (q := q) fun x hx => h x (by
        rcases List.mem_cons.mp hx with rfl | hx
        · simp
        · simp [hx])
      rcases List.mem_cons.mp hr with rfl | hr
      · exact ih r (by simp)
      · rcases List.mem_cons.mp hr with rfl | hr
        · exact rate_tr hq (ih q (by simp)) (by omega)
        · exact ih r (by simp [hr])
theorem best_l {P : D} {M : List D} : ∀ (l : List Pc) (q : Pc) (x2 : MP.B), (∀ r ∈ q :: l, r.1 ≤ 12) → x2.free → ∃ x2', MP.B.free x2' ∧ forL (gN 2) b_best_of_1 (l.map pD) [.shr P, .shr (pD q), x2] M = .next [.shr P, .shr (pD (bq q l)), x2'] M
  | [], q, x2, _, hx => ⟨x2, hx, rfl⟩
  | r :: rs, q, x2, h, hx => by
    have hq := h q (by simp)
    have hr := h r (by simp)
    have step : b_best_of_1 [.shr P, .shr (pD q), .shr (pD r)] M = .next [.shr P, .shr (pD (if r.2 * (q.1 : Int) < q.2 * (r.1 : Int) then r else q)), .shr (pD r)] M := by
      have c1 : ∀ i, CMulB i (q.1 : Int) := fun i => cmul_r (by omega)
      have c2 : ∀ i, CMulB i (r.1 : Int) := fun i => cmul_r (by omega)
      by_cases c : r.2 * (q.1 : Int) < q.2 * (r.1 : Int)
      · rw [if_pos c]; simp [b_best_of_1, pD, c1, c2, c]
      · rw [if_neg c]; simp [b_best_of_1, pD, c1, c2, c]
    obtain ⟨x2', hx', e⟩ := best_l (P := P) (M := M) rs (if r.2 * (q.1 : Int) < q.2 * (r.1 : Int) then r else q) (.shr (pD r)) (fun y hy => by
      rcases List.mem_cons.mp hy with rfl | hy
      · split <;> assumption
      · exact h y (by simp [hy])) trivial
    refine ⟨x2', hx', ?_⟩
    rw [List.map_cons, forL_cons (env1 := [.shr P, .shr (pD q), .shr (pD r)]) (by simp [hx]), step]
    exact e
theorem bestof_ok {ps : List Pc} (h : Pcs ps) (h12 : ∀ q ∈ ps, q.1 ≤ 12) : ∃ b p, Best ps b p ∧ ∀ M, c_best_of [.lst (ps.map pD)] M = .ok (.int (b : Nat)) M := by
  cases ps with
  | nil => exact absurd rfl h.ne
  | cons q l =>
    refine ⟨(bq q (q :: l)).1, (bq q (q :: l)).2, ⟨?_, fun r hr => ?_⟩, fun M => ?_⟩
    · have := bq_mem (l := q :: l) (q := q)
      simpa using this
    · exact bq_best (l := q :: l) (q := q) (fun x hx => h.pos x (by simpa using hx)) r (by simp [hr])
    · have e0 : env0 N_best_of.length [.lst ((q :: l).map pD)] = [.shr (.lst ((q :: l).map pD)), .no, .no] := rfl
      unfold c_best_of
      rw [e0]
      obtain ⟨x2', _, e⟩ := best_l (P := .lst ((q :: l).map pD)) (M := M) (q :: l) q .no (fun r hr => h12 r (by simpa using hr)) trivial
      have a0 : atI ((q :: l).map pD) 0 = some (pD q) := atI_nat (j := 0) rfl
      have a1 : ∀ z : Pc, oIx (pD z) (.int 0) M = .ok (.int z.1) M := fun z => rfl
      simp [b_best_of, a0, e, a1, -List.map_cons]
end K26

set_option maxRecDepth 100000
set_option maxHeartbeats 1000000
namespace K26
open MP PySem L2
theorem lk_p {S : List (Option Int)} {M : List D} : fldR "Tariff" "pieces" (tar S) M = .ok (.lst ((pcs 0 S).map pD)) M := fldR_ins rfl
theorem lk_r {S : List (Option Int)} {M : List D} : fldR "Tariff" "row" (tar S) M = .ok (.tup (stD S)) M := fldR_ins rfl
section
variable {S : List (Option Int)} {b : Nat} {p : Int} (hg : Good S 1000000000000) (hb : Best (pcs 0 S) b p) (hc : ∀ M, c_best_of [.lst ((pcs 0 S).map pD)] M = .ok (.int (b : Nat)) M)
include hg hb hc
theorem b_le : 1 ≤ b ∧ b ≤ 12 := ⟨(pcs_ok hg).pos _ hb.mem, by have := pcs_len hb.mem; have := hg.len; simp only at *; omega⟩
theorem best_ok (M : List D) : c_Tariff_best [tar S] M = .ok (.int (b : Nat)) M := by
  have e0 : env0 N_Tariff_best.length [tar S] = [.shr (tar S)] := rfl
  unfold c_Tariff_best
  rw [e0]
  simp [b_Tariff_best, lk_p, hc]
theorem bestp (M : List D) : propR "Tariff" c_Tariff_best (tar S) M = .ok (.int (b : Nat)) M := propR_ins (best_ok hg hb hc M)
theorem turning_ok (M : List D) : c_Tariff_turning [tar S] M = .ok (.int (((b - 1) * S.length : Nat))) M := by
  have e0 : env0 N_Tariff_turning.length [tar S] = [.shr (tar S)] := rfl
  have hb2 := b_le hg hb hc
  unfold c_Tariff_turning
  rw [e0]
  have cm : CMulB ((b : Int) - 1) (S.length : Int) := cmul_l (by omega)
  have e : ((b : Int) - 1) * (S.length : Int) = (((b - 1) * S.length : Nat) : Int) := by
    push_cast
    rw [show ((b - 1 : Nat) : Int) = (b : Int) - 1 by omega]
  simp [b_Tariff_turning, bestp hg hb hc, lk_r, stD_len, cm, e]
omit hg hb hc in
theorem exN_app {l r : List Pc} {t : List (Option Int)} {n : Nat} : exN (l ++ r) t n = exN l t n ++ exN r t n := by simp [exN]
omit hg hb hc in
theorem exD_get {ps : List Pc} {n i : Nat} (h : i ≤ n) : atI ((ex ps n).map od) (i : Int) = some (od ((ex ps n).getD i none)) := by
  refine atI_nat ?_
  have hl : i < (ex ps n).length := by rw [ex_len]; omega
  rw [List.getElem?_map, List.getElem?_eq_getElem hl, List.getD_eq_getElem?_getD, List.getElem?_eq_getElem hl]; rfl
omit hb hc in
theorem sums_c {n : Nat} (T : D) (M : List D) : compL (gT [4, 5]) b_Tariff_sums_2 b_Tariff_sums_1 [.shr T, .own (.lst ((ex (pcs 0 S) n).map od)), .shr (.int ((n : Int) + 1)), x3, .no, .no] ((pcs 0 S).map pD) [] M = .ok (.lst ((exN (pcs 0 S) (ex (pcs 0 S) n) (n + 1)).map .int)) M := by
  have hp := pcs_ok hg
  obtain ⟨acc, M3, e2, rfl, rfl⟩ := comp_inv (gd := gT [4, 5]) (ft := b_Tariff_sums_2) (fe := b_Tariff_sums_1) (env0 := [.shr T, .own (.lst ((ex (pcs 0 S) n).map od)), .shr (.int ((n : Int) + 1)), x3, .no, .no]) (ds := (pcs 0 S).map pD)
    (fun i acc M' => acc = (exN ((pcs 0 S).take i) (ex (pcs 0 S) n) (n + 1)).map D.int ∧ M' = M)
    (by
      rintro i d acc M' hd ⟨rfl, rfl⟩
      rw [List.getElem?_map, Option.map_eq_some_iff] at hd
      obtain ⟨q, hq, rfl⟩ := hd
      have hqm := List.mem_of_getElem? hq
      have hq1 := hp.pos q hqm
      have et : (pcs 0 S).take (i + 1) = (pcs 0 S).take i ++ [q] := by rw [List.take_succ, hq]; rfl
      refine ⟨[.shr T, .own (.lst ((ex (pcs 0 S) n).map od)), .shr (.int ((n : Int) + 1)), x3, .shr (.int q.1), .shr (.int q.2)], by simp [pD], ?_⟩
      rw [et, exN_app]
      by_cases hle : q.1 ≤ n + 1
      · have i1 : (n : Int) + 1 - (q.1 : Int) = ((n + 1 - q.1 : Nat) : Int) := by omega
        have a1 := exD_get (ps := pcs 0 S) (n := n) (i := n + 1 - q.1) (by omega)
        have le : (q.1 : Int) ≤ (n : Int) + 1 := by omega
        cases hv : (ex (pcs 0 S) n).getD (n + 1 - q.1) none with
        | none =>
          rw [hv] at a1
          have a1' : atI ((ex (pcs 0 S) n).map od) ((n + 1 - q.1 : Nat) : Int) = some .non := a1
          have z : exN [q] (ex (pcs 0 S) n) (n + 1) = [] := by simp only [exN, List.filterMap_cons, List.filterMap_nil]; rw [if_pos hle, hv]; rfl
          exact .inr ⟨M', by simp [b_Tariff_sums_2, le, i1, a1'], by rw [z]; simp, rfl⟩
        | some v =>
          rw [hv] at a1
          have a1' : atI ((ex (pcs 0 S) n).map od) ((n + 1 - q.1 : Nat) : Int) = some (.int v) := a1
          have z : exN [q] (ex (pcs 0 S) n) (n + 1) = [v + q.2] := by simp only [exN, List.filterMap_cons, List.filterMap_nil]; rw [if_pos hle, hv]; rfl
          refine .inl ⟨M', .int (v + q.2), M', by simp [b_Tariff_sums_2, le, i1, a1'], by simp [b_Tariff_sums_1, i1, a1'], ?_, by rw [z]; simp, rfl⟩
          have : (exN ((pcs 0 S).take i) (ex (pcs 0 S) n) (n + 1)).length ≤ 12 := by
            have l1 : ∀ (k : Nat) (T : List (Option Int)), (pcs k T).length ≤ T.length := by
              intro k T
              induction T generalizing k with
              | nil => simp [pcs]
              | cons a r ih => cases a <;> simp [pcs] <;> have := ih (k + 1) <;> omega
            have h1 := l1 0 S
            have h2 : (exN ((pcs 0 S).take i) (ex (pcs 0 S) n) (n + 1)).length ≤ ((pcs 0 S).take i).length := List.length_filterMap_le _ _
            have h3 := hg.len
            rw [List.length_take] at h2
            omega
          rw [List.length_map]
          exact Nat.lt_trans (show _ < 1000 by omega) (by decide)
      · have le : ¬ (q.1 : Int) ≤ (n : Int) + 1 := by omega
        have z : exN [q] (ex (pcs 0 S) n) (n + 1) = [] := by simp only [exN, List.filterMap_cons, List.filterMap_nil]; rw [if_neg hle]
        exact .inr ⟨M', by simp [b_Tariff_sums_2, le], by rw [z]; simp, rfl⟩)
    (M := M) ⟨rfl, rfl⟩
  rw [List.length_map, List.take_length] at e2
  exact e2
theorem sums_ok (M : List D) : c_Tariff_sums [tar S] M = .ok (.lst ((ex (pcs 0 S) ((b - 1) * S.length)).map od)) M := by
  have e0 : env0 N_Tariff_sums.length [tar S] = [.shr (tar S), .no, .no, .no, .no, .no] := rfl
  have hb2 := b_le hg hb hc
  have hT : (b - 1) * S.length ≤ 11 * 12 := Nat.mul_le_mul (by omega) hg.len
  unfold c_Tariff_sums
  rw [e0]
  obtain ⟨env2, M2, e1, x2, x3, f2, f3, rfl, rfl⟩ := forL_inv (gd := gN 2) (b := b_Tariff_sums_3) (ds := rngD 1 ((b - 1) * S.length))
    (fun i env M' => ∃ x2 x3, MP.B.free x2 ∧ MP.B.free x3 ∧ env = [.shr (tar S), .own (.lst ((ex (pcs 0 S) i).map od)), x2, x3, .no, .no] ∧ M' = M)
    (by
      rintro i d env M' hd ⟨x2, x3, f2, f3, rfl, rfl⟩
      obtain ⟨hi, rfl⟩ := rngD_of hd
      rw [show (1 : Int) + (i : Nat) = (i : Int) + 1 by omega]
      refine ⟨[.shr (tar S), .own (.lst ((ex (pcs 0 S) i).map od)), .shr (.int ((i : Int) + 1)), x3, .no, .no], by simp [f2], ?_⟩
      have ec := sums_c hg (n := i) (x3 := x3) (tar S) M'
      obtain ⟨cs, hcs⟩ : ∃ cs, cs = exN (pcs 0 S) (ex (pcs 0 S) i) (i + 1) := ⟨_, rfl⟩
      rw [← hcs] at ec
      have e4 : ∀ y, stApp y (.lst ((ex (pcs 0 S) i).map od)) = some (.lst ((ex (pcs 0 S) i).map od ++ [y])) := fun y => stApp_ok (by rw [List.length_map, ex_len]; omega)
      have e3 : isLst (cont 1 [.shr (tar S), .own (.lst ((ex (pcs 0 S) i).map od)), .shr (.int ((i : Int) + 1)), .shr (.lst (cs.map .int)), .no, .no] M') = true := isLst_own rfl
      have e5 := fun y => store_own (M := M') (env := [.shr (tar S), .own (.lst ((ex (pcs 0 S) i).map od)), .shr (.int ((i : Int) + 1)), .shr (.lst (cs.map .int)), .no, .no]) (i := 1) rfl (e4 y)
      have sh := bShare_own (M := M') (env := [.shr (tar S), .own (.lst ((ex (pcs 0 S) i).map od)), .shr (.int ((i : Int) + 1)), .own (.lst (cs.map .int)), .no, .no]) (i := 3) rfl
      have nx : (ex (pcs 0 S) (i + 1)).map od = (ex (pcs 0 S) i).map od ++ [od (if cs = [] then none else some (mnL cs))] := by rw [hcs]; simp [ex]
      refine ⟨[.shr (tar S), .own (.lst ((ex (pcs 0 S) (i + 1)).map od)), .shr (.int ((i : Int) + 1)), .shr (.lst (cs.map .int)), .no, .no], M', ?_, .shr (.int ((i : Int) + 1)), .shr (.lst (cs.map .int)), trivial, trivial, rfl, rfl⟩
      rw [nx]
      by_cases hz : cs = []
      · subst hz
        simp only [List.map_nil] at sh e3 e5 ec ⊢
        simp [b_Tariff_sums_3, lk_p, ec, f3, sh, e3, oNe_nil0, e5]
      · have hz2 : cs.isEmpty = false := by cases cs with | nil => exact absurd rfl hz | cons _ _ => rfl
        simp [b_Tariff_sums_3, lk_p, ec, f3, sh, e3, oNe_nil, hz2, hz, bMin_ints hz, e5])
    (env := [.shr (tar S), .own (.lst [.int 0]), .no, .no, .no, .no]) (M := M) ⟨.no, .no, trivial, trivial, rfl, rfl⟩
  rw [rngD_len] at e1
  have hr : inR (1 : Int) := inR_of (by decide) (by decide)
  have hr2 : inR ((((b - 1) * S.length : Nat) : Int) + 1) := inR_of (by omega) (by omega)
  have hz : ((((b - 1) * S.length : Nat) : Int) + 1 - 1).toNat = (b - 1) * S.length := by omega
  have sh := bShare_own (M := M2) (env := [.shr (tar S), .own (.lst ((ex (pcs 0 S) ((b - 1) * S.length)).map od)), x2, x3, .no, .no]) (i := 1) rfl
  obtain ⟨TT, hTT⟩ : ∃ TT, TT = (b - 1) * S.length := ⟨_, rfl⟩
  have tn := turning_ok hg hb hc M2
  rw [← hTT] at tn hr2 hz e1 sh ⊢
  have mr : ∀ r, methR "Tariff" "turning" (tar S) r = r := fun r => methR_ins rfl
  have vw : view M2 (tar S) = tar S := rfl
  simp [b_Tariff_sums, vw, mr, tn, hr, hr2, e1, sh]
end
end K26

set_option maxRecDepth 100000
set_option maxHeartbeats 1000000
namespace K26
open MP PySem L2
/-! ### dict(pieces) -/
def kv (q : Pc) : Key × D := (.inl (q.1 : Int), .int q.2)
theorem pairs_pD : ∀ l : List Pc, pairsD (l.map pD) = some (l.map kv)
  | [] => rfl
  | q :: l => by
    show (match keyD (.int q.1), pairsD (l.map pD) with | some k, some r => some ((k, D.int q.2) :: r) | _, _ => none) = _
    rw [pairs_pD l]; rfl
theorem valK_cons {κ α : Type} [DecidableEq κ] (x : κ × α) (r : List (κ × α)) (k : κ) : valK (x :: r) k = if x.1 = k then some x.2 else valK r k := by
  by_cases e : x.1 = k
  · rw [if_pos e]; simp [valK, e]
  · rw [if_neg e]; simp [valK, e]
theorem valK_rep1 {κ α : Type} [DecidableEq κ] {k k' : κ} (v : α) (ne : ¬ k' = k) : ∀ l : List (κ × α), valK (l.map fun x => if x.1 = k' then (x.1, v) else x) k = valK l k
  | [] => rfl
  | x :: r => by
    rw [List.map_cons, valK_cons, valK_cons, valK_rep1 v ne r]
    by_cases e : x.1 = k'
    · have e2 : ¬ x.1 = k := fun z => ne (e.symm.trans z)
      rw [if_pos e, if_neg e2, if_neg e2]
    · rw [if_neg e]
theorem valK_rep2 {κ α : Type} [DecidableEq κ] {k : κ} (v : α) : ∀ l : List (κ × α), (l.any fun x => decide (x.1 = k)) = true → valK (l.map fun x => if x.1 = k then (x.1, v) else x) k = some v
  | [], h => by simp at h
  | x :: r, h => by
    rw [List.map_cons, valK_cons]
    by_cases e : x.1 = k
    · rw [if_pos e, if_pos e]
    · rw [if_neg e, if_neg e]
      exact valK_rep2 v r (by simpa [e] using h)
theorem valK_ins {κ α : Type} [DecidableEq κ] (k k' : κ) (v : α) (acc : List (κ × α)) : valK (insK acc k' v) k = if k' = k then some v else valK acc k := by
  unfold insK
  split
  · rename_i h
    by_cases e : k' = k
    · subst e; rw [if_pos rfl]; exact valK_rep2 v acc h
    · rw [if_neg e]; exact valK_rep1 v e acc
  · rename_i h
    have hno : ∀ y ∈ acc, ¬ y.1 = k' := fun y hy z => h (List.any_eq_true.mpr ⟨y, hy, by simp [z]⟩)
    by_cases e : k' = k
    · subst e
      have hf : acc.find? (fun kv => decide (kv.1 = k')) = none := List.find?_eq_none.mpr fun y hy => by simpa using hno y hy
      simp [valK, List.find?_append, hf]
    · simp only [valK, List.find?_append, List.find?_cons, e, decide_false, List.find?_nil, if_neg e]
      cases acc.find? _ <;> rfl
theorem mrg_look {k : Key} {v : D} : ∀ (l acc : List (Key × D)), (∀ y ∈ l, y.1 = k → y.2 = v) → ((k, v) ∈ l ∨ valK acc k = some v) → valK (mrgD acc l) k = some v
  | [], acc, _, h => by rcases h with h | h; cases h; exact h
  | x :: r, acc, hall, h => by
    show valK (mrgD (insK acc x.1 x.2) r) k = some v
    refine mrg_look r _ (fun y hy => hall y (List.mem_cons_of_mem _ hy)) ?_
    by_cases e : x.1 = k
    · right; rw [valK_ins, if_pos e, hall x (by simp) e]
    · rcases h with h | h
      · rcases List.mem_cons.mp h with h | h
        · exact absurd (by rw [← h]) e
        · exact .inl h
      · right; rw [valK_ins, if_neg e]; exact h
theorem pcs_fun {S : List (Option Int)} {q r : Pc} (hq : q ∈ pcs 0 S) (hr : r ∈ pcs 0 S) (e : q.1 = r.1) : q.2 = r.2 := by
  obtain ⟨i, h1, h2⟩ := pcs_mem.mp hq
  obtain ⟨j, h3, h4⟩ := pcs_mem.mp hr
  have : i = j := by omega
  subst this
  rw [h1] at h3
  exact Option.some.inj (Option.some.inj h3)
section
variable {S : List (Option Int)} {b : Nat} {p : Int} (hg : Good S 1000000000000) (hb : Best (pcs 0 S) b p) (hc : ∀ M, c_best_of [.lst ((pcs 0 S).map pD)] M = .ok (.int (b : Nat)) M)
include hg hb hc
omit hg hc in
theorem dict_look : valK (mrgD [] ((pcs 0 S).map kv)) (.inl (b : Int)) = some (.int p) := by
  refine mrg_look _ _ (fun y hy e => ?_) (.inl (List.mem_map.mpr ⟨(b, p), hb.mem, rfl⟩))
  obtain ⟨q, hq, rfl⟩ := List.mem_map.mp hy
  have e : (Sum.inl (q.1 : Int) : Key) = .inl (b : Int) := e
  have e2 : (q.1 : Int) = (b : Int) := Sum.inl.inj e
  have := pcs_fun hq hb.mem (show q.1 = b by omega)
  show D.int q.2 = .int p
  rw [this]
theorem p_le : 0 ≤ p ∧ p ≤ 1000000000000 := by
  obtain ⟨i, h1, _⟩ := pcs_mem.mp hb.mem
  exact hg.nn p (List.mem_of_getElem? h1)
theorem mxs {x : Int} : mx2 0 x = max 0 x := by unfold mx2; split <;> omega
theorem fareof_ok (L : Nat) (M : List D) : c_fare_of [tar S, .int (L : Nat)] M = .ok (.int (fr (pcs 0 S) L)) M := by
  have hp := pcs_ok hg
  have hb2 := b_le hg hb hc
  have hpl := p_le hg hb hc
  have hk : ∀ q ∈ pcs 0 S, q.1 ≤ S.length := fun q hq => pcs_len hq
  obtain ⟨cne, ceq⟩ := fare_eq hp hb hk L
  have hT : (b - 1) * S.length ≤ 11 * 12 := Nat.mul_le_mul (by omega) hg.len
  obtain ⟨T, hTT⟩ : ∃ T, T = (b - 1) * S.length := ⟨_, rfl⟩
  rw [← hTT] at cne ceq hT
  have so := sums_ok hg hb hc
  rw [← hTT] at so
  have e0 : env0 N_fare_of.length [tar S, .int (L : Nat)] = [.shr (tar S), .shr (.int (L : Nat)), .no, .no, .no, .no, .no] := rfl
  unfold c_fare_of
  rw [e0]
  obtain ⟨env2, M2, e1, x5, x6, f5, f6, rfl, rfl⟩ := forL_inv (gd := gT [5, 6]) (b := b_fare_of_1) (ds := enumD (stD (ex (pcs 0 S) T)))
    (fun i env M' => ∃ x5 x6, MP.B.free x5 ∧ MP.B.free x6 ∧ env = [.shr (tar S), .shr (.int (L : Nat)), .shr (.int b), .shr (.int p), .own (.lst ((cand (pcs 0 S) b p L (List.range i)).map .int)), x5, x6] ∧ M' = M)
    (by
      rintro i d env M' hd ⟨x5, x6, f5, f6, rfl, rfl⟩
      obtain ⟨o, ho, rfl⟩ := enum_of hd
      have hi : i < (ex (pcs 0 S) T).length := (List.getElem?_eq_some_iff.mp ho).1
      rw [ex_len] at hi
      have ho2 : e1 (pcs 0 S) i = o := by
        rw [← ex_get (pcs 0 S) T i (by omega), List.getD_eq_getElem?_getD, ho]; rfl
      obtain ⟨cs, hcs⟩ : ∃ cs, cs = cand (pcs 0 S) b p L (List.range i) := ⟨_, rfl⟩
      have hlen : cs.length ≤ i := by
        rw [hcs]
        have := List.length_filterMap_le (fun o => (e1 (pcs 0 S) o).map fun v => v + p * max 0 (((L : Int) - (o : Int) + b - 1) / b)) (List.range i)
        rw [List.length_range] at this
        exact this
      have nx : cand (pcs 0 S) b p L (List.range (i + 1)) = cs ++ (match o with | none => [] | some v => [v + p * max 0 (((L : Int) - (i : Int) + b - 1) / b)]) := by
        rw [hcs]
        unfold cand
        rw [List.range_succ, List.filterMap_append]
        congr 1
        cases o with
        | none => simp [ho2]
        | some v => simp [ho2]
      rw [← hcs]
      refine ⟨[.shr (tar S), .shr (.int (L : Nat)), .shr (.int b), .shr (.int p), .own (.lst (cs.map .int)), .shr (.int i), .shr (od o)], by simp [f5, f6], ?_⟩
      cases o with
      | none =>
        refine ⟨[.shr (tar S), .shr (.int (L : Nat)), .shr (.int b), .shr (.int p), .own (.lst (cs.map .int)), .shr (.int i), .shr .non], M', by simp [b_fare_of_1], .shr (.int i), .shr .non, trivial, trivial, ?_, rfl⟩
        rw [nx]; simp
      | some v =>
        have e4 : ∀ y, stApp y (.lst (cs.map D.int)) = some (.lst (cs.map D.int ++ [y])) := fun y => stApp_ok (by rw [List.length_map]; omega)
        have e3 : isLst (cont 4 [.shr (tar S), .shr (.int (L : Nat)), .shr (.int b), .shr (.int p), .own (.lst (cs.map .int)), .shr (.int i), .shr (.int v)] M') = true := isLst_own rfl
        have e5 := fun y => store_own (M := M') (env := [.shr (tar S), .shr (.int (L : Nat)), .shr (.int b), .shr (.int p), .own (.lst (cs.map .int)), .shr (.int i), .shr (.int v)]) (i := 4) rfl (e4 y)
        have cm : ∀ i, CMulB p i := fun i => cmul_l (by omega)
        have cd : ∀ i, CDivW i (b : Int) := fun i => cdiv_s (by omega) (by omega)
        refine ⟨[.shr (tar S), .shr (.int (L : Nat)), .shr (.int b), .shr (.int p), .own (.lst ((cs ++ [v + p * max 0 (((L : Int) - (i : Int) + b - 1) / b)]).map .int)), .shr (.int i), .shr (.int v)], M', ?_, .shr (.int i), .shr (.int v), trivial, trivial, ?_, rfl⟩
        · simp [b_fare_of_1, e3, cd, cm, mxs hg hb hc, e5]
        · rw [nx])
    (env := [.shr (tar S), .shr (.int (L : Nat)), .shr (.int b), .shr (.int p), .own (.lst []), .no, .no]) (M := M) ⟨.no, .no, trivial, trivial, rfl, rfl⟩
  rw [enumS_len, ex_len] at e1
  have bd : bDict [.lst ((pcs 0 S).map pD)] M2 = .ok (.dK (mrgD [] ((pcs 0 S).map kv))) M2 := by
    show (match pairsD ((pcs 0 S).map pD) with | some l => R.ok (D.dK (mrgD [] l)) M2 | none => R.stuck) = _
    rw [pairs_pD]
  have mr : ∀ r, methR "Tariff" "sums" (tar S) r = r := fun r => methR_ins rfl
  have vw : ∀ M, view M (tar S) = tar S := fun _ => rfl
  have e6 : enumD ((ex (pcs 0 S) T).map od) = enumD (stD (ex (pcs 0 S) T)) := rfl
  have bm := bMin_ints (M := M2) cne
  rw [ceq] at bm
  simp [b_fare_of, bestp hg hb hc, lk_p, bd, dict_look hb, vw, mr, so, e6, e1, bm]
theorem fare_ok {L : Nat} (h1 : 1 ≤ L) (h2 : L ≤ 1000000000000000000000000000000) (M : List D) : c_Tariff_fare [tar S, .int (L : Nat)] M = .ok (.int (fr (pcs 0 S) L)) M := by
  have e0 : env0 N_Tariff_fare.length [tar S, .int (L : Nat)] = [.shr (tar S), .shr (.int (L : Nat))] := rfl
  unfold c_Tariff_fare
  rw [e0]
  have w := within_ok (v := (L : Int)) (lo := 1) (hi := 1000000000000000000000000000000) (M := M) (by omega) (by omega)
  simp [b_Tariff_fare, w, fareof_ok hg hb hc]
end
theorem far_ok {M : List D} {n : Nat} (hj : JarAt M n) : ∃ (L : Nat) (M' : List D), c__law_far [.cel n] M = .ok (.int (L : Nat)) M' ∧ 1200 ≤ L ∧ L ≤ 200000000000000000000000000200 ∧ JarAt M' n := by
  have e0 : env0 N__law_far.length [.cel n] = [.shr (.cel n), .no] := rfl
  unfold c__law_far
  rw [e0]
  obtain ⟨v, M1, e1, hv, j1⟩ := pick_ok (ms := [1000, 1000000, 1000000000000, 100000000000000000000000000000]) hj (by simp) (by simp)
  have hv2 : 1000 ≤ v ∧ v ≤ 100000000000000000000000000000 := by
    simp at hv; omega
  obtain ⟨w, M2, e2, w0, w1, j2⟩ := dip_ok (m := v) j1 (by omega) (by omega)
  refine ⟨(v + w + 200).toNat, M2, ?_, by omega, by omega, j2⟩
  have p1 : CPow 10 3 := by decide
  have p2 : CPow 10 6 := by decide
  have p3 : CPow 10 12 := by decide
  have p4 : CPow 10 29 := by decide
  have ez : (((v + w + 200).toNat : Nat) : Int) = v + w + 200 := by omega
  simp only [List.map_cons, List.map_nil] at e1
  simp [b__law_far, p1, p2, p3, p4, e1, e2]
  omega
end K26

set_option maxRecDepth 100000
set_option maxHeartbeats 1000000
namespace K26
open MP PySem L2
theorem turn_ok {S : List (Option Int)} {b : Nat} {p : Int} (hg : Good S 1000000000000) (hb : Best (pcs 0 S) b p) (hc : ∀ M, c_best_of [.lst ((pcs 0 S).map pD)] M = .ok (.int (b : Nat)) M)
    {M : List D} {n : Nat} {x1 x6 x7 x8 x9 : MP.B} (hj : JarAt M n) (f7 : x7.free) (f8 : x8.free) (f9 : x9.free) :
    ∃ y7 y8 y9 M', MP.B.free y7 ∧ MP.B.free y8 ∧ MP.B.free y9 ∧ b__law_right_1 [.shr (.cel n), x1, .shr (.tup (stD S)), .shr (tar S), .shr (.lst ((tb (pcs 0 S) 160).map .int)), .shr (.int b), x6, x7, x8, x9] M =
      .next [.shr (.cel n), x1, .shr (.tup (stD S)), .shr (tar S), .shr (.lst ((tb (pcs 0 S) 160).map .int)), .shr (.int b), x6, y7, y8, y9] M' ∧ JarAt M' n := by
  have hp := pcs_ok hg
  have hb2 := b_le hg hb hc
  have hpl := p_le hg hb hc
  have hk : ∀ q ∈ pcs 0 S, q.1 ≤ S.length := fun q hq => pcs_len hq
  have hT : (b - 1) * S.length ≤ 11 * 12 := Nat.mul_le_mul (by omega) hg.len
  obtain ⟨L, M1, eL, L1, L2, j1⟩ := far_ok hj
  -- the rest
  have hm0 := Int.emod_nonneg ((L : Int) - 140) (b := (b : Int)) (by omega)
  have hm1 := Int.emod_lt_of_pos ((L : Int) - 140) (b := (b : Int)) (by omega)
  have hdm := Int.mul_ediv_add_emod ((L : Int) - 140) (b : Int)
  obtain ⟨m, hm⟩ : ∃ m : Nat, (m : Int) = ((L : Int) - 140) % (b : Int) := ⟨(((L : Int) - 140) % (b : Int)).toNat, by omega⟩
  have hq0 : 0 ≤ ((L : Int) - 140) / (b : Int) := Int.ediv_nonneg (by omega) (by omega)
  obtain ⟨q, hq⟩ : ∃ q : Nat, (q : Int) = ((L : Int) - 140) / (b : Int) := ⟨(((L : Int) - 140) / (b : Int)).toNat, by omega⟩
  rw [← hm, ← hq] at hdm
  rw [← hm] at hm1
  have hL : L = (140 + m) + q * b := by
    have : ((q * b : Nat) : Int) = (b : Int) * (q : Int) := by push_cast; rw [Int.mul_comm]
    omega
  have hr : (140 : Int) + ((m : Nat) : Int) = ((140 + m : Nat) : Int) := by push_cast; rfl
  have hdiv : ((L : Int) - ((140 + m : Nat) : Int)) / (b : Int) = (q : Int) := by
    have e : (L : Int) - ((140 + m : Nat) : Int) = (q : Int) * (b : Int) := by
      have : ((q * b : Nat) : Int) = (q : Int) * (b : Int) := by push_cast; rfl
      omega
    rw [e]; exact Int.mul_ediv_cancel _ (by omega)
  have hfar : fr (pcs 0 S) L = fr (pcs 0 S) (140 + m) + (q : Int) * p := by
    rw [hL]; exact fr_far hp hb hk (by omega) q
  have near : atI ((tb (pcs 0 S) 160).map D.int) ((140 + m : Nat) : Int) = some (.int (fr (pcs 0 S) (140 + m))) := by
    rw [tbD_get (by omega), tb_get _ _ _ (by omega)]
  have stp : atI (stD S) ((b : Int) - 1) = some (.int p) := by
    obtain ⟨i, h1, h2⟩ := pcs_mem.mp hb.mem
    have : (b : Int) - 1 = (i : Nat) := by simp only at h2; omega
    rw [this, atI_st h1]; rfl
  -- the part
  obtain ⟨w, M2, eW, w0, w1, j2⟩ := dip_ok (m := (L : Int) - 1) j1 (by omega) (by omega)
  obtain ⟨P, hP⟩ : ∃ P : Nat, (P : Int) = 1 + w := ⟨(1 + w).toNat, by omega⟩
  have hLP : (L : Int) - ((P : Nat) : Int) = ((L - P : Nat) : Int) := by omega
  have c1 := fr_sub hp P (L - P)
  rw [show P + (L - P) = L by omega] at c1
  have c2 := fr_mono hp (show P ≤ L by omega)
  have mr : ∀ r, methR "Tariff" "fare" (tar S) r = r := fun r => methR_ins rfl
  have vw : ∀ M, view M (tar S) = tar S := fun _ => rfl
  have k1 : ∀ M, c_Tariff_fare [tar S, .int (L : Nat)] M = .ok (.int (fr (pcs 0 S) L)) M := fun M => fare_ok hg hb hc (by omega) (by omega) M
  have k2 : ∀ M, c_Tariff_fare [tar S, .int (P : Nat)] M = .ok (.int (fr (pcs 0 S) P)) M := fun M => fare_ok hg hb hc (by omega) (by omega) M
  have k3 : ∀ M, c_Tariff_fare [tar S, .int ((L - P : Nat) : Int)] M = .ok (.int (fr (pcs 0 S) (L - P))) M := fun M => fare_ok hg hb hc (by omega) (by omega) M
  have cm : ∀ i, CMulB i p := fun i => cmul_r (by omega)
  have cd : ∀ i, CDivW i (b : Int) := fun i => cdiv_s (by omega) (by omega)
  have bp : (0 : Int) < (b : Int) := by omega
  have g1 : ¬ (fr (pcs 0 S) P + fr (pcs 0 S) (L - P) < fr (pcs 0 S) L) := by omega
  have g2 : ¬ (fr (pcs 0 S) L < fr (pcs 0 S) P) := by omega
  refine ⟨.shr (.int (L : Nat)), .shr (.int ((140 + m : Nat) : Int)), .shr (.int (P : Nat)), M2, trivial, trivial, trivial, ?_, j2⟩
  obtain ⟨RR, hRR⟩ : ∃ RR : Int, RR = ((140 + m : Nat) : Int) := ⟨_, rfl⟩
  obtain ⟨LP, hLP2⟩ : ∃ LP : Int, LP = ((L - P : Nat) : Int) := ⟨_, rfl⟩
  rw [← hRR] at hr hdiv near ⊢
  rw [← hLP2] at hLP k3
  have bp2 : 0 < b := by omega
  have hP' : 1 + w = ((P : Nat) : Int) := hP.symm
  rw [hfar] at g1 g2
  simp [b__law_right_1, f7, f8, f9, eL, ← hm, hr, vw, mr, k1, near, hdiv, stp, cm, cd, bp2, hfar, eW, hP', hLP, k2, k3, g1, g2]
theorem right_ok {M : List D} {n : Nat} (hj : JarAt M n) : ∃ M', c__law_right [.cel n] M = .ok (.bl true) M' := by
  have e0 : env0 N__law_right.length [.cel n] = [.shr (.cel n), .no, .no, .no, .no, .no, .no, .no, .no, .no] := rfl
  unfold c__law_right
  rw [e0]
  obtain ⟨env2, M2, e1, x1, x2, x3, x4, x5, x6, x7, x8, x9, f1, f2, f3, f4, f5, f6, f7, f8, f9, rfl, j2⟩ := forL_inv (gd := gN 1) (b := b__law_right_2) (ds := rngD 0 2)
    (fun i env M => ∃ x1 x2 x3 x4 x5 x6 x7 x8 x9, MP.B.free x1 ∧ MP.B.free x2 ∧ MP.B.free x3 ∧ MP.B.free x4 ∧ MP.B.free x5 ∧ MP.B.free x6 ∧ MP.B.free x7 ∧ MP.B.free x8 ∧ MP.B.free x9 ∧ env = [.shr (.cel n), x1, x2, x3, x4, x5, x6, x7, x8, x9] ∧ JarAt M n)
    (by
      rintro ii d env M hd ⟨x1, x2, x3, x4, x5, x6, x7, x8, x9, f1, f2, f3, f4, f5, f6, f7, f8, f9, rfl, hj⟩
      obtain ⟨hi, rfl⟩ := rngD_of hd
      refine ⟨[.shr (.cel n), .shr (.int (0 + (ii : Nat))), x2, x3, x4, x5, x6, x7, x8, x9], by simp [f1], ?_⟩
      obtain ⟨most, M1, ep, hm, j1⟩ := pick_ok (ms := [3, 20, 100000000000]) hj (by simp) (by simp)
      have hm2 : 0 ≤ most ∧ most ≤ 100000000000 := by simp at hm; omega
      obtain ⟨S, M2, es, hg, j2⟩ := steps_ok j1 hm2.1 hm2.2
      obtain ⟨b, p, hb, hc⟩ := bestof_ok (pcs_ok hg) (fun q hq => Nat.le_trans (pcs_len hq) hg.len)
      have hp := pcs_ok hg
      obtain ⟨env3, M3, e3, y6, y7, y8, y9, g6, g7, g8, g9, rfl, j3⟩ := forL_inv (gd := gN 6) (b := b__law_right_1) (ds := rngD 0 4)
        (fun i env M => ∃ y6 y7 y8 y9, MP.B.free y6 ∧ MP.B.free y7 ∧ MP.B.free y8 ∧ MP.B.free y9 ∧ env = [.shr (.cel n), .shr (.int (0 + (ii : Nat))), .shr (.tup (stD S)), .shr (tar S), .shr (.lst ((tb (pcs 0 S) 160).map .int)), .shr (.int b), y6, y7, y8, y9] ∧ JarAt M n)
        (by
          rintro i d env M hd ⟨y6, y7, y8, y9, g6, g7, g8, g9, rfl, hj⟩
          obtain ⟨hi, rfl⟩ := rngD_of hd
          refine ⟨[.shr (.cel n), .shr (.int (0 + (ii : Nat))), .shr (.tup (stD S)), .shr (tar S), .shr (.lst ((tb (pcs 0 S) 160).map .int)), .shr (.int b), .shr (.int (0 + (i : Nat))), y7, y8, y9], by simp [g6], ?_⟩
          obtain ⟨z7, z8, z9, M', q7, q8, q9, e, j⟩ := turn_ok hg hb hc (x1 := .shr (.int (0 + (ii : Nat)))) (x6 := .shr (.int (0 + (i : Nat)))) hj g7 g8 g9
          exact ⟨_, M', e, _, z7, z8, z9, free_shr, q7, q8, q9, rfl, j⟩)
        (env := [.shr (.cel n), .shr (.int (0 + (ii : Nat))), .shr (.tup (stD S)), .shr (tar S), .shr (.lst ((tb (pcs 0 S) 160).map .int)), .shr (.int b), x6, x7, x8, x9]) (M := M2) ⟨x6, x7, x8, x9, f6, f7, f8, f9, rfl, j2⟩
      have fo := fun M => fares_ok hg (N := 160) (by decide) M
      have fo2 : ∀ M, c__law_fares [.tup (stD S), .int 160] M = .ok (.lst ((tb (pcs 0 S) 160).map .int)) M := fo
      have io := fun M => init_ok hg M
      have bo := bestp hg hb hc
      have ir : inR (4 : Int) := inR_of (by decide) (by decide)
      have q1 := fun M => fare_ok hg hb hc (L := 1000000000000000000000000000000) (by decide) (by decide) M
      have q2 := fun M => fare_ok hg hb hc (L := 999999999999999999999999999999) (by decide) (by decide) M
      have mo := fr_mono hp (show 999999999999999999999999999999 ≤ 1000000000000000000000000000000 by decide)
      obtain ⟨A, hA⟩ : ∃ A, A = fr (pcs 0 S) 1000000000000000000000000000000 := ⟨_, rfl⟩
      obtain ⟨B, hB⟩ : ∃ B, B = fr (pcs 0 S) 999999999999999999999999999999 := ⟨_, rfl⟩
      rw [← hA] at q1 mo
      rw [← hB] at q2 mo
      have nl : ¬ A < B := by omega
      have mr : ∀ r, methR "Tariff" "fare" (tar S) r = r := fun r => methR_ins rfl
      have vw : ∀ M, view M (tar S) = tar S := fun _ => rfl
      have p1 : CPow 10 11 := by decide
      have p2 : CPow 10 30 := by decide
      have q1' : ∀ M, c_Tariff_fare [tar S, .int 1000000000000000000000000000000] M = .ok (.int A) M := q1
      have q2' : ∀ M, c_Tariff_fare [tar S, .int 999999999999999999999999999999] M = .ok (.int B) M := q2
      simp only [List.map_cons, List.map_nil] at ep
      simp only [Int.zero_add] at e3
      refine ⟨[.shr (.cel n), .shr (.int (0 + (ii : Nat))), .shr (.tup (stD S)), .shr (tar S), .shr (.lst ((tb (pcs 0 S) 160).map .int)), .shr (.int b), y6, y7, y8, y9], M3, ?_, _, _, _, _, _, y6, y7, y8, y9, free_shr, free_shr, free_shr, free_shr, free_shr, g6, g7, g8, g9, rfl, j3⟩
      simp [b__law_right_2, p1, p2, ep, es, f2, f3, f4, f5, io, fo2, bo, ir, e3, vw, mr, q1', q2', nl])
    (env := [.shr (.cel n), .no, .no, .no, .no, .no, .no, .no, .no, .no]) (M := M) ⟨.no, .no, .no, .no, .no, .no, .no, .no, .no, trivial, trivial, trivial, trivial, trivial, trivial, trivial, trivial, trivial, rfl, hj⟩
  have ir : inR (2 : Int) := inR_of (by decide) (by decide)
  exact ⟨M2, by simp [b__law_right, ir, e1]⟩
end K26

set_option maxRecDepth 100000
set_option maxHeartbeats 1000000
namespace K26
open MP PySem L2
theorem jar_ok {ns : List Int} {k : Nat} (hk : k ≤ 4) (hl : ns.length ≤ 63) (M : List D) : ∃ d s : Int, 0 ≤ d ∧ 0 ≤ s ∧ c__law_jar [.scr ns, .int k] M = .ok (.cel M.length) (M ++ [jr d s 0]) := by
  have e0 : env0 N__law_jar.length [.scr ns, .int k] = [.shr (.scr ns), .shr (.int k), .no, .no, .no, .no] := rfl
  unfold c__law_jar
  rw [e0]
  have c1 : CMulB 6007 ((k : Int) + 4) := cmul_l (by decide)
  have c2 : ∀ i, CMulB i ((k : Int) + 3) := fun i => cmul_r (by omega)
  have c3 : ∀ i, CMulB 17 i := fun i => cmul_l (by decide)
  have c4 : ∀ i, CMulB i 617 := fun i => cmul_r (by decide)
  have c5 : ∀ i, CMulB i 7907 := fun i => cmul_r (by decide)
  have c6 : ∀ i, CMulB i 65537 := fun i => cmul_r (by decide)
  have c7 : ∀ i, CMulB 104729 i := fun i => cmul_l (by decide)
  have p1 : CPow 10 18 := by decide
  obtain ⟨m0, hm0⟩ : ∃ m0 : Int, m0 = 6007 * ((k : Int) + 4) * ((k : Int) + 3) + 17 * (ns.length : Int) := ⟨_, rfl⟩
  obtain ⟨env2, M2, e1, m, x3, f3, rfl, rfl⟩ := forL_inv (gd := gN 3) (b := b__law_jar_1) (ds := cutD (ns.map D.int) none (some 4))
    (fun i env M' => ∃ m x3, MP.B.free x3 ∧ env = [.shr (.scr ns), .shr (.int k), .shr (.int m), x3, .no, .no] ∧ M' = M)
    (by
      rintro i d env M' hd ⟨m, x3, f3, rfl, rfl⟩
      have hm := List.mem_of_getElem? hd
      unfold cutD at hm
      obtain ⟨v, _, rfl⟩ := List.mem_map.mp (List.mem_of_mem_drop (List.mem_of_mem_take hm))
      exact ⟨[.shr (.scr ns), .shr (.int k), .shr (.int m), .shr (.int v), .no, .no], by simp [f3], [.shr (.scr ns), .shr (.int k), .shr (.int ((m * 617 + v) % 1000000007)), .shr (.int v), .no, .no], M', by simp [b__law_jar_1, c4], _, _, free_shr, rfl, rfl⟩)
    (env := [.shr (.scr ns), .shr (.int k), .shr (.int m0), .no, .no, .no]) (M := M) ⟨m0, .no, trivial, rfl, rfl⟩
  obtain ⟨own, ho⟩ : ∃ own : Int, own = if h : k < ns.length then ns[k] else 0 := ⟨_, rfl⟩
  have hs : (0 : Int) < 2147483587 := by decide
  have eOwn : (eIf (MP.e2 oLt (eVB 1) (eCall bLen (lCons (eVB 0) lNil))) (MP.e2 oIx (eVB 0) (eVB 1)) (eC (.int 0))) [.shr (.scr ns), .shr (.int k), .shr (.int m), x3, .no, .no] M2 = .ok (.int own) M2 := by
    by_cases h : k < ns.length
    · have hh : (k : Int) < (ns.length : Int) := by omega
      have ha : atI ns (k : Int) = some ns[k] := atI_nat (by simp [h])
      rw [ho, dif_pos h]
      simp [h, oIx_scr ha]
    · rw [ho, dif_neg h]
      simp [h]
  have hab : (0 : Int) ≤ (if own < 0 then -own else own) := by split <;> omega
  have sl : ∀ M, oSlE (.scr ns) none (some 4) M = .ok (.lst (cutD (ns.map D.int) none (some 4))) M := fun M => rfl
  have es : ∀ {env : EnvM} {M : List D}, env[0]? = some (.shr (.scr ns)) → (eSl oSlE (eVB 0) (eC .non) (eInt (eC (.int 4)))) env M = .ok (.lst (cutD (ns.map D.int) none (some 4))) M := fun {env M} h => by
    show ((eVB 0) env M).bind _ = _
    rw [eVB_eq, h]; rfl
  have es2 := es (env := [.shr (.scr ns), .shr (.int k), .shr (.int m0), .no, .no, .no]) (M := M2) rfl
  by_cases hd : own < 0 ∨ 1000000000000000000 ≤ own
  · refine ⟨(if own < 0 then -own else own), (m * 7907 + own * 65537 + 104729 * ((k : Int) + 1)) % 2147483587, hab, Int.emod_nonneg _ (by decide), ?_⟩
    simp [b__law_jar, -eIf_eq, c1, c2, c3, c5, c6, c7, p1, ← hm0, es2, e1, f3]
    rw [eOwn]
    rcases hd with hd | hd
    · simp [hd, c5, c6, c7, jr]
    · have hn : ¬ own < 0 := by omega
      simp [hd, hn, p1, c5, c6, c7, jr]
  · refine ⟨0, (m * 7907 + own * 65537 + 104729 * ((k : Int) + 1)) % 2147483587, Int.le_refl _, Int.emod_nonneg _ (by decide), ?_⟩
    have h1 : ¬ own < 0 := fun h => hd (.inl h)
    have h2 : ¬ 1000000000000000000 ≤ own := fun h => hd (.inr h)
    simp [b__law_jar, -eIf_eq, c1, c2, c3, c5, c6, c7, p1, ← hm0, es2, e1, f3]
    rw [eOwn]
    simp [h1, h2, p1, c5, c6, c7, jr]
theorem law_ok {ns : List Int} (hl : ns.length ≤ 63) : ∃ M, c_law [.scr ns] [] = .ok (.bl true) M := by
  have e0 : env0 N_law.length [.scr ns] = [.shr (.scr ns), .no] := rfl
  unfold c_law
  rw [e0]
  obtain ⟨t, ht⟩ : ∃ t : Int, t = mx2 2 (mn2 (ns.length : Int) 4) := ⟨_, rfl⟩
  have ht2 : 2 ≤ t ∧ t ≤ 4 := by rw [ht]; unfold mx2 mn2; split <;> split <;> omega
  have ir : inR t := inR_of (by omega) (by omega)
  obtain ⟨acc, M2, e1, rfl⟩ := comp_inv (gd := gN 1) (ft := eC (.bl true)) (fe := b_law_1) (env0 := [.shr (.scr ns), .no]) (ds := rngD 0 t.toNat)
    (fun i acc M => acc = (List.replicate i true).map D.bl)
    (by
      rintro i d acc M hd rfl
      obtain ⟨hi, rfl⟩ := rngD_of hd
      obtain ⟨dd, s, h1, h2, e⟩ := jar_ok (ns := ns) (k := i) (by omega) hl M
      obtain ⟨M', e2⟩ := right_ok (M := M ++ [jr dd s 0]) (n := M.length) ⟨dd, s, 0, h1, h2, by simp⟩
      refine ⟨[.shr (.scr ns), .shr (.int (0 + (i : Nat)))], by simp, .inl ⟨M, .bl true, M', rfl, ?_, ?_, ?_⟩⟩
      · simp [b_law_1, e, e2]
      · rw [List.length_map, List.length_replicate]
        exact Nat.lt_trans (show i < 1000 by omega) (by decide)
      · rw [List.replicate_succ', List.map_append]; rfl)
    (M := []) rfl
  have ba := bAll_bools (ns := List.replicate (rngD 0 t.toNat).length true) (M := M2)
  refine ⟨M2, ?_⟩
  simp [b_law, ← ht, ir, e1, -List.map_replicate]
  rw [rngD_len] at ba
  rw [ba]
  simp
end K26

set_option maxRecDepth 100000
set_option maxHeartbeats 1000000
namespace K26
open MP
open PySem PySem.Spec PyProof.Rows L2
def top (i : Nat) : Stmt := PySem.Challenge.pw_haulprices_k26_whole_fares_far_away.main.body.getD i (.Pass ⟨0, 0, 0, 0⟩)
abbrev st__law_dip : Stmt := top 19
abbrev st__law_steps : Stmt := top 21
abbrev st__law_pick : Stmt := top 20
abbrev st_is_integer : Stmt := top 9
abbrev st_is_within : Stmt := top 10
abbrev st_is_price : Stmt := top 11
abbrev st_check_tariff_prices : Stmt := top 13
abbrev st_Tariff___init__ : Stmt := (clsB (top 15)).getD 0 (.Pass ⟨0, 0, 0, 0⟩)
abbrev st__law_fares : Stmt := top 22
abbrev st_best_of : Stmt := top 14
abbrev st_Tariff_best : Stmt := (clsB (top 15)).getD 2 (.Pass ⟨0, 0, 0, 0⟩)
abbrev st__law_far : Stmt := top 23
abbrev st_Tariff_turning : Stmt := (clsB (top 15)).getD 5 (.Pass ⟨0, 0, 0, 0⟩)
abbrev st_Tariff_sums : Stmt := (clsB (top 15)).getD 4 (.Pass ⟨0, 0, 0, 0⟩)
abbrev st_fare_of : Stmt := top 16
abbrev st_Tariff_fare : Stmt := (clsB (top 15)).getD 6 (.Pass ⟨0, 0, 0, 0⟩)
abbrev st__law_right : Stmt := top 24
abbrev st__law_jar : Stmt := top 18
abbrev st_law : Stmt := top 25
def d__law_dip : DefM := ⟨.g "_law_dip", "_law_dip", "_law_dip", defArgs st__law_dip, defBody st__law_dip, defScope st__law_dip, []⟩
def d__law_steps : DefM := ⟨.g "_law_steps", "_law_steps", "_law_steps", defArgs st__law_steps, defBody st__law_steps, defScope st__law_steps, []⟩
def d__law_pick : DefM := ⟨.g "_law_pick", "_law_pick", "_law_pick", defArgs st__law_pick, defBody st__law_pick, defScope st__law_pick, []⟩
def d_is_integer : DefM := ⟨.g "is_integer", "is_integer", "is_integer", defArgs st_is_integer, defBody st_is_integer, defScope st_is_integer, []⟩
def d_is_within : DefM := ⟨.g "is_within", "is_within", "is_within", defArgs st_is_within, defBody st_is_within, defScope st_is_within, []⟩
def d_is_price : DefM := ⟨.g "is_price", "is_price", "is_price", defArgs st_is_price, defBody st_is_price, defScope st_is_price, []⟩
def d_check_tariff_prices : DefM := ⟨.g "check_tariff_prices", "check_tariff_prices", "check_tariff_prices", defArgs st_check_tariff_prices, defBody st_check_tariff_prices, defScope st_check_tariff_prices, []⟩
def d_Tariff___init__ : DefM := ⟨.m "Tariff" "__init__", "__init__", "Tariff.__init__", defArgs st_Tariff___init__, defBody st_Tariff___init__, defScope st_Tariff___init__, []⟩
def d__law_fares : DefM := ⟨.g "_law_fares", "_law_fares", "_law_fares", defArgs st__law_fares, defBody st__law_fares, defScope st__law_fares, []⟩
def d_best_of : DefM := ⟨.g "best_of", "best_of", "best_of", defArgs st_best_of, defBody st_best_of, defScope st_best_of, []⟩
def d_Tariff_best : DefM := ⟨.p "Tariff" "best", "best", "Tariff.best", defArgs st_Tariff_best, defBody st_Tariff_best, defScope st_Tariff_best, []⟩
def d__law_far : DefM := ⟨.g "_law_far", "_law_far", "_law_far", defArgs st__law_far, defBody st__law_far, defScope st__law_far, []⟩
def d_Tariff_turning : DefM := ⟨.m "Tariff" "turning", "turning", "Tariff.turning", defArgs st_Tariff_turning, defBody st_Tariff_turning, defScope st_Tariff_turning, []⟩
def d_Tariff_sums : DefM := ⟨.m "Tariff" "sums", "sums", "Tariff.sums", defArgs st_Tariff_sums, defBody st_Tariff_sums, defScope st_Tariff_sums, []⟩
def d_fare_of : DefM := ⟨.g "fare_of", "fare_of", "fare_of", defArgs st_fare_of, defBody st_fare_of, defScope st_fare_of, []⟩
def d_Tariff_fare : DefM := ⟨.m "Tariff" "fare", "fare", "Tariff.fare", defArgs st_Tariff_fare, defBody st_Tariff_fare, defScope st_Tariff_fare, []⟩
def d__law_right : DefM := ⟨.g "_law_right", "_law_right", "_law_right", defArgs st__law_right, defBody st__law_right, defScope st__law_right, []⟩
def d__law_jar : DefM := ⟨.g "_law_jar", "_law_jar", "_law_jar", defArgs st__law_jar, defBody st__law_jar, defScope st__law_jar, []⟩
def d_law : DefM := ⟨.g "law", "law", "law", defArgs st_law, defBody st_law, defScope st_law, []⟩
def fn : List DefM := [d__law_dip, d__law_steps, d__law_pick, d_is_integer, d_is_within, d_is_price, d_check_tariff_prices, d_Tariff___init__, d__law_fares, d_best_of, d_Tariff_best, d__law_far, d_Tariff_turning, d_Tariff_sums, d_fare_of, d_Tariff_fare, d__law_right, d__law_jar, d_law]
def fa : List He.Fa := ([.free "len", .free "min", .free "max", .free "range", .free "int", .glo "_law_dip", .free "tuple", .glo "_law_pick", .glo "_law_steps", .free "isinstance", .int "MOST_PIECE" 12, .free "enumerate", .free "bool", .glo "is_integer", .int "MOST_PRICE" 1000000000000, .glo "is_within", .glo "is_price", .free "all", .glo "check_tariff_prices", .cls "Tariff", .noat "Tariff" "row", .noat "Tariff" "pieces", .mkr "Tariff", .glo "Tariff", .glo "_law_fares", .glo "best_of", .glo "_law_far", .int "MOST_LENGTH" 1000000000000000000000000000000, .free "dict", .meth "Tariff" "turning"] : List He.Fa) ++ ([.meth "Tariff" "sums", .glo "fare_of", .meth "Tariff" "fare", .free "abs", .glo "_law_jar", .glo "_law_right", .glo "law"] : List He.Fa)
def fm : List Fm := ([.prop "Tariff" "best"] : List Fm)
theorem sc__law_dip : FnScope N__law_dip [("_law_jar_here" : Str), ("_law_many" : Str)] (defScope st__law_dip) := ⟨rfl, rfl, rfl, by decide +kernel, rfl, by decide +kernel, by decide +kernel⟩
theorem sc__law_steps : FnScope N__law_steps [("_law_jar_here" : Str), ("_law_most" : Str)] (defScope st__law_steps) := ⟨rfl, rfl, rfl, by decide +kernel, rfl, by decide +kernel, by decide +kernel⟩
theorem sc__law_pick : FnScope N__law_pick [("_law_jar_here" : Str), ("_law_menu" : Str)] (defScope st__law_pick) := ⟨rfl, rfl, rfl, by decide +kernel, rfl, by decide +kernel, by decide +kernel⟩
theorem sc_is_integer : FnScope N_is_integer [("value" : Str)] (defScope st_is_integer) := ⟨rfl, rfl, rfl, by decide +kernel, rfl, by decide +kernel, by decide +kernel⟩
theorem sc_is_within : FnScope N_is_within [("value" : Str), ("low" : Str), ("high" : Str)] (defScope st_is_within) := ⟨rfl, rfl, rfl, by decide +kernel, rfl, by decide +kernel, by decide +kernel⟩
theorem sc_is_price : FnScope N_is_price [("value" : Str)] (defScope st_is_price) := ⟨rfl, rfl, rfl, by decide +kernel, rfl, by decide +kernel, by decide +kernel⟩
theorem sc_check_tariff_prices : FnScope N_check_tariff_prices [("prices" : Str)] (defScope st_check_tariff_prices) := ⟨rfl, rfl, rfl, by decide +kernel, rfl, by decide +kernel, by decide +kernel⟩
theorem sc_Tariff___init__ : FnScope N_Tariff___init__ [("self" : Str), ("prices" : Str)] (defScope st_Tariff___init__) := ⟨rfl, rfl, rfl, by decide +kernel, rfl, by decide +kernel, by decide +kernel⟩
theorem sc__law_fares : FnScope N__law_fares [("_law_steps_here" : Str), ("_law_last" : Str)] (defScope st__law_fares) := ⟨rfl, rfl, rfl, by decide +kernel, rfl, by decide +kernel, by decide +kernel⟩
theorem sc_best_of : FnScope N_best_of [("pieces" : Str)] (defScope st_best_of) := ⟨rfl, rfl, rfl, by decide +kernel, rfl, by decide +kernel, by decide +kernel⟩
theorem sc_Tariff_best : FnScope N_Tariff_best [("self" : Str)] (defScope st_Tariff_best) := ⟨rfl, rfl, rfl, by decide +kernel, rfl, by decide +kernel, by decide +kernel⟩
theorem sc__law_far : FnScope N__law_far [("_law_jar_here" : Str)] (defScope st__law_far) := ⟨rfl, rfl, rfl, by decide +kernel, rfl, by decide +kernel, by decide +kernel⟩
theorem sc_Tariff_turning : FnScope N_Tariff_turning [("self" : Str)] (defScope st_Tariff_turning) := ⟨rfl, rfl, rfl, by decide +kernel, rfl, by decide +kernel, by decide +kernel⟩
theorem sc_Tariff_sums : FnScope N_Tariff_sums [("self" : Str)] (defScope st_Tariff_sums) := ⟨rfl, rfl, rfl, by decide +kernel, rfl, by decide +kernel, by decide +kernel⟩
theorem sc_fare_of : FnScope N_fare_of [("tariff" : Str), ("length" : Str)] (defScope st_fare_of) := ⟨rfl, rfl, rfl, by decide +kernel, rfl, by decide +kernel, by decide +kernel⟩
theorem sc_Tariff_fare : FnScope N_Tariff_fare [("self" : Str), ("length" : Str)] (defScope st_Tariff_fare) := ⟨rfl, rfl, rfl, by decide +kernel, rfl, by decide +kernel, by decide +kernel⟩
theorem sc__law_right : FnScope N__law_right [("_law_jar_here" : Str)] (defScope st__law_right) := ⟨rfl, rfl, rfl, by decide +kernel, rfl, by decide +kernel, by decide +kernel⟩
theorem sc__law_jar : FnScope N__law_jar [("_law_script" : Str), ("_law_k" : Str)] (defScope st__law_jar) := ⟨rfl, rfl, rfl, by decide +kernel, rfl, by decide +kernel, by decide +kernel⟩
theorem sc_law : FnScope N_law [("_law_script" : Str)] (defScope st_law) := ⟨rfl, rfl, rfl, by decide +kernel, rfl, by decide +kernel, by decide +kernel⟩
section
variable {P : Program} {w : World} {K : PySem.W.Frag} {h base : Heap} {mg : Str → Option Value}
theorem ok__law_dip (kx : K.In h) (G : h.Ns mainGlobals mg) (c : SaysM fa fm fn K) : FnK P w K mg base (DE K) 1 2 ((.g "_law_dip" : Loc3).at_ K) [] c__law_dip := by
  obtain ⟨fd, F⟩ := c.d 0 (d := d__law_dip) rfl
  exact fnk_of (fin := endE) F sc__law_dip rfl (F.bindsN fun _ _ _ _ _ _ us hl => match us, hl with | [_, _], _ => rfl) .nil (fun _ _ => .nil) finE fun cdv A outer s H E hr =>
    (ss_cons (ss_sub (i := 0) (u1 hr) rfl (by first | exact Or.inl rfl | exact Or.inr (Or.inl rfl)) se_int (s_bin DE.ok op2_add (SE.b (s_ix (u1 hr) (vB 0) (SE.b se_int))) (SE.b se_int))) (ss_cons (ss_if (st_cmp op2_gt (SE.b (s_ix (u1 hr) (vB 0) (SE.b se_int))) (SE.b se_int) rfl) (ss_cons (ss_set (i := 2) sc__law_dip.nd rfl (by first | exact Or.inl rfl | exact Or.inr rfl) (s_bin DE.ok op2_mod (SE.b (s_callTy DE.ok call_intS rfl (He.free_ok kx G (x := "int") (c.a 4 rfl)) (by decide +kernel) (slb_cons (SE.b (s_ix (u1 hr) (vB 0) (SE.b se_int))) slb_nil))) (vB 1))) (ss_cons (ss_sub (i := 0) (u1 hr) rfl (by first | exact Or.inl rfl | exact Or.inr (Or.inl rfl)) se_int (s_bin DE.ok op2_div (SE.b (s_callTy DE.ok call_intS rfl (He.free_ok kx G (x := "int") (c.a 4 rfl)) (by decide +kernel) (slb_cons (SE.b (s_ix (u1 hr) (vB 0) (SE.b se_int))) slb_nil))) (vB 1))) (ss_one (ss_ret DE.ok (vE 2))))) ss_nil) (ss_cons (ss_set (i := 3) sc__law_dip.nd rfl (by first | exact Or.inl rfl | exact Or.inr rfl) (s_callTy DE.ok call_intS rfl (He.free_ok kx G (x := "int") (c.a 4 rfl)) (by decide +kernel) (slb_cons (SE.b (s_ix (u1 hr) (vB 0) (SE.b se_int))) slb_nil))) (ss_cons (ss_sub (i := 0) (u1 hr) rfl (by first | exact Or.inl rfl | exact Or.inr (Or.inl rfl)) se_int (s_bin DE.ok op2_mod (SE.b (s_callTy DE.ok call_intS rfl (He.free_ok kx G (x := "int") (c.a 4 rfl)) (by decide +kernel) (slb_cons (SE.b (s_bin DE.ok op2_add (SE.b (s_bin DE.ok op2_add (SE.b (s_bin DE.ok op2_mul (vB 3) (SE.b se_int))) (SE.b (s_bin DE.ok op2_mul (SE.b (s_ix (u1 hr) (vB 0) (SE.b se_int))) (SE.b se_int))))) (SE.b se_int))) slb_nil))) (SE.b se_int))) (ss_one (ss_ret DE.ok (s_bin DE.ok op2_mod (SE.b (s_callTy DE.ok call_intS rfl (He.free_ok kx G (x := "int") (c.a 4 rfl)) (by decide +kernel) (slb_cons (SE.b (s_bin DE.ok op2_div (SE.b (s_ix (u1 hr) (vB 0) (SE.b se_int))) (SE.b se_int))) slb_nil))) (vB 1))))))))
theorem ok__law_steps (kx : K.In h) (G : h.Ns mainGlobals mg) (c : SaysM fa fm fn K) : FnK P w K mg base (DE K) 2 2 ((.g "_law_steps" : Loc3).at_ K) [] c__law_steps := by
  obtain ⟨fd, F⟩ := c.d 1 (d := d__law_steps) rfl
  exact fnk_of (fin := endE) F sc__law_steps rfl (F.bindsN fun _ _ _ _ _ _ us hl => match us, hl with | [_, _], _ => rfl) .nil (fun _ _ => .nil) finE fun cdv A outer s H E hr =>
    (ss_cons (ss_set (i := 2) sc__law_steps.nd rfl (by first | exact Or.inl rfl | exact Or.inr rfl) (s_bin DE.ok op2_add (SE.b se_int) (SE.b (s_call DE.ok (ok__law_dip kx G c) (hr.mono (by decide)) pasX rfl (He.glo_ok kx G (x := "_law_dip") (c.a 5 rfl)) (sl_cons (vE 0) (sl_cons se_int sl_nil)))))) (ss_cons (ss_lc (i := 3) rfl sc__law_steps.nd rfl rfl rfl (SI.any (si_rng1 (vE 2) rfl (He.free_ok kx G (x := "range") (c.a 3 rfl)))) (own := [(("_law_k" : Str), 4)]) (blkOk_by (by kernel_rfl)) (tg_n (j := 4)) (by decide) (fun s0 H0 C0 cl0 fp0 => (pgN 4 sc__law_steps.nd)) (fun s0 H0 C0 cl0 fp0 => sts_nil) (fun s0 H0 C0 cl0 fp0 => (s_if DE.ok (st_cmp (op2_eq hr.units) (SE.b (s_call DE.ok (ok__law_dip kx G c) (hr.mono (by decide)) pas_no rfl (He.glo_ok kx G (x := "_law_dip") (c.a 5 rfl)) (sl_cons (vE 0) (sl_cons se_int sl_nil)))) (SE.b se_int) rfl) se_non (s_call DE.ok (ok__law_dip kx G c) (hr.mono (by decide)) pas_no rfl (He.glo_ok kx G (x := "_law_dip") (c.a 5 rfl)) (sl_cons (vE 0) (sl_cons (s_bin DE.ok op2_add (vB 1) (SE.b se_int)) sl_nil)))))) (ss_cons (ss_if (st_cmp (op2_eq hr.units) (SE.b (s_call DE.ok (ok__law_dip kx G c) (hr.mono (by decide)) pasX rfl (He.glo_ok kx G (x := "_law_dip") (c.a 5 rfl)) (sl_cons (vE 0) (sl_cons se_int sl_nil)))) (SE.b se_int) rfl) (ss_one (ss_for ownX rfl (si_rng1 (vE 2) rfl (He.free_ok kx G (x := "range") (c.a 3 rfl))) (tg_n (j := 4)) (pgN 4 sc__law_steps.nd) (ss_one (ss_sub (i := 3) (u1 hr) rfl (by first | exact Or.inl rfl | exact Or.inr (Or.inl rfl)) (vE 4) (s_if DE.ok (st_cmp op2_isN (SE.b (s_ix (u1 hr) (vB 3) (vB 4))) (SE.b se_non) rfl) se_non (s_bin DE.ok op2_add (SE.b (s_ix (u1 hr) (vB 3) (vB 4))) (SE.b (s_bin DE.ok op2_div (SE.b (s_bin DE.ok op2_mul (vB 1) (SE.b (s_bin DE.ok op2_add (vB 4) (SE.b se_int))))) (SE.b se_int))))))))) ss_nil) (ss_cons (ss_if (st_cmp (op2_eq hr.units) (SE.b (SO.e (so_lc rfl sc__law_steps.nd (si_seqB (vB 3)) (own := [(("_law_cost" : Str), 5)]) (blkOk_by (by kernel_rfl)) (tg_n (j := 5)) (by decide) (fun s0 H0 C0 cl0 fp0 => (pgN 5 sc__law_steps.nd)) (fun s0 H0 C0 cl0 fp0 => (sts_one (st_cmp op2_notN (vB 5) (SE.b se_non) rfl))) (fun s0 H0 C0 cl0 fp0 => (vE 5))))) (SE.b (SO.e (so_lst sl_nil))) rfl) (ss_one (ss_sub (i := 3) (u1 hr) rfl (by first | exact Or.inl rfl | exact Or.inr (Or.inl rfl)) (s_call DE.ok (ok__law_dip kx G c) (hr.mono (by decide)) pasX rfl (He.glo_ok kx G (x := "_law_dip") (c.a 5 rfl)) (sl_cons (vE 0) (sl_cons (vE 2) sl_nil))) (s_call DE.ok (ok__law_dip kx G c) (hr.mono (by decide)) pasX rfl (He.glo_ok kx G (x := "_law_dip") (c.a 5 rfl)) (sl_cons (vE 0) (sl_cons (s_bin DE.ok op2_add (vB 1) (SE.b se_int)) sl_nil))))) ss_nil) (ss_one (ss_ret DE.ok (s_callTy DE.ok call_tupS rfl (He.free_ok kx G (x := "tuple") (c.a 6 rfl)) (by decide +kernel) (slb_cons (vB 3) slb_nil))))))))
theorem ok__law_pick (kx : K.In h) (G : h.Ns mainGlobals mg) (c : SaysM fa fm fn K) : FnK P w K mg base (DE K) 2 2 ((.g "_law_pick" : Loc3).at_ K) [] c__law_pick := by
  obtain ⟨fd, F⟩ := c.d 2 (d := d__law_pick) rfl
  exact fnk_of (fin := endE) F sc__law_pick rfl (F.bindsN fun _ _ _ _ _ _ us hl => match us, hl with | [_, _], _ => rfl) .nil (fun _ _ => .nil) finE fun cdv A outer s H E hr =>
    (ss_cons (ss_set (i := 2) sc__law_pick.nd rfl (by first | exact Or.inl rfl | exact Or.inr rfl) (s_call DE.ok (ok__law_dip kx G c) (hr.mono (by decide)) pasX rfl (He.glo_ok kx G (x := "_law_dip") (c.a 5 rfl)) (sl_cons (vE 0) (sl_cons (s_callB DE.ok call_lenS rfl (He.free_ok kx G (x := "len") (c.a 0 rfl)) (by decide +kernel) (slb_cons (vB 1) slb_nil)) sl_nil)))) (ss_one (ss_ret DE.ok (s_ix (u1 hr) (vB 1) (vB 2)))))
theorem ok_is_integer (kx : K.In h) (G : h.Ns mainGlobals mg) (c : SaysM fa fm fn K) : FnK P w K mg base (DE K) 1 1 ((.g "is_integer" : Loc3).at_ K) [] c_is_integer := by
  obtain ⟨fd, F⟩ := c.d 3 (d := d_is_integer) rfl
  exact fnk_of (fin := endE) F sc_is_integer rfl (F.bindsN fun _ _ _ _ _ _ us hl => match us, hl with | [_], _ => rfl) .nil (fun _ _ => .nil) finE fun cdv A outer s H E hr =>
    (ss_one (ss_ret DE.ok (se_and (se_isi (isK_T tyT_int (fun _ h => nomatch h)) (vB 0) (pe_tyN (n := "int") rfl (He.free_ok kx G (x := "int") (c.a 4 rfl)) (by decide +kernel)) (.ty "int") rfl (He.free_ok kx G (x := "isinstance") (c.a 9 rfl))) (se_one (se_not (se_isi (isK_T tyT_bool (fun _ h => nomatch h)) (vB 0) (pe_tyN (n := "bool") rfl (He.free_ok kx G (x := "bool") (c.a 12 rfl)) (by decide +kernel)) (.ty "bool") rfl (He.free_ok kx G (x := "isinstance") (c.a 9 rfl))))))))
theorem ok_is_within (kx : K.In h) (G : h.Ns mainGlobals mg) (c : SaysM fa fm fn K) : FnK P w K mg base (DE K) 2 3 ((.g "is_within" : Loc3).at_ K) [] c_is_within := by
  obtain ⟨fd, F⟩ := c.d 4 (d := d_is_within) rfl
  exact fnk_of (fin := endE) F sc_is_within rfl (F.bindsN fun _ _ _ _ _ _ us hl => match us, hl with | [_, _, _], _ => rfl) .nil (fun _ _ => .nil) finE fun cdv A outer s H E hr =>
    (ss_one (ss_ret DE.ok (se_and (s_call DE.ok (ok_is_integer kx G c) (hr.mono (by decide)) pasX rfl (He.glo_ok kx G (x := "is_integer") (c.a 13 rfl)) (sl_cons (vE 0) sl_nil)) (se_one (se_ch op2_le op2_le (vB 1) (vB 0) (vB 2))))))
theorem ok_is_price (kx : K.In h) (G : h.Ns mainGlobals mg) (c : SaysM fa fm fn K) : FnK P w K mg base (DE K) 3 1 ((.g "is_price" : Loc3).at_ K) [] c_is_price := by
  obtain ⟨fd, F⟩ := c.d 5 (d := d_is_price) rfl
  exact fnk_of (fin := endE) F sc_is_price rfl (F.bindsN fun _ _ _ _ _ _ us hl => match us, hl with | [_], _ => rfl) .nil (fun _ _ => .nil) finE fun cdv A outer s H E hr =>
    (ss_one (ss_ret DE.ok (s_call DE.ok (ok_is_within kx G c) (hr.mono (by decide)) pasX rfl (He.glo_ok kx G (x := "is_within") (c.a 15 rfl)) (sl_cons (vE 0) (sl_cons se_int (sl_cons (se_globI rfl (He.int_ok kx G (x := "MOST_PRICE") (i := 1000000000000) (c.a 14 rfl))) sl_nil))))))
theorem ok_check_tariff_prices (kx : K.In h) (G : h.Ns mainGlobals mg) (c : SaysM fa fm fn K) : FnK P w K mg base (DE K) 4 1 ((.g "check_tariff_prices" : Loc3).at_ K) [] c_check_tariff_prices := by
  obtain ⟨fd, F⟩ := c.d 6 (d := d_check_tariff_prices) rfl
  exact fnk_of (fin := endE) F sc_check_tariff_prices rfl (F.bindsN fun _ _ _ _ _ _ us hl => match us, hl with | [_], _ => rfl) .nil (fun _ _ => .nil) finE fun cdv A outer s H E hr =>
    (ss_cons (ss_if (st_w (sw_or (st_not (st_val (se_isi (isK_T tyT_tuple (fun _ h => nomatch h)) (vB 0) (pe_tyN (n := "tuple") rfl (He.free_ok kx G (x := "tuple") (c.a 6 rfl)) (by decide +kernel)) (.ty "tuple") rfl (He.free_ok kx G (x := "isinstance") (c.a 9 rfl))))) (sw_or1 (st_not (st_ch op2_le op2_le (SE.b se_int) (SE.b (s_callB DE.ok call_lenS rfl (He.free_ok kx G (x := "len") (c.a 0 rfl)) (by decide +kernel) (slb_cons (vB 0) slb_nil))) (SE.b (se_globI rfl (He.int_ok kx G (x := "MOST_PIECE") (i := 12) (c.a 10 rfl))))))))) (ss_one ss_never) ss_nil) (ss_cons (ss_for ownX rfl (si_enu (vE 0) rfl (He.free_ok kx G (x := "enumerate") (c.a 11 rfl))) (tg_t (tgs_cons (j := 1) (tgs_cons (j := 2) tgs_nil)) rfl) (pg_tup rfl (pgs_cons (pgN 1 sc_check_tariff_prices.nd) (pgs_cons (pgN 2 sc_check_tariff_prices.nd) pgs_nil))) (ss_one (ss_if (st_w (sw_and (st_cmp op2_notN (vB 2) (SE.b se_non) rfl) (sw_and1 (st_not (st_val (s_call DE.ok (ok_is_price kx G c) (hr.mono (by decide)) pasX rfl (He.glo_ok kx G (x := "is_price") (c.a 16 rfl)) (sl_cons (vE 2) sl_nil))))))) (ss_one ss_never) ss_nil))) (ss_one (ss_if (st_val (s_callB DE.ok (call_allS rfl) rfl (He.free_ok kx G (x := "all") (c.a 17 rfl)) (by decide +kernel) (slb_cons (SE.b (SO.e (so_lc rfl sc_check_tariff_prices.nd (si_seqB (vB 0)) (own := [(("price" : Str), 2)]) (blkOk_by (by kernel_rfl)) (tg_n (j := 2)) (by decide) (fun s0 H0 C0 cl0 fp0 => (pgN 2 sc_check_tariff_prices.nd)) (fun s0 H0 C0 cl0 fp0 => sts_nil) (fun s0 H0 C0 cl0 fp0 => (s_cmp DE.ok op2_isN (vB 2) (SE.b se_non) rfl))))) slb_nil))) (ss_one ss_never) ss_nil))))
theorem ok_Tariff___init__ (kx : K.In h) (G : h.Ns mainGlobals mg) (c : SaysM fa fm fn K) : InK P w K mg base 5 1 "Tariff" ((.m "Tariff" "__init__" : Loc3).at_ K) [] c_Tariff___init__ := by
  obtain ⟨fd, F⟩ := c.d 7 (d := d_Tariff___init__) rfl
  exact ink_of (He.mkr_ok (x := "Tariff") (c.a 22 rfl)) F sc_Tariff___init__ rfl (F.bindsN fun _ _ _ _ _ _ us hl => match us, hl with | [_, _], _ => rfl) .nil (fun _ _ => .nil) fun cdv A outer s H E hr =>
    (ss_cons (ss_expr (s_call DE.ok (ok_check_tariff_prices kx G c) (hr.mono (by decide)) pasX rfl (He.glo_ok kx G (x := "check_tariff_prices") (c.a 18 rfl)) (sl_cons (vE 1) sl_nil))) (ss_cons (ss_fld (i := 0) rfl (by first | exact Or.inl rfl | exact Or.inr (Or.inl rfl)) (vE 1) (He.cls_ok (x := "Tariff") (c.a 19 rfl)) (He.noat_ok (x := "Tariff") (f := "row") (c.a 20 rfl))) (ss_one (ss_fld (i := 0) rfl (by first | exact Or.inl rfl | exact Or.inr (Or.inl rfl)) (SO.e (so_lc rfl sc_Tariff___init__.nd (SI.any (si_enu (vE 1) rfl (He.free_ok kx G (x := "enumerate") (c.a 11 rfl)))) (own := [(("index" : Str), 2), (("price" : Str), 3)]) (blkOk_by (by kernel_rfl)) (tg_t (tgs_cons (j := 2) (tgs_cons (j := 3) tgs_nil)) rfl) (by decide) (fun s0 H0 C0 cl0 fp0 => (pg_tup rfl (pgs_cons (pgN 2 sc_Tariff___init__.nd) (pgs_cons (pgN 3 sc_Tariff___init__.nd) pgs_nil)))) (fun s0 H0 C0 cl0 fp0 => (sts_one (st_cmp op2_notN (vB 3) (SE.b se_non) rfl))) (fun s0 H0 C0 cl0 fp0 => (se_tup (sl_cons (s_bin DE.ok op2_add (vB 2) (SE.b se_int)) (sl_cons (vE 3) sl_nil)))))) (He.cls_ok (x := "Tariff") (c.a 19 rfl)) (He.noat_ok (x := "Tariff") (f := "pieces") (c.a 21 rfl))))))
theorem ok__law_fares (kx : K.In h) (G : h.Ns mainGlobals mg) (c : SaysM fa fm fn K) : FnK P w K mg base (DE K) 1 2 ((.g "_law_fares" : Loc3).at_ K) [] c__law_fares := by
  obtain ⟨fd, F⟩ := c.d 8 (d := d__law_fares) rfl
  exact fnk_of (fin := endE) F sc__law_fares rfl (F.bindsN fun _ _ _ _ _ _ us hl => match us, hl with | [_, _], _ => rfl) .nil (fun _ _ => .nil) finE fun cdv A outer s H E hr =>
    (ss_cons (ss_own (i := 2) sc__law_fares.nd rfl (by first | exact Or.inl rfl | exact Or.inr rfl) (so_lst (sl_cons se_int sl_nil))) (ss_cons (ss_for ownX rfl (si_rng2 se_int (s_bin DE.ok op2_add (vB 1) (SE.b se_int)) rfl (He.free_ok kx G (x := "range") (c.a 3 rfl))) (tg_n (j := 3)) (pgN 3 sc__law_fares.nd) (ss_cons (ss_own (i := 4) sc__law_fares.nd rfl (by first | exact Or.inl rfl | exact Or.inr rfl) (so_lst sl_nil)) (ss_cons (ss_for ownX rfl (si_rng1 (s_callB DE.ok call_lenS rfl (He.free_ok kx G (x := "len") (c.a 0 rfl)) (by decide +kernel) (slb_cons (vB 0) slb_nil)) rfl (He.free_ok kx G (x := "range") (c.a 3 rfl))) (tg_n (j := 5)) (pgN 5 sc__law_fares.nd) (ss_one (ss_if (st_cmp op2_notN (SE.b (s_ix (u1 hr) (vB 0) (vB 5))) (SE.b se_non) rfl) (ss_one (ss_app (i := 4) rfl (by first | exact Or.inl rfl | exact Or.inr (Or.inl rfl)) (s_bin DE.ok op2_add (SE.b (s_ix (u1 hr) (vB 0) (vB 5))) (SE.b (s_ix (u1 hr) (vB 2) (SE.b (s_callB DE.ok (call_maxS rfl) rfl (He.free_ok kx G (x := "max") (c.a 2 rfl)) (by decide +kernel) (slb_cons (SE.b se_int) (slb_cons (SE.b (s_bin DE.ok op2_sub (SE.b (s_bin DE.ok op2_sub (vB 3) (vB 5))) (SE.b se_int))) slb_nil))))))))) ss_nil))) (ss_one (ss_app (i := 2) rfl (by first | exact Or.inl rfl | exact Or.inr (Or.inl rfl)) (s_callB DE.ok (call_minS rfl) rfl (He.free_ok kx G (x := "min") (c.a 1 rfl)) (by decide +kernel) (slb_cons (vB 4) slb_nil))))))) (sss_share (i := 2) (ss_one (ss_ret DE.ok (vE 2))))))
theorem ok_best_of (kx : K.In h) (G : h.Ns mainGlobals mg) (c : SaysM fa fm fn K) : FnK P w K mg base (DE K) 1 1 ((.g "best_of" : Loc3).at_ K) [] c_best_of := by
  obtain ⟨fd, F⟩ := c.d 9 (d := d_best_of) rfl
  exact fnk_of (fin := endE) F sc_best_of rfl (F.bindsN fun _ _ _ _ _ _ us hl => match us, hl with | [_], _ => rfl) .nil (fun _ _ => .nil) finE fun cdv A outer s H E hr =>
    (ss_cons (ss_set (i := 1) sc_best_of.nd rfl (by first | exact Or.inl rfl | exact Or.inr rfl) (s_ix (u1 hr) (vB 0) (SE.b se_int))) (ss_cons (ss_for ownX rfl (si_seq (vE 0)) (tg_n (j := 2)) (pgN 2 sc_best_of.nd) (ss_one (ss_if (st_cmp (op2_lt hr.units0) (SE.b (s_bin DE.ok op2_mul (SE.b (s_ix (u1 hr) (vB 2) (SE.b se_int))) (SE.b (s_ix (u1 hr) (vB 1) (SE.b se_int))))) (SE.b (s_bin DE.ok op2_mul (SE.b (s_ix (u1 hr) (vB 1) (SE.b se_int))) (SE.b (s_ix (u1 hr) (vB 2) (SE.b se_int))))) rfl) (ss_one (ss_set (i := 1) sc_best_of.nd rfl (by first | exact Or.inl rfl | exact Or.inr rfl) (vE 2))) ss_nil))) (ss_one (ss_ret DE.ok (s_ix (u1 hr) (vB 1) (SE.b se_int))))))
theorem ok_Tariff_best (kx : K.In h) (G : h.Ns mainGlobals mg) (c : SaysM fa fm fn K) : FnK P w K mg base (DE K) 2 1 ((.p "Tariff" "best" : Loc3).at_ K) [] c_Tariff_best := by
  obtain ⟨fd, F⟩ := c.d 10 (d := d_Tariff_best) rfl
  exact fnk_of (fin := endE) F sc_Tariff_best rfl (F.bindsN fun _ _ _ _ _ _ us hl => match us, hl with | [_], _ => rfl) .nil (fun _ _ => .nil) finE fun cdv A outer s H E hr =>
    (ss_one (ss_ret DE.ok (s_call DE.ok (ok_best_of kx G c) (hr.mono (by decide)) pasX rfl (He.glo_ok kx G (x := "best_of") (c.a 25 rfl)) (sl_cons (s_attrB DE.ok (op1_fld (He.cls_ok (x := "Tariff") (c.a 19 rfl)) (He.noat_ok (x := "Tariff") (f := "pieces") (c.a 21 rfl))) (vB 0)) sl_nil))))
theorem ok__law_far (kx : K.In h) (G : h.Ns mainGlobals mg) (c : SaysM fa fm fn K) : FnK P w K mg base (DE K) 3 1 ((.g "_law_far" : Loc3).at_ K) [] c__law_far := by
  obtain ⟨fd, F⟩ := c.d 11 (d := d__law_far) rfl
  exact fnk_of (fin := endE) F sc__law_far rfl (F.bindsN fun _ _ _ _ _ _ us hl => match us, hl with | [_], _ => rfl) .nil (fun _ _ => .nil) finE fun cdv A outer s H E hr =>
    (ss_cons (ss_set (i := 1) sc__law_far.nd rfl (by first | exact Or.inl rfl | exact Or.inr rfl) (s_call DE.ok (ok__law_pick kx G c) (hr.mono (by decide)) pasX rfl (He.glo_ok kx G (x := "_law_pick") (c.a 7 rfl)) (sl_cons (vE 0) (sl_cons (SO.e (so_lst (sl_cons (s_bin DE.ok op2_pow (SE.b se_int) (SE.b se_int)) (sl_cons (s_bin DE.ok op2_pow (SE.b se_int) (SE.b se_int)) (sl_cons (s_bin DE.ok op2_pow (SE.b se_int) (SE.b se_int)) (sl_cons (s_bin DE.ok op2_pow (SE.b se_int) (SE.b se_int)) sl_nil)))))) sl_nil)))) (ss_one (ss_ret DE.ok (s_bin DE.ok op2_add (SE.b (s_bin DE.ok op2_add (vB 1) (SE.b (s_call DE.ok (ok__law_dip kx G c) (hr.mono (by decide)) pasX rfl (He.glo_ok kx G (x := "_law_dip") (c.a 5 rfl)) (sl_cons (vE 0) (sl_cons (vE 1) sl_nil)))))) (SE.b se_int)))))
theorem ok_Tariff_turning (kx : K.In h) (G : h.Ns mainGlobals mg) (c : SaysM fa fm fn K) : FnK P w K mg base (DE K) 4 1 ((.m "Tariff" "turning" : Loc3).at_ K) [] c_Tariff_turning := by
  obtain ⟨fd, F⟩ := c.d 12 (d := d_Tariff_turning) rfl
  exact fnk_of (fin := endE) F sc_Tariff_turning rfl (F.bindsN fun _ _ _ _ _ _ us hl => match us, hl with | [_], _ => rfl) .nil (fun _ _ => .nil) finE fun cdv A outer s H E hr =>
    (ss_one (ss_ret DE.ok (s_bin DE.ok op2_mul (SE.b (s_bin DE.ok op2_sub (SE.b (s_attr DE.ok (op1_prop (He.cls_ok (x := "Tariff") (c.a 19 rfl)) (propB_ok (C := "Tariff") (f := "best") (c.b 0 rfl)) (ok_Tariff_best kx G c) (hr.mono (by decide))) (vE 0))) (SE.b se_int))) (SE.b (s_callB DE.ok call_lenS rfl (He.free_ok kx G (x := "len") (c.a 0 rfl)) (by decide +kernel) (slb_cons (SE.b (s_attrB DE.ok (op1_fld (He.cls_ok (x := "Tariff") (c.a 19 rfl)) (He.noat_ok (x := "Tariff") (f := "row") (c.a 20 rfl))) (vB 0))) slb_nil))))))
theorem ok_Tariff_sums (kx : K.In h) (G : h.Ns mainGlobals mg) (c : SaysM fa fm fn K) : FnK P w K mg base (DE K) 5 1 ((.m "Tariff" "sums" : Loc3).at_ K) [] c_Tariff_sums := by
  obtain ⟨fd, F⟩ := c.d 13 (d := d_Tariff_sums) rfl
  exact fnk_of (fin := endE) F sc_Tariff_sums rfl (F.bindsN fun _ _ _ _ _ _ us hl => match us, hl with | [_], _ => rfl) .nil (fun _ _ => .nil) finE fun cdv A outer s H E hr =>
    (ss_cons (ss_own (i := 1) sc_Tariff_sums.nd rfl (by first | exact Or.inl rfl | exact Or.inr rfl) (so_lst (sl_cons se_int sl_nil))) (ss_cons (ss_for ownX rfl (si_rng2 se_int (s_bin DE.ok op2_add (SE.b (s_meth0 DE.ok (He.cls_ok (x := "Tariff") (c.a 19 rfl)) (He.meth_ok (x := "Tariff") (m := "turning") (c.a 29 rfl)) (ok_Tariff_turning kx G c) (hr.mono (by decide)) pasX (vE 0))) (SE.b se_int)) rfl (He.free_ok kx G (x := "range") (c.a 3 rfl))) (tg_n (j := 2)) (pgN 2 sc_Tariff_sums.nd) (ss_cons (ss_lc (i := 3) rfl sc_Tariff_sums.nd rfl rfl rfl (si_seqB (SE.b (s_attrB DE.ok (op1_fld (He.cls_ok (x := "Tariff") (c.a 19 rfl)) (He.noat_ok (x := "Tariff") (f := "pieces") (c.a 21 rfl))) (vB 0)))) (own := [(("piece" : Str), 4), (("price" : Str), 5)]) (blkOk_by (by kernel_rfl)) (tg_t (tgs_cons (j := 4) (tgs_cons (j := 5) tgs_nil)) rfl) (by decide) (fun s0 H0 C0 cl0 fp0 => (pg_tup rfl (pgs_cons (pgN 4 sc_Tariff_sums.nd) (pgs_cons (pgN 5 sc_Tariff_sums.nd) pgs_nil)))) (fun s0 H0 C0 cl0 fp0 => (sts_one (st_w (sw_and (st_cmp op2_le (vB 4) (vB 2) rfl) (sw_and1 (st_cmp op2_notN (SE.b (s_ix (u1 hr) (vB 1) (SE.b (s_bin DE.ok op2_sub (vB 2) (vB 4))))) (SE.b se_non) rfl)))))) (fun s0 H0 C0 cl0 fp0 => (s_bin DE.ok op2_add (SE.b (s_ix (u1 hr) (vB 1) (SE.b (s_bin DE.ok op2_sub (vB 2) (vB 4))))) (vB 5)))) (sss_share (i := 3) (ss_one (ss_app (i := 1) rfl (by first | exact Or.inl rfl | exact Or.inr (Or.inl rfl)) (s_if DE.ok (st_cmp (op2_ne hr.units) (vB 3) (SE.b (SO.e (so_lst sl_nil))) rfl) (s_callB DE.ok (call_minS rfl) rfl (He.free_ok kx G (x := "min") (c.a 1 rfl)) (by decide +kernel) (slb_cons (vB 3) slb_nil)) se_non)))))) (sss_share (i := 1) (ss_one (ss_ret DE.ok (vE 1))))))
theorem ok_fare_of (kx : K.In h) (G : h.Ns mainGlobals mg) (c : SaysM fa fm fn K) : FnK P w K mg base (DE K) 6 2 ((.g "fare_of" : Loc3).at_ K) [] c_fare_of := by
  obtain ⟨fd, F⟩ := c.d 14 (d := d_fare_of) rfl
  exact fnk_of (fin := endE) F sc_fare_of rfl (F.bindsN fun _ _ _ _ _ _ us hl => match us, hl with | [_, _], _ => rfl) .nil (fun _ _ => .nil) finE fun cdv A outer s H E hr =>
    (ss_cons (ss_par (i := 2) (j := 3) rfl sc_fare_of.nd rfl rfl (by decide) rfl rfl (s_attr DE.ok (op1_prop (He.cls_ok (x := "Tariff") (c.a 19 rfl)) (propB_ok (C := "Tariff") (f := "best") (c.b 0 rfl)) (ok_Tariff_best kx G c) (hr.mono (by decide))) (vE 0)) (s_ix (u1 hr) (SE.b (SO.e (s_callTy DO.ok (call_dictS rfl) rfl (He.free_ok kx G (x := "dict") (c.a 28 rfl)) (by decide +kernel) (slb_cons (SE.b (s_attrB DE.ok (op1_fld (He.cls_ok (x := "Tariff") (c.a 19 rfl)) (He.noat_ok (x := "Tariff") (f := "pieces") (c.a 21 rfl))) (vB 0))) slb_nil)))) (SE.b (s_attr DE.ok (op1_prop (He.cls_ok (x := "Tariff") (c.a 19 rfl)) (propB_ok (C := "Tariff") (f := "best") (c.b 0 rfl)) (ok_Tariff_best kx G c) (hr.mono (by decide))) (vE 0))))) (ss_cons (ss_own (i := 4) sc_fare_of.nd rfl (by first | exact Or.inl rfl | exact Or.inr rfl) (so_lst sl_nil)) (ss_cons (ss_for ownX rfl (si_enu (s_meth0 DE.ok (He.cls_ok (x := "Tariff") (c.a 19 rfl)) (He.meth_ok (x := "Tariff") (m := "sums") (c.a 30 rfl)) (ok_Tariff_sums kx G c) (hr.mono (by decide)) pasX (vE 0)) rfl (He.free_ok kx G (x := "enumerate") (c.a 11 rfl))) (tg_t (tgs_cons (j := 5) (tgs_cons (j := 6) tgs_nil)) rfl) (pg_tup rfl (pgs_cons (pgN 5 sc_fare_of.nd) (pgs_cons (pgN 6 sc_fare_of.nd) pgs_nil))) (ss_one (ss_if (st_cmp op2_notN (vB 6) (SE.b se_non) rfl) (ss_one (ss_app (i := 4) rfl (by first | exact Or.inl rfl | exact Or.inr (Or.inl rfl)) (s_bin DE.ok op2_add (vB 6) (SE.b (s_bin DE.ok op2_mul (vB 3) (SE.b (s_callB DE.ok (call_maxS rfl) rfl (He.free_ok kx G (x := "max") (c.a 2 rfl)) (by decide +kernel) (slb_cons (SE.b se_int) (slb_cons (SE.b (s_bin DE.ok op2_div (SE.b (s_bin DE.ok op2_sub (SE.b (s_bin DE.ok op2_add (SE.b (s_bin DE.ok op2_sub (vB 1) (vB 5))) (vB 2))) (SE.b se_int))) (vB 2))) slb_nil))))))))) ss_nil))) (ss_one (ss_ret DE.ok (s_callB DE.ok (call_minS rfl) rfl (He.free_ok kx G (x := "min") (c.a 1 rfl)) (by decide +kernel) (slb_cons (vB 4) slb_nil)))))))
theorem ok_Tariff_fare (kx : K.In h) (G : h.Ns mainGlobals mg) (c : SaysM fa fm fn K) : FnK P w K mg base (DE K) 7 2 ((.m "Tariff" "fare" : Loc3).at_ K) [] c_Tariff_fare := by
  obtain ⟨fd, F⟩ := c.d 15 (d := d_Tariff_fare) rfl
  exact fnk_of (fin := endE) F sc_Tariff_fare rfl (F.bindsN fun _ _ _ _ _ _ us hl => match us, hl with | [_, _], _ => rfl) .nil (fun _ _ => .nil) finE fun cdv A outer s H E hr =>
    (ss_cons (ss_if (st_not (st_val (s_call DE.ok (ok_is_within kx G c) (hr.mono (by decide)) pasX rfl (He.glo_ok kx G (x := "is_within") (c.a 15 rfl)) (sl_cons (vE 1) (sl_cons se_int (sl_cons (se_globI rfl (He.int_ok kx G (x := "MOST_LENGTH") (i := 1000000000000000000000000000000) (c.a 27 rfl))) sl_nil)))))) (ss_one ss_never) ss_nil) (ss_one (ss_ret DE.ok (s_call DE.ok (ok_fare_of kx G c) (hr.mono (by decide)) pasX rfl (He.glo_ok kx G (x := "fare_of") (c.a 31 rfl)) (sl_cons (vE 0) (sl_cons (vE 1) sl_nil))))))
theorem ok__law_right (kx : K.In h) (G : h.Ns mainGlobals mg) (c : SaysM fa fm fn K) : FnK P w K mg base (DE K) 8 1 ((.g "_law_right" : Loc3).at_ K) [] c__law_right := by
  obtain ⟨fd, F⟩ := c.d 16 (d := d__law_right) rfl
  exact fnk_of (fin := endE) F sc__law_right rfl (F.bindsN fun _ _ _ _ _ _ us hl => match us, hl with | [_], _ => rfl) .nil (fun _ _ => .nil) finE fun cdv A outer s H E hr =>
    (ss_cons (ss_for ownX rfl (si_rng1 se_int rfl (He.free_ok kx G (x := "range") (c.a 3 rfl))) (tg_n (j := 1)) (pgN 1 sc__law_right.nd) (ss_cons (ss_set (i := 2) sc__law_right.nd rfl (by first | exact Or.inl rfl | exact Or.inr rfl) (s_call DE.ok (ok__law_steps kx G c) (hr.mono (by decide)) pasX rfl (He.glo_ok kx G (x := "_law_steps") (c.a 8 rfl)) (sl_cons (vE 0) (sl_cons (s_call DE.ok (ok__law_pick kx G c) (hr.mono (by decide)) pasX rfl (He.glo_ok kx G (x := "_law_pick") (c.a 7 rfl)) (sl_cons (vE 0) (sl_cons (SO.e (so_lst (sl_cons se_int (sl_cons se_int (sl_cons (s_bin DE.ok op2_pow (SE.b se_int) (SE.b se_int)) sl_nil))))) sl_nil))) sl_nil)))) (ss_cons (ss_par (i := 3) (j := 4) rfl sc__law_right.nd rfl rfl (by decide) rfl rfl (SO.e (so_make (ok_Tariff___init__ kx G c) (hr.mono (by decide)) pasX rfl (He.glo_ok kx G (x := "Tariff") (c.a 23 rfl)) (sl_cons (vE 2) sl_nil))) (s_call DE.ok (ok__law_fares kx G c) (hr.mono (by decide)) pasX rfl (He.glo_ok kx G (x := "_law_fares") (c.a 24 rfl)) (sl_cons (vE 2) (sl_cons se_int sl_nil)))) (ss_cons (ss_set (i := 5) sc__law_right.nd rfl (by first | exact Or.inl rfl | exact Or.inr rfl) (s_attr DE.ok (op1_prop (He.cls_ok (x := "Tariff") (c.a 19 rfl)) (propB_ok (C := "Tariff") (f := "best") (c.b 0 rfl)) (ok_Tariff_best kx G c) (hr.mono (by decide))) (vE 3))) (ss_cons (ss_for ownX rfl (si_rng1 se_int rfl (He.free_ok kx G (x := "range") (c.a 3 rfl))) (tg_n (j := 6)) (pgN 6 sc__law_right.nd) (ss_cons (ss_set (i := 7) sc__law_right.nd rfl (by first | exact Or.inl rfl | exact Or.inr rfl) (s_call DE.ok (ok__law_far kx G c) (hr.mono (by decide)) pasX rfl (He.glo_ok kx G (x := "_law_far") (c.a 26 rfl)) (sl_cons (vE 0) sl_nil))) (ss_cons (ss_set (i := 8) sc__law_right.nd rfl (by first | exact Or.inl rfl | exact Or.inr rfl) (s_bin DE.ok op2_add (SE.b se_int) (SE.b (s_bin DE.ok op2_mod (SE.b (s_callTy DE.ok call_intS rfl (He.free_ok kx G (x := "int") (c.a 4 rfl)) (by decide +kernel) (slb_cons (SE.b (s_bin DE.ok op2_sub (vB 7) (SE.b se_int))) slb_nil))) (vB 5))))) (ss_cons (ss_if (st_cmp (op2_ne hr.units) (SE.b (s_meth DE.ok (He.cls_ok (x := "Tariff") (c.a 19 rfl)) (He.meth_ok (x := "Tariff") (m := "fare") (c.a 32 rfl)) (ok_Tariff_fare kx G c) (hr.mono (by decide)) pasX (vE 3) (sl_cons (vE 7) sl_nil))) (SE.b (s_bin DE.ok op2_add (SE.b (s_ix (u1 hr) (vB 4) (vB 8))) (SE.b (s_bin DE.ok op2_mul (SE.b (s_bin DE.ok op2_div (SE.b (s_bin DE.ok op2_sub (vB 7) (vB 8))) (vB 5))) (SE.b (s_ix (u1 hr) (vB 2) (SE.b (s_bin DE.ok op2_sub (vB 5) (SE.b se_int))))))))) rfl) (ss_one (ss_ret DE.ok se_bl)) ss_nil) (ss_cons (ss_set (i := 9) sc__law_right.nd rfl (by first | exact Or.inl rfl | exact Or.inr rfl) (s_bin DE.ok op2_add (SE.b se_int) (SE.b (s_call DE.ok (ok__law_dip kx G c) (hr.mono (by decide)) pasX rfl (He.glo_ok kx G (x := "_law_dip") (c.a 5 rfl)) (sl_cons (vE 0) (sl_cons (s_bin DE.ok op2_sub (vB 7) (SE.b se_int)) sl_nil)))))) (ss_one (ss_if (st_w (sw_or (st_cmp op2_gt (SE.b (s_meth DE.ok (He.cls_ok (x := "Tariff") (c.a 19 rfl)) (He.meth_ok (x := "Tariff") (m := "fare") (c.a 32 rfl)) (ok_Tariff_fare kx G c) (hr.mono (by decide)) pasX (vE 3) (sl_cons (vE 7) sl_nil))) (SE.b (s_bin DE.ok op2_add (SE.b (s_meth DE.ok (He.cls_ok (x := "Tariff") (c.a 19 rfl)) (He.meth_ok (x := "Tariff") (m := "fare") (c.a 32 rfl)) (ok_Tariff_fare kx G c) (hr.mono (by decide)) pasX (vE 3) (sl_cons (vE 9) sl_nil))) (SE.b (s_meth DE.ok (He.cls_ok (x := "Tariff") (c.a 19 rfl)) (He.meth_ok (x := "Tariff") (m := "fare") (c.a 32 rfl)) (ok_Tariff_fare kx G c) (hr.mono (by decide)) pasX (vE 3) (sl_cons (s_bin DE.ok op2_sub (vB 7) (vB 9)) sl_nil))))) rfl) (sw_or1 (st_cmp op2_gt (SE.b (s_meth DE.ok (He.cls_ok (x := "Tariff") (c.a 19 rfl)) (He.meth_ok (x := "Tariff") (m := "fare") (c.a 32 rfl)) (ok_Tariff_fare kx G c) (hr.mono (by decide)) pasX (vE 3) (sl_cons (vE 9) sl_nil))) (SE.b (s_meth DE.ok (He.cls_ok (x := "Tariff") (c.a 19 rfl)) (He.meth_ok (x := "Tariff") (m := "fare") (c.a 32 rfl)) (ok_Tariff_fare kx G c) (hr.mono (by decide)) pasX (vE 3) (sl_cons (vE 7) sl_nil))) rfl)))) (ss_one (ss_ret DE.ok se_bl)) ss_nil))))))) (ss_one (ss_if (st_cmp (op2_lt hr.units0) (SE.b (s_meth DE.ok (He.cls_ok (x := "Tariff") (c.a 19 rfl)) (He.meth_ok (x := "Tariff") (m := "fare") (c.a 32 rfl)) (ok_Tariff_fare kx G c) (hr.mono (by decide)) pasX (vE 3) (sl_cons (s_bin DE.ok op2_pow (SE.b se_int) (SE.b se_int)) sl_nil))) (SE.b (s_meth DE.ok (He.cls_ok (x := "Tariff") (c.a 19 rfl)) (He.meth_ok (x := "Tariff") (m := "fare") (c.a 32 rfl)) (ok_Tariff_fare kx G c) (hr.mono (by decide)) pasX (vE 3) (sl_cons (s_bin DE.ok op2_sub (SE.b (s_bin DE.ok op2_pow (SE.b se_int) (SE.b se_int))) (SE.b se_int)) sl_nil))) rfl) (ss_one (ss_ret DE.ok se_bl)) ss_nil))))))) (ss_one (ss_ret DE.ok se_bl)))
theorem ok__law_jar (kx : K.In h) (G : h.Ns mainGlobals mg) (c : SaysM fa fm fn K) : FnK P w K mg base (DE K) 1 2 ((.g "_law_jar" : Loc3).at_ K) [] c__law_jar := by
  obtain ⟨fd, F⟩ := c.d 17 (d := d__law_jar) rfl
  exact fnk_of (fin := endE) F sc__law_jar rfl (F.bindsN fun _ _ _ _ _ _ us hl => match us, hl with | [_, _], _ => rfl) .nil (fun _ _ => .nil) finE fun cdv A outer s H E hr =>
    (ss_cons (ss_set (i := 2) sc__law_jar.nd rfl (by first | exact Or.inl rfl | exact Or.inr rfl) (s_bin DE.ok op2_add (SE.b (s_bin DE.ok op2_mul (SE.b (s_bin DE.ok op2_mul (SE.b se_int) (SE.b (s_bin DE.ok op2_add (vB 1) (SE.b se_int))))) (SE.b (s_bin DE.ok op2_add (vB 1) (SE.b se_int))))) (SE.b (s_bin DE.ok op2_mul (SE.b se_int) (SE.b (s_callB DE.ok call_lenS rfl (He.free_ok kx G (x := "len") (c.a 0 rfl)) (by decide +kernel) (slb_cons (vB 0) slb_nil))))))) (ss_cons (ss_for ownX rfl (si_seq (se_sl (vB 0) sp_none (sp_some se_int))) (tg_n (j := 3)) (pgN 3 sc__law_jar.nd) (ss_one (ss_set (i := 2) sc__law_jar.nd rfl (by first | exact Or.inl rfl | exact Or.inr rfl) (s_bin DE.ok op2_mod (SE.b (s_callTy DE.ok call_intS rfl (He.free_ok kx G (x := "int") (c.a 4 rfl)) (by decide +kernel) (slb_cons (SE.b (s_bin DE.ok op2_add (SE.b (s_bin DE.ok op2_mul (vB 2) (SE.b se_int))) (vB 3))) slb_nil))) (SE.b se_int))))) (ss_cons (ss_set (i := 4) sc__law_jar.nd rfl (by first | exact Or.inl rfl | exact Or.inr rfl) (s_if DE.ok (st_cmp (op2_lt hr.units0) (vB 1) (SE.b (s_callB DE.ok call_lenS rfl (He.free_ok kx G (x := "len") (c.a 0 rfl)) (by decide +kernel) (slb_cons (vB 0) slb_nil))) rfl) (s_ix (u1 hr) (vB 0) (vB 1)) se_int)) (ss_cons (ss_set (i := 5) sc__law_jar.nd rfl (by first | exact Or.inl rfl | exact Or.inr rfl) (s_if DE.ok (st_w (sw_or (st_cmp (op2_lt hr.units0) (vB 4) (SE.b se_int) rfl) (sw_or1 (st_cmp op2_ge (vB 4) (SE.b (s_bin DE.ok op2_pow (SE.b se_int) (SE.b se_int))) rfl)))) (s_callB DE.ok call_absS rfl (He.free_ok kx G (x := "abs") (c.a 33 rfl)) (by decide +kernel) (slb_cons (vB 4) slb_nil)) se_int)) (ss_one (ss_ret DE.ok (SO.cell (so_lst (sl_cons (vE 5) (sl_cons (s_bin DE.ok op2_mod (SE.b (s_callTy DE.ok call_intS rfl (He.free_ok kx G (x := "int") (c.a 4 rfl)) (by decide +kernel) (slb_cons (SE.b (s_bin DE.ok op2_add (SE.b (s_bin DE.ok op2_add (SE.b (s_bin DE.ok op2_mul (vB 2) (SE.b se_int))) (SE.b (s_bin DE.ok op2_mul (vB 4) (SE.b se_int))))) (SE.b (s_bin DE.ok op2_mul (SE.b se_int) (SE.b (s_bin DE.ok op2_add (vB 1) (SE.b se_int))))))) slb_nil))) (SE.b se_int)) (sl_cons se_int sl_nil)))))))))))
theorem ok_law {fd : FuncData} (kx : K.In h) (G : h.Ns mainGlobals mg) (c : SaysM fa fm fn K) (F : FunD K d_law.name d_law.qual d_law.params d_law.body d_law.scope (d_law.dvs K) [] (d_law.loc.at_ K) fd) : FnOk P w K mg base (L2.CX P w) 9 (He.ga K "law") fd ["_law_script"] (spD K (DE K) 1 c_law) :=
  fnok_of (fin := endE) F sc_law rfl finE fun cdv A outer s H E hr =>
    (ss_one (ss_ret DE.ok (s_callB DE.ok (call_allS rfl) rfl (He.free_ok kx G (x := "all") (c.a 17 rfl)) (by decide +kernel) (slb_cons (SE.b (SO.e (so_lc rfl sc_law.nd (SI.any (si_rng1 (s_callB DE.ok (call_maxS rfl) rfl (He.free_ok kx G (x := "max") (c.a 2 rfl)) (by decide +kernel) (slb_cons (SE.b se_int) (slb_cons (SE.b (s_callB DE.ok (call_minS rfl) rfl (He.free_ok kx G (x := "min") (c.a 1 rfl)) (by decide +kernel) (slb_cons (SE.b (s_callB DE.ok call_lenS rfl (He.free_ok kx G (x := "len") (c.a 0 rfl)) (by decide +kernel) (slb_cons (vB 0) slb_nil))) (slb_cons (SE.b se_int) slb_nil)))) slb_nil))) rfl (He.free_ok kx G (x := "range") (c.a 3 rfl)))) (own := [(("_law_k" : Str), 1)]) (blkOk_by (by kernel_rfl)) (tg_n (j := 1)) (by decide) (fun s0 H0 C0 cl0 fp0 => (pgN 1 sc_law.nd)) (fun s0 H0 C0 cl0 fp0 => sts_nil) (fun s0 H0 C0 cl0 fp0 => (s_call DE.ok (ok__law_right kx G c) (hr.mono (by decide)) pas_no rfl (He.glo_ok kx G (x := "_law_right") (c.a 35 rfl)) (sl_cons (s_call DE.ok (ok__law_jar kx G c) (hr.mono (by decide)) pas_no rfl (He.glo_ok kx G (x := "_law_jar") (c.a 34 rfl)) (sl_cons (vE 0) (sl_cons (vE 1) sl_nil))) sl_nil)))))) slb_nil))))
end
theorem law_F {w : World} {K : PySem.W.Frag} {h : Heap} {mg : Str → Option Value} (kx : K.In h) (G : h.Ns mainGlobals mg) (c : SaysM fa fm fn K) :
    ∃ (K' : PySem.W.Frag) (fd : FuncData) (sp : Sp), K'.In h ∧ (∀ (s : Shared) (u : Value), BindsTo s fd ⟨[u], []⟩ [("_law_script", u)]) ∧
      (∀ (H : Hp) (a : Addr) (ns : List Int), ns.length ≤ 63 → Only H → SqL K' H a (ns.map V.int) → sp [.ref a] H (fun v _ => v = .bl true) fun _ _ _ => False) ∧
      ∀ base : Heap, K'.In base → base.Ns mainGlobals mg → FnOk (PySem.Challenge.rw_haulprices_k26_whole_fares_far_away).prog w K' mg base (CXa (PySem.Challenge.rw_haulprices_k26_whole_fares_far_away).prog) 9 (He.ga K "law") fd ["_law_script"] sp := by
  obtain ⟨fd, F⟩ := c.d 18 (d := d_law) rfl
  refine ⟨K, fd, spD K (DE K) 1 c_law, kx, fun s u => ?_, fun H a ns hl _ hS => law_sp hS (law_ok hl), fun base hb hm => ?_⟩
  · exact FunD.bindsA (ps := ["_law_script"]) F (fun _ _ _ _ _ _ us hl => match us, hl with | [_], _ => rfl) s [u] rfl
  · exact fn_any (ok_law kx G c F)
end K26

set_option maxRecDepth 100000
set_option maxHeartbeats 0
namespace K26
open PySem PySem.W PySem.Calls PyProof.Rows MP
abbrev Rr : OpenRow := OpenLaw.row PySem.Challenge.rw_haulprices_k26_whole_fares_far_away
abbrev hk : PySem.W.Hook := hookM 6 fa fm fn
def ob (s : PySem.W.SharedT) : AlM := obG 6 fa fm fn (HandSHeadRun.getT s)
theorem ob_eq (s : PySem.W.SharedT) : ob s = hk.obs s.abs := obG_eq (HandSHeadRun.getT_eq s)
def names : List PySem.Str := ([("_wall" : PySem.Str), ("WrongValue" : PySem.Str), ("InvalidLength" : PySem.Str), ("InvalidTariff" : PySem.Str), ("MOST_PRICE" : PySem.Str), ("MOST_PIECE" : PySem.Str), ("MOST_LENGTH" : PySem.Str), ("is_integer" : PySem.Str), ("is_within" : PySem.Str), ("is_price" : PySem.Str), ("check_tariff_prices" : PySem.Str), ("best_of" : PySem.Str), ("Tariff" : PySem.Str), ("fare_of" : PySem.Str), ("_law_jar" : PySem.Str), ("_law_dip" : PySem.Str), ("_law_pick" : PySem.Str), ("_law_steps" : PySem.Str), ("_law_fares" : PySem.Str), ("_law_far" : PySem.Str), ("_law_right" : PySem.Str)] : List PySem.Str)
theorem run (w : World) : HandSHeadRun.RunEq Rr (view Rr.prog [25]) hk ob 20000 names w := by
  intro os
  kernel_rfl
end K26

set_option maxRecDepth 100000
set_option maxHeartbeats 0
open PySem PySem.W PySem.Calls PyProof.Rows
theorem PySem.Challenge.cw_haulprices_k26_whole_fares_far_away_holds : PySem.Challenge.rw_haulprices_k26_whole_fares_far_away.Holds := by
  w_on; o_law
  refine HandSHeadRun.head_any (r := K26.Rr) (q := view K26.Rr.prog [25]) (H := K26.hk) (ob := K26.ob) (M := 20000) (loose := K26.names) (d := HandSHeadRun.topDef K26.Rr.prog 25) (kwd := []) K26.ob_eq
    (by kernel_rfl) (fun s => by kernel_rfl) K26.run (by kernel_rfl) (by kernel_rfl) (by kernel_rfl) (by rfl) (by first | assumption | decide +kernel) (by decide +kernel) ⟨rfl, rfl, rfl, rfl, rfl, by decide +kernel⟩ ?hw ?hc
  case hw => w_witness2
  case hc =>
    refine L2.walk_ofE (l := PySem.Challenge.rw_haulprices_k26_whole_fares_far_away) (n := 63) (k := 9) (x := "_law_script") (CX := MP.CXa (PySem.Challenge.rw_haulprices_k26_whole_fares_far_away).prog) rfl (by decide) (by kernel_rfl) ⟨rfl, by decide, by decide⟩ ?F MP.cxa_end
    intro w mg fa h Y G hmg0
    obtain ⟨K, KX, c⟩ := Y
    have hmg : mg ("law" : PySem.Str) = some (.ref fa) := by
      have e : (HandSHeadRun.topDef K26.Rr.prog 25).name = ("law" : PySem.Str) := by kernel_rfl
      rw [← e]
      exact hmg0
    have eg := hmg.symm.trans (He.glo_ok KX G (x := "law") (c.a 36 rfl))
    cases eg
    exact K26.law_F KX G c
