import PyProof.Rows.All
import Wide.All
import OpenK.AllK
import Wide.FinOn
import HandS.Base
import HandS.Call
import HandS.List
import HandS.Comp
import HandS.Ends
import HandS.Dict
import HandS.Iter
import HandS.Exc
import HandS.Wide
import HandS.Property
import HandS.IsInst
import HandS.Defaults
import HandS.HeadHook1
import HandS.HeadHook2
import HandS.HeadHook3
import HandS.HeadHook4
import HandS.Lambda
import HandS.TupAny
import HandS.TupLe
import HandS.DictEq
import KE.KDictCopyH
import HandS.DictTup
import HandS.Text
import HandS.ExcOwn
import HandS.CallSlots
import HandS.HeadEnd
import KE.GoesEnum
import HandS.Walk
import HandS.DictComp
import KE.KExcInit
import KE.KNest
import HandS.ExcInit
import HandS.ExcField
import HandS.Head0
import HandS.Head1
import HandS.Head2
import KE.KStateDown
import HandS.Words
import HandS.TupMul
import PyProof.FactsAll.tuple_2
import PyProof.ReprRoads
import PyProof.FitsInt
import PyProof.ReprLen
import HandS.RaiseMore
import HandS.Star
import HandS.Style
import HandS.OwnEq
import KE.KDictOf
import HandS.Conv
import PyProof.ConsumeWalk
import HandS.ClsMeth
import HandS.FStr
import KE.KCallOwn
import HandS.More
import HandS.CallLocal
import HandS.Deep
import KE.GoesZip
import HandS.Zip
import KE.KLam
import HandS.EndTab
import KE.SortKeyHeap
import HandS.Small
import KE.KExcIs
import KE.KTryMore
import HandS.HotCalls
import HandS.ExcIs
import PyProof.InstNe
import HandS.TryElse
import HandS.Nested
import KE.SortData
import PyProof.EqAt
import PyProof.NeKinds
import HandS.SetFor
import PyProof.StrLawsRepr
import PySem.Challenge.RW_haulprices_k08_bounds_and_texts
import HandS.Codes
set_option Elab.async false
set_option linter.all false
set_option maxRecDepth 100000
set_option maxHeartbeats 1000000
namespace MP
open PySem PySem.Spec PyProof.Rows L2
abbrev St := L2.St
class TabsP where
  ts : List (Addr × Str)
variable [TabsP]
inductive D where
  | non | bl (b : Bool) | int (i : Int) | str (s : Str)
  | tup (xs : List D) | lst (xs : List D)
  | dK (kvs : List (Key × D)) | dT (kvs : List (List Key × D))
  | ins (c : Str) (fs : List (Str × D))
  | cel (n : Nat)
  | scr (ns : List Int) | ktp (xs : List D)
  | cls (c : Str)
def nrm : Option HO → Option HO
  | some (.frz _ (.dK k)) => some (.dK k)
  | some (.frz _ (.dT k)) => some (.dT k)
  | some (.tbl _) => none
  | o => o
structure FLe (F F' : Hp) : Prop where
  le : ∀ a u, nrm (F a) = some u → nrm (F' a) = some u
  fz : ∀ a o u, F a = some (.frz o u) → F' a = some (.frz o u)
instance {F F' : Hp} : CoeFun (FLe F F') (fun _ => ∀ a u, nrm (F a) = some u → nrm (F' a) = some u) := ⟨FLe.le⟩
theorem FLe.refl (F : Hp) : FLe F F := ⟨fun _ _ h => h, fun _ _ _ h => h⟩
theorem FLe.trans {F G H : Hp} (a : FLe F G) (b : FLe G H) : FLe F H := ⟨fun x u h => b x u (a x u h), fun x o u h => b.fz x o u (a.fz x o u h)⟩
theorem nrm_lst {o : Option HO} {xs} (h : nrm o = some (.lst xs)) : o = some (.lst xs) := by
  unfold nrm at h; split at h <;> first | exact h | cases h
theorem nrm_tup {o : Option HO} {xs} (h : nrm o = some (.tup xs)) : o = some (.tup xs) := by
  unfold nrm at h; split at h <;> first | exact h | cases h
theorem nrm_ins {o : Option HO} {c d f} (h : nrm o = some (.ins c d f)) : o = some (.ins c d f) := by
  unfold nrm at h; split at h <;> first | exact h | cases h
theorem nrm_frzL {o : Option HO} {b xs} (h : nrm o = some (.frz b (.lst xs))) : o = some (.frz b (.lst xs)) := by
  unfold nrm at h; split at h <;> first | exact h | cases h
theorem nrm_frzT {o : Option HO} {b xs} (h : nrm o = some (.frz b (.tup xs))) : o = some (.frz b (.tup xs)) := by
  unfold nrm at h; split at h <;> first | exact h | cases h
theorem nrm_dK {o : Option HO} {xs} (h : nrm o = some (.dK xs)) : o = some (.dK xs) ∨ ∃ b, o = some (.frz b (.dK xs)) := by
  unfold nrm at h
  split at h
  · cases h; exact .inr ⟨_, rfl⟩
  · cases h
  · cases h
  · exact .inl h
theorem nrm_dT {o : Option HO} {xs} (h : nrm o = some (.dT xs)) : o = some (.dT xs) ∨ ∃ b, o = some (.frz b (.dT xs)) := by
  unfold nrm at h
  split at h
  · cases h
  · cases h; exact .inr ⟨_, rfl⟩
  · cases h
  · exact .inl h
theorem sqL_fle {K F F' a xs} (l : FLe F F') (h : SqL K F a xs) : SqL K F' a xs := by
  rcases h with (h | ⟨o, h⟩) | h
  · exact .inl (.inl (nrm_lst (l a (.lst xs) (by rw [h]; rfl))))
  · exact .inl (.inr ⟨o, nrm_frzL (l a (.frz o (.lst xs)) (by rw [h]; rfl))⟩)
  · exact .inr h
theorem sqT_fle {K F F' a xs} (l : FLe F F') (h : SqT K F a xs) : SqT K F' a xs := by
  rcases h with (h | ⟨o, h⟩) | h
  · exact .inl (.inl (nrm_tup (l a (.tup xs) (by rw [h]; rfl))))
  · exact .inl (.inr ⟨o, nrm_frzT (l a (.frz o (.tup xs)) (by rw [h]; rfl))⟩)
  · exact .inr h
def TupK (K : PySem.W.Frag) (F : Hp) (a : Addr) (vs : List V) : Prop := F a = some (.tup vs) ∨ (vs = [] ∧ SqT K F a [])
theorem TupK.sq {K F a vs} (h : TupK K F a vs) : SqT K F a vs := by
  rcases h with h | ⟨rfl, h⟩
  · exact SqT.of h
  · exact h
theorem TupK.fle {K F F' a vs} (l : FLe F F') (h : TupK K F a vs) : TupK K F' a vs := by
  rcases h with h | ⟨e, h⟩
  · exact .inl (nrm_tup (l a (.tup vs) (by rw [h]; rfl)))
  · exact .inr ⟨e, sqT_fle l h⟩
mutual
inductive Den (K : PySem.W.Frag) (F : Hp) (Ad : List Addr) : V → D → Prop
  | non : Den K F Ad .non .non
  | bl {b} : Den K F Ad (.bl b) (.bl b)
  | int {i} : Den K F Ad (.int i) (.int i)
  | str {s} : Den K F Ad (.str s) (.str s)
  | tup {a vs ds} : TupK K F a vs → DenL K F Ad vs ds → Den K F Ad (.ref a) (.tup ds)
  | ktp {a vs ds} : SqT K F a vs → DenL K F Ad vs ds → Den K F Ad (.ref a) (.ktp ds)
  | lst {a vs ds} : F a = some (.lst vs) → DenL K F Ad vs ds → Den K F Ad (.ref a) (.lst ds)
  | scr {a ns} : SqL K F a (ns.map V.int) → Den K F Ad (.ref a) (.scr ns)
  | dK {a vs ds} : nrm (F a) = some (.dK vs) → DenK K F Ad vs ds → Den K F Ad (.ref a) (.dK ds)
  | dT {a vs ds} : nrm (F a) = some (.dT vs) → DenT K F Ad vs ds → Den K F Ad (.ref a) (.dT ds)
  | ins {a c dx vs ds} : F a = some (.ins (He.ga K c) dx vs) → DenF K F Ad vs ds → Den K F Ad (.ref a) (.ins c ds)
  | cel {a n} : Ad[n]? = some a → Den K F Ad (.ref a) (.cel n)
  | cls {c} : Den K F Ad (.ref (He.ga K c)) (.cls c)
inductive DenL (K : PySem.W.Frag) (F : Hp) (Ad : List Addr) : List V → List D → Prop
  | nil : DenL K F Ad [] []
  | cons {v d vs ds} : Den K F Ad v d → DenL K F Ad vs ds → DenL K F Ad (v :: vs) (d :: ds)
inductive DenK (K : PySem.W.Frag) (F : Hp) (Ad : List Addr) : List (Key × V) → List (Key × D) → Prop
  | nil : DenK K F Ad [] []
  | cons {k v d vs ds} : Den K F Ad v d → DenK K F Ad vs ds → DenK K F Ad ((k, v) :: vs) ((k, d) :: ds)
inductive DenT (K : PySem.W.Frag) (F : Hp) (Ad : List Addr) : List (List Key × V) → List (List Key × D) → Prop
  | nil : DenT K F Ad [] []
  | cons {k v d vs ds} : Den K F Ad v d → DenT K F Ad vs ds → DenT K F Ad ((k, v) :: vs) ((k, d) :: ds)
inductive DenF (K : PySem.W.Frag) (F : Hp) (Ad : List Addr) : List (Str × V) → List (Str × D) → Prop
  | nil : DenF K F Ad [] []
  | cons {k v d vs ds} : Den K F Ad v d → DenF K F Ad vs ds → DenF K F Ad ((k, v) :: vs) ((k, d) :: ds)
end
section
variable {K : PySem.W.Frag} {F F' : Hp} {Ad Ad' : List Addr}
mutual
theorem Den.mono (l : FLe F F') (p : ∀ (n : Nat) (a : Addr), Ad[n]? = some a → Ad'[n]? = some a) : ∀ {v d}, Den K F Ad v d → Den K F' Ad' v d
  | _, _, .non => .non
  | _, _, .bl => .bl
  | _, _, .int => .int
  | _, _, .str => .str
  | _, _, .tup h r => .tup (h.fle l) (r.mono l p)
  | _, _, .ktp h r => .ktp (sqT_fle l h) (r.mono l p)
  | _, _, .lst h r => .lst (nrm_lst (l _ (.lst _) (by rw [h]; rfl))) (r.mono l p)
  | _, _, .scr h => .scr (sqL_fle l h)
  | _, _, .dK h r => .dK (l _ _ h) (r.mono l p)
  | _, _, .dT h r => .dT (l _ _ h) (r.mono l p)
  | _, _, .ins h r => .ins (nrm_ins (l _ (.ins _ _ _) (by rw [h]; rfl))) (r.mono l p)
  | _, _, .cel h => .cel (p _ _ h)
  | _, _, .cls => .cls
theorem DenL.mono (l : FLe F F') (p : ∀ (n : Nat) (a : Addr), Ad[n]? = some a → Ad'[n]? = some a) : ∀ {v d}, DenL K F Ad v d → DenL K F' Ad' v d
  | _, _, .nil => .nil
  | _, _, .cons h r => .cons (h.mono l p) (r.mono l p)
theorem DenK.mono (l : FLe F F') (p : ∀ (n : Nat) (a : Addr), Ad[n]? = some a → Ad'[n]? = some a) : ∀ {v d}, DenK K F Ad v d → DenK K F' Ad' v d
  | _, _, .nil => .nil
  | _, _, .cons h r => .cons (h.mono l p) (r.mono l p)
theorem DenT.mono (l : FLe F F') (p : ∀ (n : Nat) (a : Addr), Ad[n]? = some a → Ad'[n]? = some a) : ∀ {v d}, DenT K F Ad v d → DenT K F' Ad' v d
  | _, _, .nil => .nil
  | _, _, .cons h r => .cons (h.mono l p) (r.mono l p)
theorem DenF.mono (l : FLe F F') (p : ∀ (n : Nat) (a : Addr), Ad[n]? = some a → Ad'[n]? = some a) : ∀ {v d}, DenF K F Ad v d → DenF K F' Ad' v d
  | _, _, .nil => .nil
  | _, _, .cons h r => .cons (h.mono l p) (r.mono l p)
end
theorem DenL.length : ∀ {vs ds}, DenL K F Ad vs ds → vs.length = ds.length
  | _, _, .nil => rfl
  | _, _, .cons _ r => by simp [DenL.length r]
theorem DenL.get : ∀ {vs ds} {i : Nat} {d : D}, DenL K F Ad vs ds → ds[i]? = some d → ∃ v, vs[i]? = some v ∧ Den K F Ad v d
  | _, _, _, _, .nil, e => by simp at e
  | _, _, 0, _, .cons h _, e => by simp at e; subst e; exact ⟨_, rfl, h⟩
  | _, _, i + 1, d, .cons _ r, e => by
    obtain ⟨v, h1, h2⟩ := DenL.get (i := i) (d := d) r (by simpa using e)
    exact ⟨v, by simpa using h1, h2⟩
theorem DenL.append : ∀ {vs ds ws es}, DenL K F Ad vs ds → DenL K F Ad ws es → DenL K F Ad (vs ++ ws) (ds ++ es)
  | _, _, _, _, .nil, s => s
  | _, _, _, _, .cons h r, s => .cons h (r.append s)
theorem DenL.set : ∀ {vs ds} {v d} (i : Nat), Den K F Ad v d → DenL K F Ad vs ds → DenL K F Ad (vs.set i v) (ds.set i d)
  | _, _, _, _, _, _, .nil => .nil
  | _, _, _, _, 0, h, .cons _ r => .cons h r
  | _, _, _, _, i + 1, h, .cons q r => .cons q (DenL.set i h r)
theorem DenL.take : ∀ {vs ds} (n : Nat), DenL K F Ad vs ds → DenL K F Ad (vs.take n) (ds.take n)
  | _, _, 0, _ => .nil
  | _, _, _ + 1, .nil => .nil
  | _, _, n + 1, .cons r t => .cons r (DenL.take n t)
theorem DenL.drop : ∀ {vs ds} (n : Nat), DenL K F Ad vs ds → DenL K F Ad (vs.drop n) (ds.drop n)
  | _, _, 0, r => r
  | _, _, _ + 1, .nil => .nil
  | _, _, n + 1, .cons _ t => DenL.drop n t
theorem DenF.lookup : ∀ {vs ds} {f : Str} {d : D}, DenF K F Ad vs ds → ds.lookup f = some d → ∃ v, vs.lookup f = some v ∧ Den K F Ad v d
  | _, _, _, _, .nil, e => by simp at e
  | _, _, f, d, .cons (k := k) h r, e => by
    rw [List.lookup_cons] at e ⊢
    cases q : f == k with
    | true => rw [q] at e; simp at e; subst e; exact ⟨_, rfl, h⟩
    | false => rw [q] at e; exact DenF.lookup r e
theorem DenF.none : ∀ {vs ds} {f : Str}, DenF K F Ad vs ds → ds.lookup f = Option.none → vs.lookup f = Option.none
  | _, _, _, .nil, e => by simp
  | _, _, f, .cons (k := k) h r, e => by
    rw [List.lookup_cons] at e ⊢
    cases q : f == k with
    | true => rw [q] at e; simp at e
    | false => rw [q] at e; exact DenF.none r e
theorem DenF.length : ∀ {vs ds}, DenF K F Ad vs ds → vs.length = ds.length
  | _, _, .nil => rfl
  | _, _, .cons _ r => by simp [DenF.length r]
theorem DenK.length : ∀ {vs ds}, DenK K F Ad vs ds → vs.length = ds.length
  | _, _, .nil => rfl
  | _, _, .cons _ r => by simp [DenK.length r]
theorem DenT.length : ∀ {vs ds}, DenT K F Ad vs ds → vs.length = ds.length
  | _, _, .nil => rfl
  | _, _, .cons _ r => by simp [DenT.length r]
end
inductive Root (K : PySem.W.Frag) (F : Hp) (Ad : List Addr) (H : Hp) (a : Addr) : D → Prop
  | lst {vs ds} : H a = some (.lst vs) → DenL K F Ad vs ds → Root K F Ad H a (.lst ds)
  | dK {vs ds} : H a = some (.dK vs) → DenK K F Ad vs ds → Root K F Ad H a (.dK ds)
  | dT {vs ds} : H a = some (.dT vs) → DenT K F Ad vs ds → Root K F Ad H a (.dT ds)
  | ins {c dx vs ds} : H a = some (.ins (He.ga K c) dx vs) → DenF K F Ad vs ds → Root K F Ad H a (.ins c ds)
def RootO : HO → Prop
  | .lst _ => True | .dK _ => True | .dT _ => True | .ins _ _ _ => True | _ => False
theorem Root.obj {K F Ad H a d} (r : Root K F Ad H a d) : ∃ o, H a = some o ∧ RootO o := by
  cases r with
  | lst h _ => exact ⟨_, h, trivial⟩
  | dK h _ => exact ⟨_, h, trivial⟩
  | dT h _ => exact ⟨_, h, trivial⟩
  | ins h _ => exact ⟨_, h, trivial⟩
theorem Root.mono {K F F' Ad Ad' H H' a d} (l : FLe F F') (p : ∀ (n : Nat) (a : Addr), Ad[n]? = some a → Ad'[n]? = some a) (e : H' a = H a) (r : Root K F Ad H a d) : Root K F' Ad' H' a d := by
  cases r with
  | lst h r => exact .lst (e.trans h) (r.mono l p)
  | dK h r => exact .dK (e.trans h) (r.mono l p)
  | dT h r => exact .dT (e.trans h) (r.mono l p)
  | ins h r => exact .ins (e.trans h) (r.mono l p)
structure MemOk (K : PySem.W.Frag) (F : Hp) (Ad : List Addr) (M : List D) (H : Hp) : Prop where
  sub : ∀ a u, F a = some u → H a = some u
  len : Ad.length = M.length
  nd : Ad.Nodup
  cel : ∀ (n : Nat) (a : Addr) (d : D), Ad[n]? = some a → M[n]? = some d → F a = none ∧ Root K F Ad H a d
  tab : LamX.Tabs TabsP.ts H
structure Gr (F : Hp) (Ad : List Addr) (H F' : Hp) (Ad' : List Addr) (H' : Hp) : Prop where
  fle : FLe F F'
  fnew : ∀ a o, H a = some o → RootO o → F a = none → a ∉ Ad → F' a = none
  apre : ∃ more, Ad' = Ad ++ more ∧ ∀ a ∈ more, H a = none
  keep : ∀ a o, H a = some o → RootO o → F a = none → a ∉ Ad → H' a = some o
  alive : ∀ a, H a ≠ none → H' a ≠ none
section
variable {K : PySem.W.Frag} {F F1 F2 H H1 H2 : Hp} {Ad Ad1 Ad2 : List Addr} {M : List D}
theorem Gr.refl : Gr F Ad H F Ad H := ⟨FLe.refl F, fun _ _ _ _ h _ => h, ⟨[], by simp, by simp⟩, fun _ _ h _ _ _ => h, fun _ h => h⟩
theorem Gr.pre (g : Gr F Ad H F1 Ad1 H1) : ∀ (n : Nat) (a : Addr), Ad[n]? = some a → Ad1[n]? = some a := fun n a h => by
  obtain ⟨more, e, _⟩ := g.apre
  rw [e, List.getElem?_append_left (List.getElem?_eq_some_iff.mp h).1]; exact h
theorem Gr.notin (g : Gr F Ad H F1 Ad1 H1) {a : Addr} (h : H a ≠ none) (n : a ∉ Ad) : a ∉ Ad1 := fun z => by
  obtain ⟨m1, e1, n1⟩ := g.apre
  rw [e1] at z
  rcases List.mem_append.mp z with z | z
  · exact n z
  · exact h (n1 a z)
theorem Gr.trans (g : Gr F Ad H F1 Ad1 H1) (g' : Gr F1 Ad1 H1 F2 Ad2 H2) : Gr F Ad H F2 Ad2 H2 := by
  obtain ⟨m1, e1, n1⟩ := g.apre
  obtain ⟨m2, e2, n2⟩ := g'.apre
  refine ⟨g.fle.trans g'.fle, fun a o h ro nf na => g'.fnew a o (g.keep a o h ro nf na) ro (g.fnew a o h ro nf na) (g.notin (by rw [h]; simp) na), ⟨m1 ++ m2, by rw [e2, e1, List.append_assoc], fun a ha => ?_⟩, fun a o h ro nf na => g'.keep a o (g.keep a o h ro nf na) ro (g.fnew a o h ro nf na) (g.notin (by rw [h]; simp) na), fun a h => g'.alive a (g.alive a h)⟩
  rcases List.mem_append.mp ha with h | h
  · exact n1 a h
  · cases q : H a with
    | none => rfl
    | some o => exact absurd (n2 a h) (g.alive a (by rw [q]; simp))
theorem Root.gr {a d} (g : Gr F Ad H F1 Ad1 H1) (nf : F a = none) (na : a ∉ Ad) (r : Root K F Ad H a d) : Root K F1 Ad1 H1 a d := by
  obtain ⟨o, h, ro⟩ := r.obj
  refine r.mono g.fle g.pre ?_
  rw [h]
  exact g.keep a o h ro nf na
end
inductive B where
  | no | shr (d : D) | own (d : D) | slf (d : D)
  | raw
  | par (d : D)
structure Ent where
  hp : Hp
  fz : Hp
  ad : List Addr
  me : Addr := 0
abbrev EnvM := List B
class ThkP where
  f : Addr
  ent : Ent
variable [ThkP]
def Rt (env : EnvM) (σ : St) (N0 : Ent) (b : Addr) : Prop := (∃ (j : Nat) (e : D), env[j]? = some (B.own e) ∧ σ[j]? = some (some (V.ref b))) ∨ ∃ (j : Nat) (e : D), env[j]? = some (B.slf e) ∧ b = N0.me
def PR (K : PySem.W.Frag) (N0 : Ent) (F : Hp) (Ad : List Addr) (H : Hp) (σ : St) (env : EnvM) (x : Addr) (d : D) : Prop := F x = none ∧ x ∉ Ad ∧ N0.hp x = none ∧ Root K F Ad H x d ∧ ¬ Rt env σ N0 x
structure EnvOk (K : PySem.W.Frag) (N0 : Ent) (F : Hp) (Ad : List Addr) (H : Hp) (σ : St) (env : EnvM) : Prop where
  len : env.length = σ.length
  shr : ∀ (i : Nat) (d : D), env[i]? = some (.shr d) → ∃ v, σ[i]? = some (some v) ∧ Den K F Ad v d
  own : ∀ (i : Nat) (d : D), env[i]? = some (.own d) → ∃ a, σ[i]? = some (some (.ref a)) ∧ F a = none ∧ a ∉ Ad ∧ N0.hp a = none ∧ Root K F Ad H a d
  dis : ∀ (i j : Nat) (d e : D) (a : Addr), env[i]? = some (.own d) → env[j]? = some (.own e) → σ[i]? = some (some (.ref a)) → σ[j]? = some (some (.ref a)) → i = j
  slf : ∀ (i : Nat) (d : D), env[i]? = some (.slf d) → i = 0 ∧ σ[i]? = some (some (.ref N0.me)) ∧ F N0.me = none ∧ N0.me ∉ Ad ∧ N0.hp N0.me = none ∧ Root K F Ad H N0.me d ∧ ∀ (j : Nat) (e : D), env[j]? = some (.own e) → σ[j]? ≠ some (some (.ref N0.me))
  par : ∀ (i : Nat) (d : D), env[i]? = some (.par d) → ∃ a x y d1 d2, d = .tup [d1, d2] ∧ σ[i]? = some (some (.ref a)) ∧ F a = some (.tup [.ref x, .ref y]) ∧ x ≠ y ∧ PR K N0 F Ad H σ env x d1 ∧ PR K N0 F Ad H σ env y d2 ∧ ∀ (j : Nat) (e : D), env[j]? = some (.par e) → j = i
  raw : ∀ (i : Nat), env[i]? = some .raw → σ[i]? = some (some (.ref ThkP.f)) ∧ N0 = ThkP.ent ∧ Gr N0.fz N0.ad N0.hp F Ad H
section
variable {K : PySem.W.Frag} {N0 : Ent} {F F1 H H1 : Hp} {Ad Ad1 : List Addr} {σ : St} {env : EnvM}
theorem EnvOk.parM {F' H' : Hp} {Ad' : List Addr} {σ' : St} {env' : EnvM} (e : EnvOk K N0 F Ad H σ env) (l : FLe F F')
    (hp : ∀ x d, F x = none → x ∉ Ad → N0.hp x = none → Root K F Ad H x d → ¬ Rt env σ N0 x → F' x = none ∧ x ∉ Ad' ∧ Root K F' Ad' H' x d ∧ ¬ Rt env' σ' N0 x)
    (he : ∀ (i : Nat) (d : D), env'[i]? = some (.par d) → env[i]? = some (.par d) ∧ σ'[i]? = σ[i]?) (i : Nat) (d : D) (h : env'[i]? = some (.par d)) :
    ∃ a x y d1 d2, d = .tup [d1, d2] ∧ σ'[i]? = some (some (.ref a)) ∧ F' a = some (.tup [.ref x, .ref y]) ∧ x ≠ y ∧ PR K N0 F' Ad' H' σ' env' x d1 ∧ PR K N0 F' Ad' H' σ' env' y d2 ∧ ∀ (j : Nat) (e : D), env'[j]? = some (.par e) → j = i := by
  obtain ⟨h1, h2⟩ := he i d h
  obtain ⟨a, x, y, d1, d2, q1, q2, q3, q4, ⟨x1, x2, x3, x4, x5⟩, ⟨y1, y2, y3, y4, y5⟩, q7⟩ := e.par i d h1
  obtain ⟨u1, u2, u3, u4⟩ := hp x d1 x1 x2 x3 x4 x5
  obtain ⟨w1, w2, w3, w4⟩ := hp y d2 y1 y2 y3 y4 y5
  exact ⟨a, x, y, d1, d2, q1, by rw [h2]; exact q2, nrm_tup (l a (.tup _) (by rw [q3]; rfl)), q4, ⟨u1, u2, x3, u3, u4⟩, ⟨w1, w2, y3, w3, w4⟩, fun j e hj => q7 j e (he j e hj).1⟩
theorem Rt.set {j : Nat} {v : Option V} {b : B} {x : Addr} (hb : (∀ d, b ≠ .own d) ∧ ∀ d, b ≠ .slf d) (h : Rt (env.set j b) (σ.set j v) N0 x) : Rt env σ N0 x := by
  have hn : ∀ {i : Nat} {c : B}, (env.set j b)[i]? = some c → c ≠ b → j ≠ i ∧ env[i]? = some c := fun {i c} h hc => by
    by_cases e : j = i
    · subst e
      by_cases hl : j < env.length
      · rw [List.getElem?_set_self hl] at h; cases h; exact absurd rfl hc
      · rw [List.getElem?_eq_none (by simpa using hl)] at h; cases h
    · rw [List.getElem?_set_ne e] at h; exact ⟨e, h⟩
  rcases h with ⟨i, e, h1, h2⟩ | ⟨i, e, h1, h2⟩
  · obtain ⟨ne, h1⟩ := hn h1 (Ne.symm (hb.1 e))
    rw [List.getElem?_set_ne ne] at h2
    exact .inl ⟨i, e, h1, h2⟩
  · obtain ⟨ne, h1⟩ := hn h1 (Ne.symm (hb.2 e))
    exact .inr ⟨i, e, h1, h2⟩
theorem Rt.setE {j : Nat} {b : B} {x : Addr} (hb : ((∀ d, b ≠ .own d) ∨ ∃ d, env[j]? = some (.own d)) ∧ ((∀ d, b ≠ .slf d) ∨ ∃ d, env[j]? = some (.slf d))) (h : Rt (env.set j b) σ N0 x) : Rt env σ N0 x := by
  have hn : ∀ {i : Nat} {c : B}, (env.set j b)[i]? = some c → (i = j ∧ c = b) ∨ env[i]? = some c := fun {i c} h => by
    by_cases e : j = i
    · subst e
      by_cases hl : j < env.length
      · rw [List.getElem?_set_self hl] at h; cases h; exact .inl ⟨rfl, rfl⟩
      · rw [List.getElem?_eq_none (by simpa using hl)] at h; cases h
    · rw [List.getElem?_set_ne e] at h; exact .inr h
  rcases h with ⟨i, e, h1, h2⟩ | ⟨i, e, h1, h2⟩
  · rcases hn h1 with ⟨rfl, rfl⟩ | h1
    · rcases hb.1 with q | ⟨d, q⟩
      · exact absurd rfl (q e)
      · exact .inl ⟨i, d, q, h2⟩
    · exact .inl ⟨i, e, h1, h2⟩
  · rcases hn h1 with ⟨rfl, rfl⟩ | h1
    · rcases hb.2 with q | ⟨d, q⟩
      · exact absurd rfl (q e)
      · exact .inr ⟨i, d, q, h2⟩
    · exact .inr ⟨i, e, h1, h2⟩
theorem par_set {j : Nat} {v : Option V} {b : B} (hb : ∀ d, b ≠ .par d) (i : Nat) (d : D) (h : (env.set j b)[i]? = some (.par d)) : env[i]? = some (.par d) ∧ (σ.set j v)[i]? = σ[i]? := by
  have e : j ≠ i := fun e => by
    subst e
    by_cases hl : j < env.length
    · rw [List.getElem?_set_self hl] at h; exact hb d (Option.some.inj h)
    · rw [List.getElem?_eq_none (by simpa using hl)] at h; cases h
  rw [List.getElem?_set_ne e] at h ⊢
  exact ⟨h, rfl⟩
theorem par_setE {j : Nat} {b : B} (hb : ∀ d, b ≠ .par d) (i : Nat) (d : D) (h : (env.set j b)[i]? = some (.par d)) : env[i]? = some (.par d) ∧ σ[i]? = σ[i]? := ⟨(par_set (σ := σ) (v := none) hb i d h).1, rfl⟩
theorem EnvOk.gr (e : EnvOk K N0 F Ad H σ env) (g : Gr F Ad H F1 Ad1 H1) : EnvOk K N0 F1 Ad1 H1 σ env := by
  refine ⟨e.len, fun i d h => ?_, fun i d h => ?_, e.dis, fun i d h => ?_, e.parM g.fle (fun x d h1 h2 h3 h4 h5 => ⟨g.fnew x _ h4.obj.choose_spec.1 h4.obj.choose_spec.2 h1 h2, g.notin (by rw [h4.obj.choose_spec.1]; simp) h2, h4.gr g h1 h2, h5⟩) (fun i d h => ⟨h, rfl⟩), fun i h => ⟨(e.raw i h).1, (e.raw i h).2.1, (e.raw i h).2.2.trans g⟩⟩
  · obtain ⟨v, h1, h2⟩ := e.shr i d h
    exact ⟨v, h1, h2.mono g.fle g.pre⟩
  · obtain ⟨a, h1, h2, h3, h4, h5⟩ := e.own i d h
    obtain ⟨o, ho, ro⟩ := h5.obj
    exact ⟨a, h1, g.fnew a o ho ro h2 h3, g.notin (by rw [ho]; simp) h3, h4, h5.gr g h2 h3⟩
  · obtain ⟨h0, h1, h2, h3, h4, h5, h6⟩ := e.slf i d h
    obtain ⟨o, ho, ro⟩ := h5.obj
    exact ⟨h0, h1, g.fnew _ o ho ro h2 h3, g.notin (by rw [ho]; simp) h3, h4, h5.gr g h2 h3, h6⟩
end
structure Xc where
  c : Str
  fs : List (Str × D)
inductive R where
  | ok (d : D) (M : List D) | exc (x : Xc) (M : List D) | stuck
inductive RL where
  | ok (d : List D) (M : List D) | exc (x : Xc) (M : List D) | stuck
inductive RS where
  | next (env : EnvM) (M : List D) | ret (d : D) (M : List D) | brk (env : EnvM) (M : List D) | cont (env : EnvM) (M : List D)
  | exc (x : Xc) (env : EnvM) (M : List D) | stuck
abbrev EF := EnvM → List D → R
abbrev LF := EnvM → List D → RL
abbrev SF := EnvM → List D → RS
def R.bind (r : R) (k : D → List D → R) : R := match r with
  | .ok d M => k d M | .exc x M => .exc x M | .stuck => .stuck
def R.bindL (r : R) (k : D → List D → RL) : RL := match r with
  | .ok d M => k d M | .exc x M => .exc x M | .stuck => .stuck
def RL.bind (r : RL) (k : List D → List D → R) : R := match r with
  | .ok d M => k d M | .exc x M => .exc x M | .stuck => .stuck
def RL.bindL (r : RL) (k : List D → List D → RL) : RL := match r with
  | .ok d M => k d M | .exc x M => .exc x M | .stuck => .stuck
def R.bindS (r : R) (env : EnvM) (k : D → List D → RS) : RS := match r with
  | .ok d M => k d M | .exc x M => .exc x env M | .stuck => .stuck
@[simp] theorem R.bind_ok {d M k} : (R.ok d M).bind k = k d M := rfl
@[simp] theorem R.bindL_ok {d M k} : (R.ok d M).bindL k = k d M := rfl
@[simp] theorem RL.bind_ok {d M k} : (RL.ok d M).bind k = k d M := rfl
@[simp] theorem RL.bindL_ok {d M k} : (RL.ok d M).bindL k = k d M := rfl
@[simp] theorem R.bindS_ok {d M env k} : (R.ok d M).bindS env k = k d M := rfl
abbrev DRel := Hp → Hp → List Addr → Hp → V → D → Prop
def DE (K : PySem.W.Frag) : DRel := fun _ F Ad _ v d => Den K F Ad v d
def DB (K : PySem.W.Frag) : DRel := fun _ F Ad H v d => Den K F Ad v d ∨ ∃ a, v = .ref a ∧ F a = none ∧ a ∉ Ad ∧ Root K F Ad H a d
def DO (K : PySem.W.Frag) : DRel := fun H0 F Ad H v d => ∃ a, v = .ref a ∧ F a = none ∧ a ∉ Ad ∧ H0 a = none ∧ Root K F Ad H a d
def XOk (K : PySem.W.Frag) (F : Hp) (Ad : List Addr) (H : Hp) (x : Xc) (cls : Value) (dx : Option Addr) : Prop :=
  cls = .ref (He.ga K x.c) ∧ match dx with
    | none => x.fs = []
    | some d => ∃ vs, H d = some (.xd vs) ∧ DenF K F Ad vs x.fs
def RP (K : PySem.W.Frag) (E : XK) (DR : DRel) (F : Hp) (Ad : List Addr) (H : Hp) (Q : VK) : R → Prop
  | .ok d M' => ∀ v F' Ad' H', Gr F Ad H F' Ad' H' → MemOk K F' Ad' M' H' → DR H F' Ad' H' v d → Q v H'
  | .exc x M' => ∀ cls dx F' Ad' H', Gr F Ad H F' Ad' H' → MemOk K F' Ad' M' H' → XOk K F' Ad' H' x cls dx → E cls dx H'
  | .stuck => False
abbrev DRelL := Hp → List Addr → Hp → List V → List D → Prop
def RPL (K : PySem.W.Frag) (E : XK) (DL : DRelL) (F : Hp) (Ad : List Addr) (H : Hp) (Q : List V → Hp → Prop) : RL → Prop
  | .ok d M' => ∀ v F' Ad' H', Gr F Ad H F' Ad' H' → MemOk K F' Ad' M' H' → DL F' Ad' H' v d → Q v H'
  | .exc x M' => ∀ cls dx F' Ad' H', Gr F Ad H F' Ad' H' → MemOk K F' Ad' M' H' → XOk K F' Ad' H' x cls dx → E cls dx H'
  | .stuck => False
def DRok (DR : DRel) : Prop := ∀ F0 Ad0 H0 F Ad H F' Ad' H' v d, Gr F0 Ad0 H0 F Ad H → DR H F' Ad' H' v d → DR H0 F' Ad' H' v d
theorem DE.ok {K} : DRok (DE K) := fun _ _ _ _ _ _ _ _ _ _ _ _ h => h
theorem DB.ok {K} : DRok (DB K) := fun _ _ _ _ _ _ _ _ _ _ _ _ h => h
theorem DO.ok {K} : DRok (DO K) := fun _ _ H0 _ _ H _ _ _ _ _ g ⟨a, h1, h2, h3, h4, h5⟩ => ⟨a, h1, h2, h3, by
  cases q : H0 a with
  | none => rfl
  | some o => exact absurd h4 (g.alive a (by rw [q]; simp)), h5⟩
def DLE (K : PySem.W.Frag) : DRelL := fun F Ad _ vs ds => DenL K F Ad vs ds
inductive DLB (K : PySem.W.Frag) (F : Hp) (Ad : List Addr) (H : Hp) : List V → List D → Prop
  | nil : DLB K F Ad H [] []
  | cons {v d vs ds} : DB K H F Ad H v d → DLB K F Ad H vs ds → DLB K F Ad H (v :: vs) (d :: ds)
section
variable {K : PySem.W.Frag} {E : XK} {DR : DRel} {DL : DRelL} {F F1 H H1 : Hp} {Ad Ad1 : List Addr} {Q : VK}
theorem RP.gr {r : R} (dr : DRok DR) (h : RP K E DR F Ad H Q r) (g : Gr F Ad H F1 Ad1 H1) : RP K E DR F1 Ad1 H1 Q r := by
  cases r with
  | ok d M => exact fun v F' Ad' H' g' m x => h v F' Ad' H' (g.trans g') m (dr _ _ _ _ _ _ _ _ _ _ _ g x)
  | exc x M => exact fun c dx F' Ad' H' g' m z => h c dx F' Ad' H' (g.trans g') m z
  | stuck => exact h
theorem RPL.gr {r : RL} {Q : List V → Hp → Prop} (h : RPL K E DL F Ad H Q r) (g : Gr F Ad H F1 Ad1 H1) : RPL K E DL F1 Ad1 H1 Q r := by
  cases r with
  | ok d M => exact fun v F' Ad' H' g' m x => h v F' Ad' H' (g.trans g') m x
  | exc x M => exact fun c dx F' Ad' H' g' m z => h c dx F' Ad' H' (g.trans g') m z
  | stuck => exact h
theorem DB.gr {v d H0 H0'} (g : Gr F Ad H F1 Ad1 H1) (h : DB K H0 F Ad H v d) : DB K H0' F1 Ad1 H1 v d := by
  rcases h with h | ⟨a, e, n, na, r⟩
  · exact .inl (h.mono g.fle g.pre)
  · obtain ⟨o, ho, ro⟩ := r.obj
    exact .inr ⟨a, e, g.fnew a o ho ro n na, g.notin (by rw [ho]; simp) na, r.gr g n na⟩
theorem DLB.gr (g : Gr F Ad H F1 Ad1 H1) : ∀ {vs ds}, DLB K F Ad H vs ds → DLB K F1 Ad1 H1 vs ds
  | _, _, .nil => .nil
  | _, _, .cons h r => .cons (DB.gr g h) (DLB.gr g r)
theorem DLB.of : ∀ {vs ds}, DenL K F Ad vs ds → DLB K F Ad H vs ds
  | _, _, .nil => .nil
  | _, _, .cons h r => .cons (.inl h) (DLB.of r)
end
def tG (K : PySem.W.Frag) (W : WX) (DR : DRel) (f : EF) : TE := fun σ H Q => ∃ N0 F Ad M env, MemOk K F Ad M H ∧ EnvOk K N0 F Ad H σ env ∧ RP K (fun c d H => W c d σ H) DR F Ad H Q (f env M)
def tL (K : PySem.W.Frag) (W : WX) (DL : DRelL) (f : LF) : TA := fun σ H Q => ∃ N0 F Ad M env, MemOk K F Ad M H ∧ EnvOk K N0 F Ad H σ env ∧ RPL K (fun c d H => W c d σ H) DL F Ad H Q (f env M)
abbrev SE (X : Cx) (W : WX) (e : Expr) (f : EF) : Prop := PE X e (tG X.K W (DE X.K) f)
abbrev SB (X : Cx) (W : WX) (e : Expr) (f : EF) : Prop := PE X e (tG X.K W (DB X.K) f)
abbrev SO (X : Cx) (W : WX) (e : Expr) (f : EF) : Prop := PE X e (tG X.K W (DO X.K) f)
abbrev SL (X : Cx) (W : WX) (es : List Expr) (f : LF) : Prop := PA X es (tL X.K W (DLE X.K) f)
abbrev SLB (X : Cx) (W : WX) (es : List Expr) (f : LF) : Prop := PA X es (tL X.K W (DLB X.K) f)
theorem PE.imp {X : Cx} {e : Expr} {t u : TE} (h : PE X e t) (i : ∀ σ H Q, u σ H Q → t σ H Q) : PE X e u := ⟨fun pins s σ H Q I q => h.run pins s σ H Q I (i σ H Q q)⟩
theorem PA.imp {X : Cx} {e : List Expr} {t u : TA} (h : PA X e t) (i : ∀ σ H Q, u σ H Q → t σ H Q) : PA X e u := ⟨fun pos pins s σ H Q I q => h.run pos pins s σ H Q I (i σ H Q q)⟩
theorem PT.imp {X : Cx} {e : Expr} {t u : TT} (h : PT X e t) (i : ∀ σ H Q, u σ H Q → t σ H Q) : PT X e u := ⟨fun pins s σ H Q I q => h.run pins s σ H Q I (i σ H Q q)⟩
theorem PW.imp {X : Cx} {e : Expr} {t u : TT} (h : PW X e t) (i : ∀ σ H Q, u σ H Q → t σ H Q) : PW X e u := ⟨fun w pins s σ H Q I q => h.run w pins s σ H Q I (i σ H Q q)⟩
theorem PS.imp {X : Cx} {e : Stmt} {t u : TS} (h : PS X e t) (i : ∀ D σ H, u D σ H → t D σ H) : PS X e u := ⟨fun pins s σ H D I q => h.run pins s σ H D I (i D σ H q)⟩
theorem PSs.imp {X : Cx} {e : List Stmt} {t u : TS} (h : PSs X e t) (i : ∀ D σ H, u D σ H → t D σ H) : PSs X e u := ⟨fun pins s σ H D I q => h.run pins s σ H D I (i D σ H q)⟩
section
variable {K : PySem.W.Frag} {W : WX} {DR' : DRel} {DL : DRelL} {N0 : Ent} {F : Hp} {Ad : List Addr} {M : List D} {env : EnvM} {σ : St} {H : Hp}
theorem tG_seq {DR : DRel} {f : EF} {k : D → List D → R} {Q : VK} (dr : DRok DR) (m : MemOk K F Ad M H) (e : EnvOk K N0 F Ad H σ env)
    (h : RP K (fun c d H => W c d σ H) DR F Ad H Q ((f env M).bind k)) {Q' : VK}
    (hq : ∀ d M1 v F1 Ad1 H1, Gr F Ad H F1 Ad1 H1 → MemOk K F1 Ad1 M1 H1 → EnvOk K N0 F1 Ad1 H1 σ env → DR' H F1 Ad1 H1 v d → RP K (fun c d H => W c d σ H) DR F1 Ad1 H1 Q (k d M1) → Q' v H1) : tG K W DR' f σ H Q' := by
  refine ⟨N0, F, Ad, M, env, m, e, ?_⟩
  cases q : f env M with
  | ok d M1 => rw [q] at h; exact fun v F' Ad' H' g m' x => hq d M1 v F' Ad' H' g m' (e.gr g) x (RP.gr dr h g)
  | exc x M1 => rw [q] at h; exact h
  | stuck => rw [q] at h; exact h
theorem tL_seq {DR : DRel} {f : LF} {k : List D → List D → R} {Q : VK} (dr : DRok DR) (m : MemOk K F Ad M H) (e : EnvOk K N0 F Ad H σ env)
    (h : RP K (fun c d H => W c d σ H) DR F Ad H Q ((f env M).bind k)) {Q' : List V → Hp → Prop}
    (hq : ∀ d M1 v F1 Ad1 H1, Gr F Ad H F1 Ad1 H1 → MemOk K F1 Ad1 M1 H1 → EnvOk K N0 F1 Ad1 H1 σ env → DL F1 Ad1 H1 v d → RP K (fun c d H => W c d σ H) DR F1 Ad1 H1 Q (k d M1) → Q' v H1) : tL K W DL f σ H Q' := by
  refine ⟨N0, F, Ad, M, env, m, e, ?_⟩
  cases q : f env M with
  | ok d M1 => rw [q] at h; exact fun v F' Ad' H' g m' x => hq d M1 v F' Ad' H' g m' (e.gr g) x (RP.gr dr h g)
  | exc x M1 => rw [q] at h; exact h
  | stuck => rw [q] at h; exact h
theorem tG_seqL {f : EF} {k : D → List D → RL} {Q : List V → Hp → Prop} (m : MemOk K F Ad M H) (e : EnvOk K N0 F Ad H σ env)
    (h : RPL K (fun c d H => W c d σ H) DL F Ad H Q ((f env M).bindL k)) {Q' : VK}
    (hq : ∀ d M1 v F1 Ad1 H1, Gr F Ad H F1 Ad1 H1 → MemOk K F1 Ad1 M1 H1 → EnvOk K N0 F1 Ad1 H1 σ env → DR' H F1 Ad1 H1 v d → RPL K (fun c d H => W c d σ H) DL F1 Ad1 H1 Q (k d M1) → Q' v H1) : tG K W DR' f σ H Q' := by
  refine ⟨N0, F, Ad, M, env, m, e, ?_⟩
  cases q : f env M with
  | ok d M1 => rw [q] at h; exact fun v F' Ad' H' g m' x => hq d M1 v F' Ad' H' g m' (e.gr g) x (RPL.gr h g)
  | exc x M1 => rw [q] at h; exact h
  | stuck => rw [q] at h; exact h
theorem tL_seqL {DL' : DRelL} {f : LF} {k : List D → List D → RL} {Q : List V → Hp → Prop} (m : MemOk K F Ad M H) (e : EnvOk K N0 F Ad H σ env)
    (h : RPL K (fun c d H => W c d σ H) DL F Ad H Q ((f env M).bindL k)) {Q' : List V → Hp → Prop}
    (hq : ∀ d M1 v F1 Ad1 H1, Gr F Ad H F1 Ad1 H1 → MemOk K F1 Ad1 M1 H1 → EnvOk K N0 F1 Ad1 H1 σ env → DL' F1 Ad1 H1 v d → RPL K (fun c d H => W c d σ H) DL F1 Ad1 H1 Q (k d M1) → Q' v H1) : tL K W DL' f σ H Q' := by
  refine ⟨N0, F, Ad, M, env, m, e, ?_⟩
  cases q : f env M with
  | ok d M1 => rw [q] at h; exact fun v F' Ad' H' g m' x => hq d M1 v F' Ad' H' g m' (e.gr g) x (RPL.gr h g)
  | exc x M1 => rw [q] at h; exact h
  | stuck => rw [q] at h; exact h
end
theorem tabs_mono {T : List (Addr × Str)} {H H' : Hp} (t : LamX.Tabs T H) (k : ∀ b o, H b = some o → ¬ RootO o → H' b = some o) : LamX.Tabs T H' := fun p hp => by
  obtain ⟨ps, h1, h2, h3⟩ := t p hp
  refine ⟨ps, k _ _ h1 id, h2, fun pos cv hc => ?_⟩
  obtain ⟨c, e1, e2⟩ := h3 pos cv hc
  exact ⟨c, e1, k _ _ e2 id⟩
theorem tabs_new {T : List (Addr × Str)} {H : Hp} {p : Addr} {o : HO} (t : LamX.Tabs T H) (hp : H p = none) : LamX.Tabs T (upd H p o) := tabs_mono t fun b u h _ => by
  rw [upd_ne (fun e => by rw [e, hp] at h; cases h)]; exact h
theorem tabs_root {T : List (Addr × Str)} {H : Hp} {p : Addr} {o u : HO} (t : LamX.Tabs T H) (hp : H p = some u) (ru : RootO u) : LamX.Tabs T (upd H p o) := tabs_mono t fun b v h n => by
  rw [upd_ne (fun e => by rw [e, hp] at h; cases h; exact n ru)]; exact h
end MP
set_option maxRecDepth 100000
set_option maxHeartbeats 1000000
namespace MP
open PySem PySem.Spec PyProof.Rows L2
variable [TabsP] [ThkP]
section
variable {X : Cx} {W : WX} {K : PySem.W.Frag} {E : XK} {DR : DRel} {N0 : Ent} {H0 F H : Hp} {Ad : List Addr} {M : List D} {env : EnvM} {σ : St} {Q : VK}
theorem RP.here {v d} (h : RP K E DR F Ad H Q (.ok d M)) (m : MemOk K F Ad M H) (x : DR H F Ad H v d) : Q v H := h v F Ad H Gr.refl m x
theorem fle_new {p : Addr} {o : HO} (h : F p = none) : FLe F (upd F p o) := ⟨fun b u hb => by
  by_cases eb : b = p
  · subst eb; rw [h] at hb; cases hb
  · rw [upd_ne eb]; exact hb, fun b o' u hb => by
  by_cases eb : b = p
  · subst eb; rw [h] at hb; cases hb
  · rw [upd_ne eb]; exact hb⟩
theorem mem_new {p : Addr} {o : HO} (m : MemOk K F Ad M H) (hp : H p = none) : MemOk K (upd F p o) Ad M (upd H p o) := by
  have hF : F p = none := by
    cases q : F p with
    | none => rfl
    | some u => rw [m.sub p u q] at hp; cases hp
  refine ⟨fun a u h => ?_, m.len, m.nd, fun n a d h1 h2 => ?_, tabs_new m.tab hp⟩
  · by_cases e : a = p
    · subst e; rw [upd_same] at h ⊢; exact h
    · rw [upd_ne e] at h ⊢; exact m.sub a u h
  · obtain ⟨f, r⟩ := m.cel n a d h1 h2
    obtain ⟨u, hu, _⟩ := r.obj
    have e : a ≠ p := fun e => by rw [e, hp] at hu; cases hu
    refine ⟨by rw [upd_ne e]; exact f, r.mono (fle_new hF) (fun _ _ h => h) (by rw [upd_ne e])⟩
theorem MemOk.none (m : MemOk K F Ad M H) {p : Addr} (hp : H p = Option.none) : F p = Option.none := by
  cases q : F p with
  | none => rfl
  | some u => rw [m.sub p u q] at hp; cases hp
theorem MemOk.notin (m : MemOk K F Ad M H) {p : Addr} (hp : H p = Option.none) : p ∉ Ad := fun z => by
  obtain ⟨n, hn, e⟩ := List.mem_iff_getElem.mp z
  have h1 : Ad[n]? = some p := by rw [List.getElem?_eq_getElem hn, e]
  have h2 : n < M.length := by rw [← m.len]; exact hn
  obtain ⟨_, r⟩ := m.cel n p M[n] h1 (List.getElem?_eq_getElem h2)
  obtain ⟨o, ho, _⟩ := r.obj
  rw [hp] at ho; cases ho
theorem gr_new {p : Addr} {o : HO} (m : MemOk K F Ad M H) (hp : H p = none) : Gr F Ad H (upd F p o) Ad (upd H p o) := by
  refine ⟨fle_new (m.none hp), fun a o' h' _ h _ => ?_, ⟨[], by simp, by simp⟩, fun a u h _ _ _ => ?_, fun a h => ?_⟩
  · rw [upd_ne (fun e => by rw [e, hp] at h'; cases h')]; exact h
  · rw [upd_ne (fun e => by rw [e, hp] at h; cases h)]; exact h
  · rw [upd_ne (fun e => h (by rw [e]; exact hp))]; exact h
theorem mem_own {p : Addr} {o : HO} (m : MemOk K F Ad M H) (hp : H p = none) : MemOk K F Ad M (upd H p o) := by
  refine ⟨fun a u h => ?_, m.len, m.nd, fun n a d h1 h2 => ?_, tabs_new m.tab hp⟩
  · rw [upd_ne (fun e => by rw [e, m.none hp] at h; cases h)]; exact m.sub a u h
  · obtain ⟨f, r⟩ := m.cel n a d h1 h2
    obtain ⟨u, hu, _⟩ := r.obj
    have e : a ≠ p := fun e => by rw [e, hp] at hu; cases hu
    exact ⟨f, r.mono (FLe.refl F) (fun _ _ h => h) (by rw [upd_ne e])⟩
theorem gr_own {p : Addr} {o : HO} (hp : H p = none) : Gr F Ad H F Ad (upd H p o) := by
  refine ⟨FLe.refl F, fun a _ _ _ h _ => h, ⟨[], by simp, by simp⟩, fun a u h _ _ _ => ?_, fun a h => ?_⟩
  · rw [upd_ne (fun e => by rw [e, hp] at h; cases h)]; exact h
  · rw [upd_ne (fun e => h (by rw [e]; exact hp))]; exact h
theorem RP.newTup {vs ds} {p : Addr} (h : RP K E (DE K) F Ad H Q (.ok (.tup ds) M)) (m : MemOk K F Ad M H) (x : DenL K F Ad vs ds) (hp : H p = none) : Q (.ref p) (upd H p (.tup vs)) :=
  h _ _ _ _ (gr_new m hp) (mem_new m hp) (.tup (.inl upd_same) (x.mono (fle_new (m.none hp)) fun _ _ h => h))
theorem RP.newLst {vs ds} {p : Addr} (h : RP K E (DE K) F Ad H Q (.ok (.lst ds) M)) (m : MemOk K F Ad M H) (x : DenL K F Ad vs ds) (hp : H p = none) : Q (.ref p) (upd H p (.lst vs)) :=
  h _ _ _ _ (gr_new m hp) (mem_new m hp) (.lst upd_same (x.mono (fle_new (m.none hp)) fun _ _ h => h))
theorem RP.ownLst {vs ds} {p : Addr} (h : RP K E (DO K) F Ad H Q (.ok (.lst ds) M)) (m : MemOk K F Ad M H) (x : DenL K F Ad vs ds) (hp : H p = none) : Q (.ref p) (upd H p (.lst vs)) :=
  h _ _ _ _ (gr_own hp) (mem_own m hp) ⟨p, rfl, m.none hp, m.notin hp, hp, .lst upd_same x⟩
theorem RP.ownDT {vs ds} {p : Addr} (h : RP K E (DO K) F Ad H Q (.ok (.dT ds) M)) (m : MemOk K F Ad M H) (x : DenT K F Ad vs ds) (hp : H p = none) : Q (.ref p) (upd H p (.dT vs)) :=
  h _ _ _ _ (gr_own hp) (mem_own m hp) ⟨p, rfl, m.none hp, m.notin hp, hp, .dT upd_same x⟩
theorem RP.ownDK {vs ds} {p : Addr} (h : RP K E (DO K) F Ad H Q (.ok (.dK ds) M)) (m : MemOk K F Ad M H) (x : DenK K F Ad vs ds) (hp : H p = none) : Q (.ref p) (upd H p (.dK vs)) :=
  h _ _ _ _ (gr_own hp) (mem_own m hp) ⟨p, rfl, m.none hp, m.notin hp, hp, .dK upd_same x⟩
theorem freeze {F0 H0' : Hp} {Ad0 : List Addr} {v d} (g : Gr F0 Ad0 H0' F Ad H) (m : MemOk K F Ad M H) (h : DO K H0' F Ad H v d) : ∃ F', Gr F0 Ad0 H0' F' Ad H ∧ MemOk K F' Ad M H ∧ Den K F' Ad v d ∧ FLe F F' ∧ ∀ b, F b = none → v ≠ .ref b → F' b = none := by
  obtain ⟨a, rfl, n, na, n0, r⟩ := h
  obtain ⟨o, ho, _⟩ := r.obj
  have fl : FLe F (upd F a o) := fle_new n
  refine ⟨upd F a o, ⟨g.fle.trans fl, fun b ob hb ro h1 na1 => ?_, g.apre, g.keep, g.alive⟩, ⟨fun b u h => ?_, m.len, m.nd, fun k b e h1 h2 => ?_, m.tab⟩, ?_, fl, fun b hb ne => ?_⟩
  · rw [upd_ne (fun e => by rw [e, n0] at hb; cases hb)]; exact g.fnew b ob hb ro h1 na1
  · by_cases e : b = a
    · subst e; rw [upd_same] at h; cases h; exact ho
    · rw [upd_ne e] at h; exact m.sub b u h
  · obtain ⟨f, q⟩ := m.cel k b e h1 h2
    have ne : b ≠ a := fun z => na (z ▸ List.mem_of_getElem? h1)
    exact ⟨by rw [upd_ne ne]; exact f, q.mono fl (fun _ _ h => h) rfl⟩
  · cases r with
    | lst h r => rw [h] at ho; cases ho; exact .lst upd_same (r.mono fl fun _ _ h => h)
    | dK h r => rw [h] at ho; cases ho; exact .dK (by rw [upd_same]; rfl) (r.mono fl fun _ _ h => h)
    | dT h r => rw [h] at ho; cases ho; exact .dT (by rw [upd_same]; rfl) (r.mono fl fun _ _ h => h)
    | ins h r => rw [h] at ho; cases ho; exact .ins upd_same (r.mono fl fun _ _ h => h)
  · rw [upd_ne (fun e => ne (by rw [e]))]; exact hb
theorem SO.e {e : Expr} {f : EF} (h : SO X W e f) : SE X W e f := PE.imp h fun σ H Q ⟨N0, F, Ad, M, env, m, en, r⟩ => ⟨N0, F, Ad, M, env, m, en, by
  cases q : f env M with
  | ok d M1 =>
    rw [q] at r
    intro v F' Ad' H' g m' x
    obtain ⟨F2, g2, m2, x2, _⟩ := freeze g m' x
    exact r v F2 Ad' H' g2 m2 x2
  | exc x M1 => rw [q] at r; exact r
  | stuck => rw [q] at r; exact r⟩
theorem SE.b {e : Expr} {f : EF} (h : SE X W e f) : SB X W e f := PE.imp h fun σ H Q ⟨N0, F, Ad, M, env, m, en, r⟩ => ⟨N0, F, Ad, M, env, m, en, by
  cases q : f env M with
  | ok d M1 => rw [q] at r; exact fun v F' Ad' H' g m' x => r v F' Ad' H' g m' (.inl x)
  | exc x M1 => rw [q] at r; exact r
  | stuck => rw [q] at r; exact r⟩
def eCell (f : EF) : EF := fun env M => (f env M).bind fun d M1 => .ok (.cel M1.length) (M1 ++ [d])
theorem SO.cell {e : Expr} {f : EF} (h : SO X W e f) : SE X W e (eCell f) := PE.imp h fun σ H Q ⟨N0, F, Ad, M, env, m, en, r⟩ => ⟨N0, F, Ad, M, env, m, en, by
  unfold eCell at r
  cases q : f env M with
  | ok d M1 =>
    rw [q] at r
    rintro v F' Ad' H' g m' ⟨a, rfl, n, na, n0, x⟩
    obtain ⟨more, e1, e2⟩ := g.apre
    obtain ⟨o, ho, _⟩ := x.obj
    have pre : ∀ (k : Nat) (b : Addr), Ad'[k]? = some b → (Ad' ++ [a])[k]? = some b := fun k b h => by
      rw [List.getElem?_append_left (List.getElem?_eq_some_iff.mp h).1]; exact h
    have hl : (Ad' ++ [a])[M1.length]? = some a := by
      rw [← m'.len, List.getElem?_append_right (Nat.le_refl _)]; simp
    refine r (.ref a) F' (Ad' ++ [a]) H' ⟨g.fle, g.fnew, ⟨more ++ [a], by rw [e1, List.append_assoc], fun b hb => ?_⟩, g.keep, g.alive⟩ ⟨m'.sub, by simp [m'.len], ?_, fun k b d' h1 h2 => ?_, m'.tab⟩ (.cel hl)
    · rcases List.mem_append.mp hb with z | z
      · exact e2 b z
      · simp at z; subst z; exact n0
    · rw [List.nodup_append]
      exact ⟨m'.nd, by simp, fun x hx y hy => by simp at hy; subst hy; exact fun z => na (z ▸ hx)⟩
    · by_cases hk : k < Ad'.length
      · rw [List.getElem?_append_left hk] at h1
        rw [List.getElem?_append_left (by rw [← m'.len]; exact hk)] at h2
        obtain ⟨f1, q1⟩ := m'.cel k b d' h1 h2
        exact ⟨f1, q1.mono (FLe.refl _) pre rfl⟩
      · have hk2 : k = Ad'.length := by
          have := (List.getElem?_eq_some_iff.mp h1).1
          simp at this; omega
        subst hk2
        rw [m'.len, hl] at h1
        rw [m'.len] at h2
        simp at h1 h2
        subst h1; subst h2
        exact ⟨n, x.mono (FLe.refl _) pre rfl⟩
  | exc x M1 => rw [q] at r; exact r
  | stuck => rw [q] at r; exact r⟩
def eC (d : D) : EF := fun _ M => .ok d M
theorem se_int {i j pos} : SE X W (.Constant (.int i) j pos) (eC (.int i)) := PE.imp pe_int fun _ _ _ ⟨_, _, _, _, _, m, _, h⟩ => RP.here h m .int
theorem se_bl {i j pos} : SE X W (.Constant (.bool i) j pos) (eC (.bl i)) := PE.imp pe_bl fun _ _ _ ⟨_, _, _, _, _, m, _, h⟩ => RP.here h m .bl
theorem se_non {j pos} : SE X W (.Constant .none j pos) (eC .non) := PE.imp pe_non fun _ _ _ ⟨_, _, _, _, _, m, _, h⟩ => RP.here h m .non
theorem se_str {i j pos} : SE X W (.Constant (.str i) j pos) (eC (.str i)) := PE.imp pe_str fun _ _ _ ⟨_, _, _, _, _, m, _, h⟩ => RP.here h m .str
theorem se_globI {x : Str} {i : Int} {pos} (hg : Gl X x) (hm : ∃ t, X.mg x = some (.int i t)) (hd : (x == ("__debug__" : Str)) = false := by decide) : SE X W (.Name x pos) (eC (.int i)) := by
  obtain ⟨t, e⟩ := hm
  exact PE.imp (pe_glob (v := .int i) hg e ⟨t, rfl⟩ hd) fun _ _ _ ⟨_, _, _, _, _, m, _, h⟩ => RP.here h m .int
theorem se_globS {x : Str} {i : Str} {pos} (hg : Gl X x) (hm : ∃ t, X.mg x = some (.str i t)) (hd : (x == ("__debug__" : Str)) = false := by decide) : SE X W (.Name x pos) (eC (.str i)) := by
  obtain ⟨t, e⟩ := hm
  exact PE.imp (pe_glob (v := .str i) hg e ⟨t, rfl⟩ hd) fun _ _ _ ⟨_, _, _, _, _, m, _, h⟩ => RP.here h m .str
def eV (i : Nat) : EF := fun env M => match env[i]? with | some (.shr d) => .ok d M | _ => .stuck
def eVB (i : Nat) : EF := fun env M => match env[i]? with | some (.shr d) => .ok d M | some (.own d) => .ok d M | some (.slf d) => .ok d M | _ => .stuck
theorem se_var {i : Nat} {x : Str} {pos : Pos} (hN : X.N[i]? = some x) (hv : Vis X.env.scope x) (hd : (x == ("__debug__" : Str)) = false := by decide) (hcd : (x == ("__classdict__" : Str)) = false := by decide) : SE X W (.Name x pos) (eV i) :=
  PE.imp (pe_var hN hv hd hcd) fun σ H Q ⟨N0, F, Ad, M, env, m, en, r⟩ => by
    unfold eV at r
    split at r
    · rename_i d e
      obtain ⟨v, h1, h2⟩ := en.shr i d e
      exact ⟨v, h1, RP.here r m h2⟩
    · exact r.elim
theorem sb_var {i : Nat} {x : Str} {pos : Pos} (hN : X.N[i]? = some x) (hv : Vis X.env.scope x) (hd : (x == ("__debug__" : Str)) = false := by decide) (hcd : (x == ("__classdict__" : Str)) = false := by decide) : SB X W (.Name x pos) (eVB i) :=
  PE.imp (pe_var hN hv hd hcd) fun σ H Q ⟨N0, F, Ad, M, env, m, en, r⟩ => by
    unfold eVB at r
    split at r
    · rename_i d e
      obtain ⟨v, h1, h2⟩ := en.shr i d e
      exact ⟨v, h1, RP.here r m (.inl h2)⟩
    · rename_i d e
      obtain ⟨a, h1, h2, h3, h4, h5⟩ := en.own i d e
      exact ⟨.ref a, h1, RP.here r m (.inr ⟨a, rfl, h2, h3, h5⟩)⟩
    · rename_i d e
      obtain ⟨h0, h1, h2, h3, h4, h5, h6⟩ := en.slf i d e
      exact ⟨.ref _, h1, RP.here r m (.inr ⟨_, rfl, h2, h3, h5⟩)⟩
    · exact r.elim
def view (M : List D) : D → D
  | .cel n => (M[n]?).getD (.cel n)
  | d => d
def Op2 (X : Cx) (DR : DRel) (f : Value → Value → Sem Value) (g : D → D → List D → R) : Prop :=
  ∀ (pins : List (Addr × Obj)) (s : Shared) (σ : St) (H F : Hp) (Ad : List Addr) (M : List D) (E : XK) (x y : V) (v u : Value) (dx dy : D) (Q : VK), Inv X pins σ H s → MemOk X.K F Ad M H → RelV x v → RelV y u → DB X.K H F Ad H x dx → DB X.K H F Ad H y dy →
    RP X.K E DR F Ad H Q (g dx dy M) → wpAny (model X.prog X.w) X.A (f v u) (EP X pins σ Q) X.xe s
def e2 (g : D → D → List D → R) (a b : EF) : EF := fun env M => (a env M).bind fun x M1 => (b env M1).bind fun y M2 => g x y M2
theorem s_bin {DR : DRel} (dr : DRok DR) {op : Operator} {g : D → D → List D → R} {a b : Expr} {fa fb : EF} {pos : Pos} (ho : Op2 X DR (binaryOp op) g) (ha : SB X W a fa) (hb : SB X W b fb) : PE X (.BinOp a op b pos) (tG X.K W DR (e2 g fa fb)) := by
  refine ⟨fun pins s σ H Q I ⟨N0, F, Ad, M, env, m, en, r⟩ => ?_⟩
  refine wpAny_BinOp (binT (R := fun x y H2 => ∃ F2 Ad2 M2 dx dy, MemOk X.K F2 Ad2 M2 H2 ∧ DB X.K H2 F2 Ad2 H2 x dx ∧ DB X.K H2 F2 Ad2 H2 y dy ∧ RP X.K (fun c d H => W c d σ H) DR F2 Ad2 H2 Q (g dx dy M2)) ha hb I ?_ ?_)
  · refine tG_seq dr m en r fun d M1 v F1 Ad1 H1 g1 m1 en1 x1 r1 => ?_
    refine tG_seq dr m1 en1 r1 fun d2 M2 v2 F2 Ad2 H2 g2 m2 en2 x2 r2 => ?_
    exact ⟨F2, Ad2, M2, d, d2, m2, DB.gr g2 x1, x2, r2⟩
  · rintro v u s2 x y H2 I2 rx ry ⟨F2, Ad2, M2, dx, dy, m2, x1, x2, r2⟩
    exact ho pins s2 σ H2 F2 Ad2 M2 _ x y v u dx dy Q I2 m2 rx ry x1 x2 r2
theorem s_pc {DR : DRel} (dr : DRok DR) {op : CmpOp} {g : D → D → List D → R} {a b : Expr} {fa fb : EF} (ho : Op2 X DR (compareOp op) g) (ha : SB X W a fa) (hb : SB X W b fb) : PC X op a b (tG X.K W DR (e2 g fa fb)) := by
  refine ⟨fun pins s σ H Q I ⟨N0, F, Ad, M, env, m, en, r⟩ => ?_⟩
  refine binT (R := fun x y H2 => ∃ F2 Ad2 M2 dx dy, MemOk X.K F2 Ad2 M2 H2 ∧ DB X.K H2 F2 Ad2 H2 x dx ∧ DB X.K H2 F2 Ad2 H2 y dy ∧ RP X.K (fun c d H => W c d σ H) DR F2 Ad2 H2 Q (g dx dy M2)) ha hb I ?_ ?_
  · refine tG_seq dr m en r fun d M1 v F1 Ad1 H1 g1 m1 en1 x1 r1 => ?_
    refine tG_seq dr m1 en1 r1 fun d2 M2 v2 F2 Ad2 H2 g2 m2 en2 x2 r2 => ?_
    exact ⟨F2, Ad2, M2, d, d2, m2, DB.gr g2 x1, x2, r2⟩
  · rintro v u s2 x y H2 I2 rx ry ⟨F2, Ad2, M2, dx, dy, m2, x1, x2, r2⟩
    exact ho pins s2 σ H2 F2 Ad2 M2 _ x y v u dx dy Q I2 m2 rx ry x1 x2 r2
theorem s_cmp {DR : DRel} (dr : DRok DR) {op : CmpOp} {g : D → D → List D → R} {a b : Expr} {fa fb : EF} {pos : Pos} (ho : Op2 X DR (compareOp op) g) (ha : SB X W a fa) (hb : SB X W b fb) (hm : behindInMarks op b = false) : PE X (.Compare a [op] [b] pos) (tG X.K W DR (e2 g fa fb)) :=
  pe_cmp (s_pc dr ho ha hb) hm
def Op1 (X : Cx) (DR : DRel) (f : Value → Sem Value) (g : D → List D → R) : Prop :=
  ∀ (pins : List (Addr × Obj)) (s : Shared) (σ : St) (H F : Hp) (Ad : List Addr) (M : List D) (E : XK) (x : V) (v : Value) (dx : D) (Q : VK), Inv X pins σ H s → MemOk X.K F Ad M H → RelV x v → DB X.K H F Ad H x dx →
    RP X.K E DR F Ad H Q (g dx M) → wpAny (model X.prog X.w) X.A (f v) (EP X pins σ Q) X.xe s
def e1 (g : D → List D → R) (a : EF) : EF := fun env M => (a env M).bind g
theorem s_un {DR : DRel} (dr : DRok DR) {op : UnaryOp} {g : D → List D → R} {a : Expr} {fa : EF} {pos : Pos} (ho : Op1 X DR (unaryOp op) g) (ha : SB X W a fa) : PE X (.UnaryOp op a pos) (tG X.K W DR (e1 g fa)) := by
  refine ⟨fun pins s σ H Q I ⟨N0, F, Ad, M, env, m, en, r⟩ => ?_⟩
  refine UnaryOp_ (thn (ha.run pins s σ H _ I (tG_seq (Q' := fun v H1 => ∃ F1 Ad1 M1 d, MemOk X.K F1 Ad1 M1 H1 ∧ DB X.K H1 F1 Ad1 H1 v d ∧ RP X.K (fun c d H => W c d σ H) DR F1 Ad1 H1 Q (g d M1)) dr m en r fun d M1 v F1 Ad1 H1 g1 m1 en1 x1 r1 => ⟨F1, Ad1, M1, d, m1, x1, r1⟩)) fun u s1 ⟨x, H1, I1, rx, F1, Ad1, M1, d, m1, x1, r1⟩ => ?_)
  exact ho pins s1 σ H1 F1 Ad1 M1 _ x u d Q I1 m1 rx x1 r1
end
end MP
set_option maxRecDepth 100000
set_option maxHeartbeats 1000000
namespace MP
open PySem PySem.Spec PyProof.Rows L2
variable [TabsP] [ThkP]
section
variable {P : Program} {w : World} {A : Around} {E : Value → Shared → Prop} {s : Shared}
inductive HitT (A : Around) (s : Shared) (kb : List (List Key × Addr × Value)) : List (List Key × Addr × Value) → Bool → Prop
  | nil : HitT A s kb [] true
  | miss {p r} : (∀ (j : Nat) (q : Addr × Value), kb[j]? ≠ some (p.1, q)) → HitT A s kb (p :: r) false
  | no {p r} {j : Nat} {q : Addr × Value} : kb[j]? = some (p.1, q) → SeqAt.EqAt A s p.2.2 q.2 false → HitT A s kb (p :: r) false
  | yes {p r b} {j : Nat} {q : Addr × Value} : kb[j]? = some (p.1, q) → SeqAt.EqAt A s p.2.2 q.2 true → HitT A s kb r b → HitT A s kb (p :: r) b
end
end MP
set_option maxRecDepth 100000
set_option maxHeartbeats 1000000
namespace MP
open PySem PySem.Spec PyProof.Rows L2
variable [TabsP] [ThkP]
section
variable {X : Cx} {W : WX} {K : PySem.W.Frag} {E : XK} {DR : DRel} {N0 : Ent} {H0 F H : Hp} {Ad : List Addr} {M : List D} {env : EnvM} {σ : St} {Q : VK} {x : V}
def DV (K : PySem.W.Frag) (F : Hp) (Ad : List Addr) (H : Hp) (v : V) (d : D) : Prop := Den K F Ad v d ∨ ∃ a, v = .ref a ∧ Root K F Ad H a d
theorem DB.view (m : MemOk K F Ad M H) {d} (h : DB K H0 F Ad H x d) : DV K F Ad H x (view M d) := by
  cases d with
  | cel n =>
    rcases h with h | ⟨a, e, nn, na, r⟩
    · cases h with
      | @cel a _ h =>
        have hn : n < M.length := by rw [← m.len]; exact (List.getElem?_eq_some_iff.mp h).1
        have e2 : M[n]? = some M[n] := List.getElem?_eq_getElem hn
        obtain ⟨f, r⟩ := m.cel n a M[n] h e2
        show DV K F Ad H (.ref a) ((M[n]?).getD (.cel n))
        rw [e2]
        exact .inr ⟨a, rfl, r⟩
    · cases r
  | _ =>
    rcases h with h | ⟨a, e, nn, na, r⟩
    · exact .inl h
    · exact .inr ⟨a, e, r⟩
theorem DV.int {i} (h : DV K F Ad H x (.int i)) : x = .int i := by
  rcases h with h | ⟨a, e, r⟩
  · cases h; rfl
  · cases r
theorem DV.bl {i} (h : DV K F Ad H x (.bl i)) : x = .bl i := by
  rcases h with h | ⟨a, e, r⟩
  · cases h; rfl
  · cases r
theorem DV.str {i} (h : DV K F Ad H x (.str i)) : x = .str i := by
  rcases h with h | ⟨a, e, r⟩
  · cases h; rfl
  · cases r
theorem DV.non (h : DV K F Ad H x .non) : x = .non := by
  rcases h with h | ⟨a, e, r⟩
  · cases h; rfl
  · cases r
theorem sqT_sub (m : MemOk K F Ad M H) {a vs} (h : SqT K F a vs) : SqT K H a vs := by
  rcases h with (h | ⟨o, h⟩) | h
  · exact .inl (.inl (m.sub a _ h))
  · exact .inl (.inr ⟨o, m.sub a _ h⟩)
  · exact .inr h
theorem sqL_sub (m : MemOk K F Ad M H) {a vs} (h : SqL K F a vs) : SqL K H a vs := by
  rcases h with (h | ⟨o, h⟩) | h
  · exact .inl (.inl (m.sub a _ h))
  · exact .inl (.inr ⟨o, m.sub a _ h⟩)
  · exact .inr h
theorem DV.tup (m : MemOk K F Ad M H) {ds} (h : DV K F Ad H x (.tup ds)) : ∃ a vs, x = .ref a ∧ SqT K H a vs ∧ DenL K F Ad vs ds := by
  rcases h with h | ⟨a, e, r⟩
  · cases h with | tup h r => exact ⟨_, _, rfl, sqT_sub m h.sq, r⟩
  · cases r
theorem DV.ktp (m : MemOk K F Ad M H) {ds} (h : DV K F Ad H x (.ktp ds)) : ∃ a vs, x = .ref a ∧ SqT K H a vs ∧ DenL K F Ad vs ds := by
  rcases h with h | ⟨a, e, r⟩
  · cases h with | ktp h r => exact ⟨_, _, rfl, sqT_sub m h, r⟩
  · cases r
theorem DV.lst (m : MemOk K F Ad M H) {ds} (h : DV K F Ad H x (.lst ds)) : ∃ a vs, x = .ref a ∧ H a = some (.lst vs) ∧ DenL K F Ad vs ds := by
  rcases h with h | ⟨a, e, r⟩
  · cases h with | lst h r => exact ⟨_, _, rfl, m.sub _ _ h, r⟩
  · cases r with | lst h r => exact ⟨_, _, e, h, r⟩
theorem DV.scr (m : MemOk K F Ad M H) {ns} (h : DV K F Ad H x (.scr ns)) : ∃ a, x = .ref a ∧ SqL K H a (ns.map V.int) := by
  rcases h with h | ⟨a, e, r⟩
  · cases h with | scr h => exact ⟨_, rfl, sqL_sub m h⟩
  · cases r
theorem DV.ins (m : MemOk K F Ad M H) {c ds} (h : DV K F Ad H x (.ins c ds)) : ∃ a dx vs, x = .ref a ∧ H a = some (.ins (He.ga K c) dx vs) ∧ DenF K F Ad vs ds := by
  rcases h with h | ⟨a, e, r⟩
  · cases h with | ins h r => exact ⟨_, _, _, rfl, m.sub _ _ h, r⟩
  · cases r with | ins h r => exact ⟨_, _, _, e, h, r⟩
theorem DV.den {d} (h : DV K F Ad H x d) (n : ∀ a, ¬ Root K F Ad H a d) : Den K F Ad x d := by
  rcases h with h | ⟨a, e, r⟩
  · exact h
  · exact absurd r (n a)
def oAdd (x y : D) (M : List D) : R := match view M x, view M y with
  | .int i, .int j => .ok (.int (i + j)) M
  | .str a, .str b => if a.length + b.length ≤ sizeLine then .ok (.str (a ++ b)) M else .stuck
  | .tup a, .tup b => if a.length + b.length ≤ sizeLine then .ok (.tup (a ++ b)) M else .stuck
  | .lst a, .lst b => if a.length + b.length ≤ sizeLine then .ok (.lst (a ++ b)) M else .stuck
  | _, _ => .stuck
theorem op2_add : Op2 X (DE X.K) (binaryOp .Add) oAdd := by
  intro pins s σ H F Ad M E x y v u dx dy Q I m rx ry hx hy r
  have ax := DB.view m hx
  have ay := DB.view m hy
  unfold oAdd at r
  revert r ax ay
  generalize view M dx = ex
  generalize view M dy = ey
  intro r ax ay
  split at r
  · exact op_add pins s σ H x y v u Q I rx ry ⟨_, _, ax.int, ay.int, RP.here r m .int⟩
  · rename_i a b
    split at r
    · rename_i h; exact op_add_str pins s σ H x y v u Q I rx ry ⟨_, _, ax.str, ay.str, h, RP.here r m .str⟩
    · exact r.elim
  · rename_i a b
    split at r
    · rename_i h
      obtain ⟨p, vs, rfl, h1, d1⟩ := ax.tup m
      obtain ⟨q, ws, rfl, h2, d2⟩ := ay.tup m
      have l1 := d1.length
      have l2 := d2.length
      refine op_catA pins s σ H _ _ v u Q I rx ry ⟨p, q, vs, ws, rfl, rfl, h1, h2, by omega, fun e => ?_, fun e e2 => ?_, fun e e2 c hc => ?_⟩
      · subst e; cases d1; exact RP.here r m (ay.den fun _ h => nomatch h)
      · subst e2; cases d2; rw [List.append_nil] at r; exact RP.here r m (ax.den fun _ h => nomatch h)
      · exact RP.newTup r m (d1.append d2) hc
    · exact r.elim
  · rename_i a b
    split at r
    · rename_i h
      obtain ⟨p, vs, rfl, h1, d1⟩ := ax.lst m
      obtain ⟨q, ws, rfl, h2, d2⟩ := ay.lst m
      have l1 := d1.length
      have l2 := d2.length
      refine op_cat pins s σ H _ _ v u Q I rx ry ⟨p, q, vs, ws, rfl, rfl, h1, h2, by omega, fun c hc => RP.newLst r m (d1.append d2) hc⟩
    · exact r.elim
  · exact r.elim
theorem op2_int {f : Value → Value → Sem Value} {C : Int → Int → Prop} [DecidableRel C] {g : Int → Int → Int} (h : OpR X f (rI C fun i j => .int (g i j))) :
    Op2 X (DE X.K) f (fun x y M => match view M x, view M y with | .int i, .int j => if C i j then .ok (.int (g i j)) M else .stuck | _, _ => .stuck) := by
  intro pins s σ H F Ad M E x y v u dx dy Q I m rx ry hx hy r
  have ax := DB.view m hx
  have ay := DB.view m hy
  dsimp only at r
  revert r ax ay
  generalize view M dx = ex
  generalize view M dy = ey
  intro r ax ay
  split at r
  · rename_i i j
    split at r
    · rename_i hc; exact h pins s σ H x y v u Q I rx ry ⟨i, j, ax.int, ay.int, hc, RP.here r m .int⟩
    · exact r.elim
  · exact r.elim
def oSub (x y : D) (M : List D) : R := match view M x, view M y with | .int i, .int j => .ok (.int (i - j)) M | _, _ => .stuck
theorem op2_sub : Op2 X (DE X.K) (binaryOp .Sub) oSub := by
  intro pins s σ H F Ad M E x y v u dx dy Q I m rx ry hx hy r
  have ax := DB.view m hx
  have ay := DB.view m hy
  unfold oSub at r
  revert r ax ay
  generalize view M dx = ex
  generalize view M dy = ey
  intro r ax ay
  split at r
  · exact op_sub pins s σ H x y v u Q I rx ry ⟨_, _, ax.int, ay.int, RP.here r m .int⟩
  · exact r.elim
def CMulB (i j : Int) : Prop := i.natAbs / 9223372036854775808 = 0 ∨ j.natAbs / 9223372036854775808 = 0
instance : DecidableRel CMulB := fun i j => by unfold CMulB; exact inferInstance
theorem small_of {i : Int} (h : i.natAbs / 9223372036854775808 = 0) : -(2 ^ 64) < i ∧ i < 2 ^ 64 := by
  have h1 : i.natAbs < 9223372036854775808 := (Nat.div_eq_zero_iff_lt (by decide)).mp h
  have e : (2 : Int) ^ 64 = 18446744073709551616 := by decide
  rw [e]; omega
theorem CMulB.c {i j : Int} (h : CMulB i j) : CMul i j := by
  rcases h with h | h
  · exact .inl (small_of h)
  · exact .inr (small_of h)
instance : DecidableRel CDivW := fun i j => by unfold CDivW; exact inferInstance
instance : DecidableRel CPow := fun i j => by unfold CPow; exact inferInstance
def oMul (x y : D) (M : List D) : R := match view M x, view M y with | .int i, .int j => if CMulB i j then .ok (.int (i * j)) M else .stuck | _, _ => .stuck
def oDiv (x y : D) (M : List D) : R := match view M x, view M y with | .int i, .int j => if CDivW i j then .ok (.int (i / j)) M else .stuck | _, _ => .stuck
def oMod (x y : D) (M : List D) : R := match view M x, view M y with | .int i, .int j => if 0 < j then .ok (.int (i % j)) M else .stuck | _, _ => .stuck
def oPow (x y : D) (M : List D) : R := match view M x, view M y with | .int i, .int j => if CPow i j then .ok (.int (i ^ j.toNat)) M else .stuck | _, _ => .stuck
theorem op2_mul : Op2 X (DE X.K) (binaryOp .Mult) oMul := op2_int (C := CMulB) fun pins s σ H x y v u Q I rx ry ⟨i, j, e1, e2, hc, q⟩ => op_mul pins s σ H x y v u Q I rx ry ⟨i, j, e1, e2, hc.c, q⟩
theorem op2_div : Op2 X (DE X.K) (binaryOp .FloorDiv) oDiv := op2_int op_fdivW
theorem op2_mod : Op2 X (DE X.K) (binaryOp .Mod) oMod := op2_int (C := fun _ j => 0 < j) op_mod
theorem op2_pow : Op2 X (DE X.K) (binaryOp .Pow) oPow := op2_int op_pow
def oNeg (x : D) (M : List D) : R := match view M x with | .int i => .ok (.int (-i)) M | _ => .stuck
theorem op1_neg : Op1 X (DE X.K) (unaryOp .USub) oNeg := by
  intro pins s σ H F Ad M E x v dx Q I m rx hx r
  have ax := DB.view m hx
  unfold oNeg at r
  revert r ax
  generalize view M dx = ex
  intro r ax
  split at r
  · exact un_neg pins s σ H x v Q I rx ⟨_, ax.int, RP.here r m .int⟩
  · exact r.elim
def intsOf : List D → Option (List Int)
  | [] => some []
  | .int i :: r => (intsOf r).map (i :: ·)
  | _ :: _ => none
theorem DenL.ints : ∀ {vs ds ns}, DenL K F Ad vs ds → intsOf ds = some ns → vs = ns.map V.int
  | _, _, ns, .nil, e => by simp [intsOf] at e; subst e; rfl
  | _, _, ns, .cons (d := d) h r, e => by
    cases d with
    | int i =>
      simp only [intsOf, Option.map_eq_some_iff] at e
      obtain ⟨ms, e1, rfl⟩ := e
      cases h
      simp [DenL.ints r e1]
    | _ => simp [intsOf] at e
def oLt (x y : D) (M : List D) : R := match view M x, view M y with
  | .int i, .int j => .ok (.bl (decide (i < j))) M
  | .tup a, .tup b => (match intsOf a, intsOf b with
    | some ns, some ms => .ok (.bl (HT.lexLt ns ms)) M
    | _, _ => .stuck)
  | _, _ => .stuck
theorem op2_lt (hu : X.A.units < cLine) : Op2 X (DE X.K) (compareOp .Lt) oLt := by
  intro pins s σ H F Ad M E x y v u dx dy Q I m rx ry hx hy r
  have ax := DB.view m hx
  have ay := DB.view m hy
  unfold oLt at r
  revert r ax ay
  generalize view M dx = ex
  generalize view M dy = ey
  intro r ax ay
  split at r
  · exact op_lt pins s σ H x y v u Q I rx ry ⟨_, _, ax.int, ay.int, RP.here r m .bl⟩
  · rename_i a b
    split at r
    · rename_i ns ms e1 e2
      obtain ⟨p, vs, rfl, h1, d1⟩ := ax.tup m
      obtain ⟨q, ws, rfl, h2, d2⟩ := ay.tup m
      rw [d1.ints e1] at h1
      rw [d2.ints e2] at h2
      exact op_ltT hu pins s σ H _ _ v u Q I rx ry ⟨p, q, ns, ms, rfl, rfl, h1, h2, RP.here r m .bl⟩
    · exact r.elim
  · exact r.elim
theorem op2_intB {f : Value → Value → Sem Value} {g : Int → Int → Bool} (h : OpR X f (rI0 fun i j => .bl (g i j))) :
    Op2 X (DE X.K) f (fun x y M => match view M x, view M y with | .int i, .int j => .ok (.bl (g i j)) M | _, _ => .stuck) := by
  intro pins s σ H F Ad M E x y v u dx dy Q I m rx ry hx hy r
  have ax := DB.view m hx
  have ay := DB.view m hy
  dsimp only at r
  revert r ax ay
  generalize view M dx = ex
  generalize view M dy = ey
  intro r ax ay
  split at r
  · exact h pins s σ H x y v u Q I rx ry ⟨_, _, ax.int, ay.int, RP.here r m .bl⟩
  · exact r.elim
def oLe (x y : D) (M : List D) : R := match view M x, view M y with | .int i, .int j => .ok (.bl (decide (i ≤ j))) M | _, _ => .stuck
def oGt (x y : D) (M : List D) : R := match view M x, view M y with | .int i, .int j => .ok (.bl (decide (j < i))) M | _, _ => .stuck
def oGe (x y : D) (M : List D) : R := match view M x, view M y with | .int i, .int j => .ok (.bl (decide (j ≤ i))) M | _, _ => .stuck
theorem op2_le : Op2 X (DE X.K) (compareOp .LtE) oLe := op2_intB op_le
theorem op2_gt : Op2 X (DE X.K) (compareOp .Gt) oGt := op2_intB op_gt
theorem op2_ge : Op2 X (DE X.K) (compareOp .GtE) oGe := op2_intB op_ge
mutual
def D.pd : D → Option PyData
  | .non => some .none
  | .bl b => some (.bool b)
  | .int i => some (.int i)
  | .str s => some (.str s)
  | .tup ds => (D.pdL ds).map .tuple
  | .lst ds => (D.pdL ds).map .list
  | _ => none
def D.pdL : List D → Option (List PyData)
  | [] => some []
  | d :: ds => match D.pd d, D.pdL ds with
    | some p, some ps => some (p :: ps)
    | _, _ => none
end
section
variable {M : List D}
mutual
theorem Den.dp (m : MemOk K F Ad M H) : ∀ {v d p}, Den K F Ad v d → d.pd = some p → Dp K H v p
  | _, _, p, .non, e => by simp [D.pd] at e; subst e; exact .non
  | _, _, p, .bl, e => by simp [D.pd] at e; subst e; exact .bl _
  | _, _, p, .int, e => by simp [D.pd] at e; subst e; exact .int _
  | _, _, p, .str, e => by simp [D.pd] at e; subst e; exact .str _
  | _, _, p, .tup h r, e => by
    simp only [D.pd, Option.map_eq_some_iff] at e
    obtain ⟨ps, e1, rfl⟩ := e
    exact .tup (sqT_sub m h.sq) (r.dp m e1)
  | _, _, p, .lst h r, e => by
    simp only [D.pd, Option.map_eq_some_iff] at e
    obtain ⟨ps, e1, rfl⟩ := e
    exact .lst (SqL.of (m.sub _ _ h)) (r.dp m e1)
  | _, _, p, .scr _, e => by simp [D.pd] at e
  | _, _, p, .ktp _ _, e => by simp [D.pd] at e
  | _, _, p, .dK _ _, e => by simp [D.pd] at e
  | _, _, p, .dT _ _, e => by simp [D.pd] at e
  | _, _, p, .ins _ _, e => by simp [D.pd] at e
  | _, _, p, .cel _, e => by simp [D.pd] at e
theorem DenL.dp (m : MemOk K F Ad M H) : ∀ {vs ds ps}, DenL K F Ad vs ds → D.pdL ds = some ps → DpAll K H vs ps
  | _, _, ps, .nil, e => by simp [D.pdL] at e; subst e; exact .nil
  | _, _, ps, .cons h r, e => by
    simp only [D.pdL] at e
    split at e
    · rename_i p qs e1 e2
      cases e
      exact .cons (h.dp m e1) (r.dp m e2)
    · cases e
end
theorem DV.dp (m : MemOk K F Ad M H) {v d p} (h : DV K F Ad H v d) (e : d.pd = some p) : Dp K H v p := by
  rcases h with h | ⟨a, rfl, r⟩
  · exact h.dp m e
  · cases r with
    | lst h r =>
      simp only [D.pd, Option.map_eq_some_iff] at e
      obtain ⟨ps, e1, rfl⟩ := e
      exact .lst (SqL.of h) (r.dp m e1)
    | dK => simp [D.pd] at e
    | dT => simp [D.pd] at e
    | ins => simp [D.pd] at e
end
def eqS : D → D → Option Bool
  | .int i, .int j => some (i == j)
  | .str i, .str j => some (i == j)
  | .bl i, .bl j => some (i == j)
  | .non, .non => some true
  | .non, .int _ => some false
  | .int _, .non => some false
  | .str _, .non => some false
  | .non, .str _ => some false
  | .non, .bl _ => some false
  | .bl _, .non => some false
  | .int _, .str _ => some false
  | .str _, .int _ => some false
  | .bl _, .str _ => some false
  | .str _, .bl _ => some false
  | _, _ => none
def eqP (x y : D) : Option Bool := match x.pd, y.pd with
  | some p, some q => if SeqAt.shaped p = true ∧ SeqAt.shaped q = true then some (PyData.eqv p q) else none
  | _, _ => none
def eqD (x y : D) : Option Bool := match eqS x y with
  | some b => some b
  | none => eqP x y
theorem eqS_ok {dx dy : D} {x y : V} {b : Bool} (h : eqS dx dy = some b) (ax : DV K F Ad H x dx) (ay : DV K F Ad H y dy) : scal x y = true ∧ decide (x = y) = b := by
  unfold eqS at h
  split at h
  · cases h; rw [ax.int, ay.int]; exact ⟨rfl, dec_int⟩
  · cases h; rw [ax.str, ay.str]; exact ⟨rfl, dec_str⟩
  · cases h; rw [ax.bl, ay.bl]; exact ⟨rfl, dec_bl⟩
  · cases h; rw [ax.non, ay.non]; exact ⟨rfl, by simp⟩
  · cases h; rw [ax.non, ay.int]; exact ⟨rfl, by simp⟩
  · cases h; rw [ax.int, ay.non]; exact ⟨rfl, by simp⟩
  · cases h; rw [ax.str, ay.non]; exact ⟨rfl, by simp⟩
  · cases h; rw [ax.non, ay.str]; exact ⟨rfl, by simp⟩
  · cases h; rw [ax.non, ay.bl]; exact ⟨rfl, by simp⟩
  · cases h; rw [ax.bl, ay.non]; exact ⟨rfl, by simp⟩
  · cases h; rw [ax.int, ay.str]; exact ⟨rfl, by simp⟩
  · cases h; rw [ax.str, ay.int]; exact ⟨rfl, by simp⟩
  · cases h; rw [ax.bl, ay.str]; exact ⟨rfl, by simp⟩
  · cases h; rw [ax.str, ay.bl]; exact ⟨rfl, by simp⟩
  · cases h
theorem eqP_ok {x y : D} {b : Bool} (h : eqP x y = some b) : ∃ p q, x.pd = some p ∧ y.pd = some q ∧ SeqAt.shaped p = true ∧ SeqAt.shaped q = true ∧ PyData.eqv p q = b := by
  unfold eqP at h
  split at h
  · split at h
    · rename_i h1
      exact ⟨_, _, ‹_›, ‹_›, h1.1, h1.2, Option.some.inj h⟩
    · cases h
  · cases h
def oEq (x y : D) (M : List D) : R := match eqD (view M x) (view M y) with | some b => .ok (.bl b) M | none => .stuck
def oNe (x y : D) (M : List D) : R := match eqD (view M x) (view M y) with | some b => .ok (.bl !b) M | none => .stuck
theorem op2_eq (hu : X.A.units + 64 < cLine) : Op2 X (DE X.K) (compareOp .Eq) oEq := by
  intro pins s σ H F Ad M E x y v u dx dy Q I m rx ry hx hy r
  have ax := DB.view m hx
  have ay := DB.view m hy
  unfold oEq eqD at r
  split at r
  · rename_i b e
    split at e
    · rename_i b' e'
      cases e
      obtain ⟨s1, s2⟩ := eqS_ok e' ax ay
      exact op_eq pins s σ H x y v u Q I rx ry ⟨s1, by rw [s2]; exact RP.here r m .bl⟩
    · obtain ⟨p, q, e1, e2, s1, s2, rfl⟩ := eqP_ok e
      exact op_eqD hu pins s σ H x y v u Q I rx ry ⟨p, q, ax.dp m e1, ay.dp m e2, s1, s2, RP.here r m .bl⟩
  · exact r.elim
theorem op2_ne (hu : X.A.units + 64 < cLine) : Op2 X (DE X.K) (compareOp .NotEq) oNe := by
  intro pins s σ H F Ad M E x y v u dx dy Q I m rx ry hx hy r
  have ax := DB.view m hx
  have ay := DB.view m hy
  unfold oNe eqD at r
  split at r
  · rename_i b e
    split at e
    · rename_i b' e'
      cases e
      obtain ⟨s1, s2⟩ := eqS_ok e' ax ay
      exact op_ne pins s σ H x y v u Q I rx ry ⟨s1, by rw [s2]; exact RP.here r m .bl⟩
    · obtain ⟨p, q, e1, e2, s1, s2, rfl⟩ := eqP_ok e
      exact op_neD hu pins s σ H x y v u Q I rx ry ⟨p, q, ax.dp m e1, ay.dp m e2, s1, s2, RP.here r m .bl⟩
  · exact r.elim
def D.isN : D → Bool | .non => true | _ => false
def oIs (x y : D) (M : List D) : R := match y with | .non => .ok (.bl x.isN) M | _ => .stuck
def oIsnt (x y : D) (M : List D) : R := match y with | .non => .ok (.bl !x.isN) M | _ => .stuck
theorem DB.non (h : DB K H0 F Ad H x .non) : x = .non := by
  rcases h with h | ⟨a, e, n, na, q⟩
  · cases h; rfl
  · cases q
theorem DB.isN {d} (h : DB K H0 F Ad H x d) : decide (x = .non) = d.isN := by
  rcases h with h | ⟨a, e, n, na, r⟩
  · cases h <;> simp [D.isN]
  · subst e; cases r <;> simp [D.isN]
theorem op2_isN : Op2 X (DE X.K) (compareOp .Is) oIs := by
  intro pins s σ H F Ad M E x y v u dx dy Q I m rx ry hx hy r
  unfold oIs at r
  split at r
  · exact op_isN pins s σ H x y v u Q I rx ry ⟨hy.non, by rw [hx.isN]; exact RP.here r m .bl⟩
  · exact r.elim
theorem op2_notN : Op2 X (DE X.K) (compareOp .IsNot) oIsnt := by
  intro pins s σ H F Ad M E x y v u dx dy Q I m rx ry hx hy r
  unfold oIsnt at r
  split at r
  · exact op_notN pins s σ H x y v u Q I rx ry ⟨hy.non, by rw [hx.isN]; exact RP.here r m .bl⟩
  · exact r.elim
end
end MP
set_option maxRecDepth 100000
set_option maxHeartbeats 1000000
namespace MP
open PySem PySem.Spec PyProof.Rows L2
variable [TabsP] [ThkP]
def RPT (K : PySem.W.Frag) (E : XK) (F : Hp) (Ad : List Addr) (H : Hp) (Q : Bool → Hp → Prop) : R → Prop
  | .ok (.bl b) M' => ∀ F' Ad' H', Gr F Ad H F' Ad' H' → MemOk K F' Ad' M' H' → Q b H'
  | .ok _ _ => False
  | .exc x M' => ∀ cls dx F' Ad' H', Gr F Ad H F' Ad' H' → MemOk K F' Ad' M' H' → XOk K F' Ad' H' x cls dx → E cls dx H'
  | .stuck => False
def tT (K : PySem.W.Frag) (W : WX) (f : EF) : TT := fun σ H Q => ∃ N0 F Ad M env, MemOk K F Ad M H ∧ EnvOk K N0 F Ad H σ env ∧ RPT K (fun c d H => W c d σ H) F Ad H Q (f env M)
abbrev ST (X : Cx) (W : WX) (e : Expr) (f : EF) : Prop := PT X e (tT X.K W f)
abbrev SW (X : Cx) (W : WX) (e : Expr) (f : EF) : Prop := PW X e (tT X.K W f)
def eAnd (a b : EF) : EF := fun env M => (a env M).bind fun x M1 => match x with | .bl true => b env M1 | .bl false => .ok (.bl false) M1 | _ => .stuck
def eOr (a b : EF) : EF := fun env M => (a env M).bind fun x M1 => match x with | .bl true => .ok (.bl true) M1 | .bl false => b env M1 | _ => .stuck
def eNot (a : EF) : EF := fun env M => (a env M).bind fun x M1 => match x with | .bl c => .ok (.bl !c) M1 | _ => .stuck
def eIf (c a b : EF) : EF := fun env M => (c env M).bind fun x M1 => match x with | .bl true => a env M1 | .bl false => b env M1 | _ => .stuck
section
variable {X : Cx} {W : WX} {K : PySem.W.Frag} {E : XK} {DR : DRel} {N0 : Ent} {H0 F F1 H H1 : Hp} {Ad Ad1 : List Addr} {M : List D} {env : EnvM} {σ : St} {Q : VK} {x : V}
theorem RPT.gr {Q : Bool → Hp → Prop} {r : R} (h : RPT K E F Ad H Q r) (g : Gr F Ad H F1 Ad1 H1) : RPT K E F1 Ad1 H1 Q r := by
  cases r with
  | ok d M => cases d with
    | bl b => exact fun F' Ad' H' g' m => h F' Ad' H' (g.trans g') m
    | _ => exact h
  | exc x M => exact fun c dx F' Ad' H' g' m z => h c dx F' Ad' H' (g.trans g') m z
  | stuck => exact h
theorem RPT.here {Q : Bool → Hp → Prop} {b : Bool} (h : RPT K E F Ad H Q (.ok (.bl b) M)) (m : MemOk K F Ad M H) : Q b H := h F Ad H Gr.refl m
theorem tT_seqT {f : EF} {k : D → List D → R} {Q Q' : Bool → Hp → Prop} (m : MemOk K F Ad M H) (e : EnvOk K N0 F Ad H σ env)
    (h : RPT K (fun c d H => W c d σ H) F Ad H Q ((f env M).bind k)) (hn : ∀ d M1, (∀ b, d ≠ .bl b) → k d M1 = .stuck)
    (hq : ∀ b M1 F1 Ad1 H1, Gr F Ad H F1 Ad1 H1 → MemOk K F1 Ad1 M1 H1 → EnvOk K N0 F1 Ad1 H1 σ env → RPT K (fun c d H => W c d σ H) F1 Ad1 H1 Q (k (.bl b) M1) → Q' b H1) : tT K W f σ H Q' := by
  refine ⟨N0, F, Ad, M, env, m, e, ?_⟩
  cases q : f env M with
  | ok d M1 =>
    rw [q] at h
    cases d with
    | bl b => exact fun F' Ad' H' g m' => hq b M1 F' Ad' H' g m' (e.gr g) (RPT.gr h g)
    | _ =>
      rw [R.bind_ok, hn _ M1] at h
      · exact h
      · intro b z; cases z
  | exc x M1 => rw [q] at h; exact h
  | stuck => rw [q] at h; exact h
theorem tT_seqG {f : EF} {k : D → List D → R} {Q : VK} {Q' : Bool → Hp → Prop} (dr : DRok DR) (m : MemOk K F Ad M H) (e : EnvOk K N0 F Ad H σ env)
    (h : RP K (fun c d H => W c d σ H) DR F Ad H Q ((f env M).bind k)) (hn : ∀ d M1, (∀ b, d ≠ .bl b) → k d M1 = .stuck)
    (hq : ∀ b M1 F1 Ad1 H1, Gr F Ad H F1 Ad1 H1 → MemOk K F1 Ad1 M1 H1 → EnvOk K N0 F1 Ad1 H1 σ env → RP K (fun c d H => W c d σ H) DR F1 Ad1 H1 Q (k (.bl b) M1) → Q' b H1) : tT K W f σ H Q' := by
  refine ⟨N0, F, Ad, M, env, m, e, ?_⟩
  cases q : f env M with
  | ok d M1 =>
    rw [q] at h
    cases d with
    | bl b => exact fun F' Ad' H' g m' => hq b M1 F' Ad' H' g m' (e.gr g) (RP.gr dr h g)
    | _ =>
      rw [R.bind_ok, hn _ M1] at h
      · exact h
      · intro b z; cases z
  | exc x M1 => rw [q] at h; exact h
  | stuck => rw [q] at h; exact h
variable {a b c : Expr} {fa fb fc : EF} {pos : Pos} {rest : List Expr}
theorem st_val (h : SE X W a fa) (he : ∀ whole, isTrue a X.env whole = (do let v ← whole; standAt a.pos; holding [v] (truthy v)) := by intro _; rfl) : ST X W a fa :=
  PT.imp (pt_val h he) fun σ H Q ⟨N0, F, Ad, M, env, m, en, r⟩ => ⟨N0, F, Ad, M, env, m, en, by
    cases q : fa env M with
    | ok d M1 =>
      rw [q] at r
      intro v F' Ad' H' g m' x
      cases d with
      | bl b => cases x; exact ⟨b, rfl, r F' Ad' H' g m'⟩
      | _ => exact r.elim
    | exc x M1 => rw [q] at r; exact r
    | stuck => rw [q] at r; exact r⟩
theorem st_cmp {op : CmpOp} {g : D → D → List D → R} (ho : Op2 X (DE X.K) (compareOp op) g) (ha : SB X W a fa) (hb : SB X W b fb) (hm : behindInMarks op b = false) : ST X W (.Compare a [op] [b] pos) (e2 g fa fb) :=
  PT.imp (pt_cmp (s_pc DE.ok ho ha hb) hm) fun σ H Q ⟨N0, F, Ad, M, env, m, en, r⟩ => ⟨N0, F, Ad, M, env, m, en, by
    cases q : e2 g fa fb env M with
    | ok d M1 =>
      rw [q] at r
      intro v F' Ad' H' g m' x
      cases d with
      | bl b => cases x; exact ⟨b, rfl, r F' Ad' H' g m'⟩
      | _ => exact r.elim
    | exc x M1 => rw [q] at r; exact r
    | stuck => rw [q] at r; exact r⟩
theorem sw_and1 (h : ST X W a fa) : SW X W (.BoolOp .And [a] pos) fa := pw_and1 h
theorem sw_or1 (h : ST X W a fa) : SW X W (.BoolOp .Or [a] pos) fa := pw_or1 h
theorem sw_and (ha : ST X W a fa) (hb : SW X W (.BoolOp .And (b :: rest) pos) fb) : SW X W (.BoolOp .And (a :: b :: rest) pos) (eAnd fa fb) :=
  PW.imp (pw_and ha hb) fun σ H Q ⟨N0, F, Ad, M, env, m, en, r⟩ => tT_seqT m en r (fun d M1 hd => by cases d <;> first | rfl | exact absurd rfl (hd _)) fun b M1 F1 Ad1 H1 g1 m1 en1 r1 => by
    cases b with
    | true => exact ⟨N0, F1, Ad1, M1, env, m1, en1, r1⟩
    | false => exact RPT.here r1 m1
theorem sw_or (ha : ST X W a fa) (hb : SW X W (.BoolOp .Or (b :: rest) pos) fb) : SW X W (.BoolOp .Or (a :: b :: rest) pos) (eOr fa fb) :=
  PW.imp (pw_or ha hb) fun σ H Q ⟨N0, F, Ad, M, env, m, en, r⟩ => tT_seqT m en r (fun d M1 hd => by cases d <;> first | rfl | exact absurd rfl (hd _)) fun b M1 F1 Ad1 H1 g1 m1 en1 r1 => by
    cases b with
    | true => exact RPT.here r1 m1
    | false => exact ⟨N0, F1, Ad1, M1, env, m1, en1, r1⟩
theorem st_w (h : SW X W a fa) : ST X W a fa := PW.pt h
theorem st_not (ha : ST X W a fa) : ST X W (.UnaryOp .Not a pos) (eNot fa) :=
  PT.imp (pt_not ha) fun σ H Q ⟨N0, F, Ad, M, env, m, en, r⟩ => tT_seqT m en r (fun d M1 hd => by cases d <;> first | rfl | exact absurd rfl (hd _)) fun b M1 F1 Ad1 H1 g1 m1 en1 r1 => RPT.here r1 m1
theorem se_one {op} (h : PE X a (tG X.K W DR fa)) : PE X (.BoolOp op [a] pos) (tG X.K W DR fa) := pe_one h
theorem se_and (ha : SE X W a fa) (hb : SE X W (.BoolOp .And (b :: rest) pos) fb) : SE X W (.BoolOp .And (a :: b :: rest) pos) (eAnd fa fb) :=
  PE.imp (pe_and ha hb) fun σ H Q ⟨N0, F, Ad, M, env, m, en, r⟩ => tG_seq DE.ok m en r fun d M1 v F1 Ad1 H1 g1 m1 en1 x1 r1 => by
    cases d with
    | bl b =>
      cases x1
      refine ⟨b, rfl, ?_⟩
      cases b with
      | true => exact ⟨N0, F1, Ad1, M1, env, m1, en1, r1⟩
      | false => exact RP.here r1 m1 .bl
    | _ => exact r1.elim
theorem se_or (ha : SE X W a fa) (hb : SE X W (.BoolOp .Or (b :: rest) pos) fb) : SE X W (.BoolOp .Or (a :: b :: rest) pos) (eOr fa fb) :=
  PE.imp (pe_or ha hb) fun σ H Q ⟨N0, F, Ad, M, env, m, en, r⟩ => tG_seq DE.ok m en r fun d M1 v F1 Ad1 H1 g1 m1 en1 x1 r1 => by
    cases d with
    | bl b =>
      cases x1
      refine ⟨b, rfl, ?_⟩
      cases b with
      | true => exact RP.here r1 m1 .bl
      | false => exact ⟨N0, F1, Ad1, M1, env, m1, en1, r1⟩
    | _ => exact r1.elim
theorem se_not (ha : SE X W a fa) : SE X W (.UnaryOp .Not a pos) (eNot fa) :=
  PE.imp (pe_not ha) fun σ H Q ⟨N0, F, Ad, M, env, m, en, r⟩ => tG_seq DE.ok m en r fun d M1 v F1 Ad1 H1 g1 m1 en1 x1 r1 => by
    cases d with
    | bl b => cases x1; exact ⟨b, rfl, RP.here r1 m1 .bl⟩
    | _ => exact r1.elim
theorem s_if (dr : DRok DR) (hc : ST X W c fc) (ha : PE X a (tG X.K W DR fa)) (hb : PE X b (tG X.K W DR fb)) : PE X (.IfExp c a b pos) (tG X.K W DR (eIf fc fa fb)) :=
  PE.imp (pe_ifExp hc ha hb) fun σ H Q ⟨N0, F, Ad, M, env, m, en, r⟩ => tT_seqG dr m en r (fun d M1 hd => by cases d <;> first | rfl | exact absurd rfl (hd _)) fun b M1 F1 Ad1 H1 g1 m1 en1 r1 => by
    cases b with
    | true => exact ⟨N0, F1, Ad1, M1, env, m1, en1, r1⟩
    | false => exact ⟨N0, F1, Ad1, M1, env, m1, en1, r1⟩
def rOp (X : Cx) (E : XK) (DR : DRel) (g : D → D → List D → R) : R2 := fun x y H Q => ∃ F Ad M dx dy, MemOk X.K F Ad M H ∧ DB X.K H F Ad H x dx ∧ DB X.K H F Ad H y dy ∧ RP X.K E DR F Ad H Q (g dx dy M)
theorem Op2.opR {f : Value → Value → Sem Value} {g : D → D → List D → R} (h : Op2 X DR f g) : OpR X f (rOp X E DR g) := fun pins s σ H x y v u Q I rx ry ⟨F, Ad, M, dx, dy, m, hx, hy, r⟩ => h pins s σ H F Ad M E x y v u dx dy Q I m rx ry hx hy r
def eChain (g g' : D → D → List D → R) (a b c : EF) : EF := fun env M => (a env M).bind fun x M1 => (b env M1).bind fun y M2 => (g x y M2).bind fun r M3 => match r with
  | .bl true => (c env M3).bind fun z M4 => g' y z M4
  | .bl false => .ok (.bl false) M3
  | _ => .stuck
def lNil : LF := fun _ M => .ok [] M
def lCons (a : EF) (l : LF) : LF := fun env M => (a env M).bindL fun x M1 => (l env M1).bindL fun xs M2 => .ok (x :: xs) M2
variable {e : Expr} {es : List Expr} {f : EF} {l : LF}
theorem sl_nil : SL X W [] lNil := PA.imp pa_nil fun σ H Q ⟨N0, F, Ad, M, env, m, en, r⟩ => r [] F Ad H Gr.refl m .nil
theorem slb_nil : SLB X W [] lNil := PA.imp pa_nil fun σ H Q ⟨N0, F, Ad, M, env, m, en, r⟩ => r [] F Ad H Gr.refl m .nil
theorem sl_cons (ha : SE X W e f) (hr : SL X W es l) (hs : starEach (e :: es) X.env = (false, eval e X.env) :: starEach es X.env := by rfl) : SL X W (e :: es) (lCons f l) :=
  PA.imp (pa_cons ha hr hs) fun σ H Q ⟨N0, F, Ad, M, env, m, en, r⟩ => tG_seqL m en r fun d M1 v F1 Ad1 H1 g1 m1 en1 x1 r1 => tL_seqL m1 en1 r1 fun ds M2 vs F2 Ad2 H2 g2 m2 en2 x2 r2 =>
    r2 (v :: vs) F2 Ad2 H2 Gr.refl m2 (.cons (x1.mono g2.fle g2.pre) x2)
theorem slb_cons (ha : SB X W e f) (hr : SLB X W es l) (hs : starEach (e :: es) X.env = (false, eval e X.env) :: starEach es X.env := by rfl) : SLB X W (e :: es) (lCons f l) :=
  PA.imp (pa_cons ha hr hs) fun σ H Q ⟨N0, F, Ad, M, env, m, en, r⟩ => tG_seqL m en r fun d M1 v F1 Ad1 H1 g1 m1 en1 x1 r1 => tL_seqL m1 en1 r1 fun ds M2 vs F2 Ad2 H2 g2 m2 en2 x2 r2 =>
    r2 (v :: vs) F2 Ad2 H2 Gr.refl m2 (.cons (DB.gr g2 x1) x2)
def eTup (l : LF) : EF := fun env M => (l env M).bind fun xs M1 => if xs.length ≤ sizeLine then .ok (.tup xs) M1 else .stuck
def eLst (l : LF) : EF := fun env M => (l env M).bind fun xs M1 => if xs.length ≤ sizeLine then .ok (.lst xs) M1 else .stuck
theorem se_tup {k} (h : SL X W es l) : SE X W (.Tuple es k pos) (eTup l) := PE.imp (pe_tup h) fun σ H Q ⟨N0, F, Ad, M, env, m, en, r⟩ => tL_seq DE.ok m en r fun ds M1 vs F1 Ad1 H1 g1 m1 en1 x1 r1 => by
  split at r1
  · rename_i z; exact ⟨by rw [x1.length]; exact z, fun p hp => RP.newTup r1 m1 x1 hp⟩
  · exact r1.elim
theorem so_lst (h : SL X W es l) : SO X W (.List es pos) (eLst l) := PE.imp (pe_lst h) fun σ H Q ⟨N0, F, Ad, M, env, m, en, r⟩ => tL_seq DO.ok m en r fun ds M1 vs F1 Ad1 H1 g1 m1 en1 x1 r1 => by
  split at r1
  · rename_i z; exact ⟨by rw [x1.length]; exact z, fun p hp => RP.ownLst r1 m1 x1 hp⟩
  · exact r1.elim
def eNew (d : D) : EF := fun _ M => .ok d M
theorem so_dK : SO X W (.Dict [] [] pos) (eNew (.dK [])) := PE.imp pe_dnewK fun σ H Q ⟨N0, F, Ad, M, env, m, en, r⟩ p hp => RP.ownDK r m .nil hp
theorem so_dT : SO X W (.Dict [] [] pos) (eNew (.dT [])) := PE.imp pe_dnewT fun σ H Q ⟨N0, F, Ad, M, env, m, en, r⟩ p hp => RP.ownDT r m .nil hp
def CallS (X : Cx) (DR : DRel) (f : Value) (g : List D → List D → R) : Prop :=
  ∀ (pins : List (Addr × Obj)) (s : Shared) (σ : St) (H F : Hp) (Ad : List Addr) (M : List D) (E : XK) (xs : List V) (us : List Value) (ds : List D) (Q : VK), Inv X pins σ H s → MemOk X.K F Ad M H → Vals xs us → DLB X.K F Ad H xs ds →
    RP X.K E DR F Ad H Q (g ds M) → wpAny (model X.prog X.w) X.A (call f us) (EP X pins σ Q) X.xe s
def eCall (g : List D → List D → R) (l : LF) : EF := fun env M => (l env M).bind g
def rC (X : Cx) (E : XK) (DR : DRel) (g : List D → List D → R) : List V → Hp → VK → Prop := fun xs H Q => ∃ F Ad M ds, MemOk X.K F Ad M H ∧ DLB X.K F Ad H xs ds ∧ RP X.K E DR F Ad H Q (g ds M)
theorem s_callB (dr : DRok DR) {id : String} {x : Str} {p : Pos} {g : List D → List D → R} (hc : CallS X DR (.builtin id) g) (hg : Gl X x) (hm : X.mg x = none) (hv : bootBuiltins x = some (.builtin id)) (ha : SLB X W (e :: es) l) (hn : x ≠ "__name__" := by decide) (hdb : (x == ("__debug__" : Str)) = false := by decide)
    (he : starEach (e :: es) X.env = (false, eval e X.env) :: starEach es X.env := by rfl) (hpl : (backTo pos (starEach es X.env)).any (·.1) = false := by rfl) : PE X (.Call (.Name x p) (e :: es) [] pos) (tG X.K W DR (eCall g l)) := by
  refine ⟨fun pins s σ H Q I ⟨N0, F, Ad, M, env, m, en, r⟩ => ?_⟩
  refine wpAny_Call_Name_kw (ld_blt I hg hm hv ?_ hn hdb)
  refine PyProof.Rows.callWith_builtin1 (thn (ha.run pos pins s σ H _ I (tL_seq (Q' := fun vs H1 => rC X (fun c d H => W c d σ H) DR g vs H1 Q) dr m en r fun ds M1 vs F1 Ad1 H1 g1 m1 en1 x1 r1 => ⟨F1, Ad1, M1, ds, m1, x1, r1⟩)) fun us s1 ⟨vs, H1, I1, rv, F1, Ad1, M1, ds, m1, x1, r1⟩ => ?_) he hpl
  exact hc pins s1 σ H1 F1 Ad1 M1 _ vs us ds Q I1 m1 rv x1 r1
theorem s_callTy (dr : DRok DR) {id : String} {x : Str} {p : Pos} {g : List D → List D → R} (hc : CallS X DR (.type id) g) (hg : Gl X x) (hm : X.mg x = none) (hv : bootBuiltins x = some (.type id)) (ha : SLB X W (e :: es) l) (hn : x ≠ "__name__" := by decide) (hdb : (x == ("__debug__" : Str)) = false := by decide)
    (he : starEach (e :: es) X.env = (false, eval e X.env) :: starEach es X.env := by rfl) (hpl : (backTo pos (starEach es X.env)).any (·.1) = false := by rfl) : PE X (.Call (.Name x p) (e :: es) [] pos) (tG X.K W DR (eCall g l)) := by
  refine ⟨fun pins s σ H Q I ⟨N0, F, Ad, M, env, m, en, r⟩ => ?_⟩
  refine wpAny_Call_Name_kw (ld_blt I hg hm hv ?_ hn hdb)
  refine PyProof.Rows.callWith_type1 (thn (ha.run pos pins s σ H _ I (tL_seq (Q' := fun vs H1 => rC X (fun c d H => W c d σ H) DR g vs H1 Q) dr m en r fun ds M1 vs F1 Ad1 H1 g1 m1 en1 x1 r1 => ⟨F1, Ad1, M1, ds, m1, x1, r1⟩)) fun us s1 ⟨vs, H1, I1, rv, F1, Ad1, M1, ds, m1, x1, r1⟩ => ?_) he hpl
  exact hc pins s1 σ H1 F1 Ad1 M1 _ vs us ds Q I1 m1 rv x1 r1
theorem CallS.of {v : Value} {g : List D → List D → R} (h : ∀ (E : XK), CallR X v (rC X E DR g)) : CallS X DR v g := fun pins s σ H F Ad M E xs us ds Q I m rv x r => h E pins s σ H xs us Q I rv ⟨F, Ad, M, ds, m, x, r⟩
theorem DLB.one {vs d} (h : DLB K F Ad H vs [d]) : ∃ v, vs = [v] ∧ DB K H F Ad H v d := by
  cases h with | cons h r => cases r; exact ⟨_, rfl, h⟩
theorem DLB.two {vs d d'} (h : DLB K F Ad H vs [d, d']) : ∃ v v', vs = [v, v'] ∧ DB K H F Ad H v d ∧ DB K H F Ad H v' d' := by
  cases h with | cons h r => obtain ⟨v', rfl, h'⟩ := r.one; exact ⟨_, _, rfl, h, h'⟩
def bLen (ds : List D) (M : List D) : R := match ds with
  | [d] => (match view M d with
    | .lst xs => .ok (.int xs.length) M
    | .tup xs => .ok (.int xs.length) M
    | .ktp xs => .ok (.int xs.length) M
    | .scr xs => .ok (.int xs.length) M
    | .str s => if s.length ≤ sizeLine then .ok (.int s.length) M else .stuck
    | _ => .stuck)
  | _ => .stuck
theorem call_lenS : CallS X (DE X.K) (.builtin "len") bLen := by
  intro pins s σ H F Ad M E xs us ds Q I m rv x r
  unfold bLen at r
  split at r
  · rename_i d
    obtain ⟨v, rfl, hx⟩ := x.one
    have ax := DB.view m hx
    split at r
    · rename_i ys e; rw [e] at ax; obtain ⟨a, vs, rfl, h1, h2⟩ := ax.lst m
      exact call_len pins s σ H _ us Q I rv ⟨_, ys.length, rfl, .inl ⟨vs, SqL.of h1, h2.length.symm⟩, RP.here r m .int⟩
    · rename_i ys e; rw [e] at ax; obtain ⟨a, vs, rfl, h1, h2⟩ := ax.tup m
      exact call_len pins s σ H _ us Q I rv ⟨_, ys.length, rfl, .inr ⟨vs, h1, h2.length.symm⟩, RP.here r m .int⟩
    · rename_i ys e; rw [e] at ax; obtain ⟨a, vs, rfl, h1, h2⟩ := ax.ktp m
      exact call_len pins s σ H _ us Q I rv ⟨_, ys.length, rfl, .inr ⟨vs, h1, h2.length.symm⟩, RP.here r m .int⟩
    · rename_i ys e; rw [e] at ax; obtain ⟨a, rfl, h1⟩ := ax.scr m
      exact call_len pins s σ H _ us Q I rv ⟨_, ys.length, rfl, .inl ⟨_, h1, by simp⟩, RP.here r m .int⟩
    · rename_i z e; rw [e] at ax
      split at r
      · rename_i hz; obtain rfl := ax.str; exact call_len pins s σ H _ us Q I rv ⟨_, z.length, rfl, ⟨hz, rfl⟩, RP.here r m .int⟩
      · exact r.elim
    · exact r.elim
  · exact r.elim
def bInt (ds : List D) (M : List D) : R := match ds with
  | [d] => (match view M d with
    | .int i => .ok (.int i) M
    | _ => .stuck)
  | _ => .stuck
theorem call_intS : CallS X (DE X.K) (.type "int") bInt := by
  intro pins s σ H F Ad M E xs us ds Q I m rv x r
  unfold bInt at r
  split at r
  · rename_i d
    obtain ⟨v, rfl, hx⟩ := x.one
    have ax := DB.view m hx
    split at r
    · rename_i i e; rw [e] at ax
      exact call_int1 pins s σ H _ us Q I rv (.inl ⟨i, by rw [ax.int], RP.here r m .int⟩)
    · exact r.elim
  · exact r.elim
def bAbs (ds : List D) (M : List D) : R := match ds with
  | [d] => (match view M d with
    | .int i => .ok (.int (if i < 0 then -i else i)) M
    | _ => .stuck)
  | _ => .stuck
theorem call_absS : CallS X (DE X.K) (.builtin "abs") bAbs := by
  intro pins s σ H F Ad M E xs us ds Q I m rv x r
  unfold bAbs at r
  split at r
  · rename_i d
    obtain ⟨v, rfl, hx⟩ := x.one
    have ax := DB.view m hx
    split at r
    · rename_i i e; rw [e] at ax
      exact call_abs pins s σ H _ us Q I rv ⟨i, by rw [ax.int], RP.here r m .int⟩
    · exact r.elim
  · exact r.elim
def mx2 (i j : Int) : Int := if j > i then j else i
def mn2 (i j : Int) : Int := if j < i then j else i
def mxL : List Int → Int | [] => 0 | [i] => i | i :: r => max i (mxL r)
def mnL : List Int → Int | [] => 0 | [i] => i | i :: r => min i (mnL r)
theorem mxL_spec : ∀ {ns : List Int} {m : Int}, m ∈ ns → (∀ y, y ∈ ns → y ≤ m) → mxL ns = m
  | [i], m, h, _ => by simp at h; subst h; rfl
  | i :: j :: r, m, h, hm => by
    show max i (mxL (j :: r)) = m
    have hi := hm i (by simp)
    rcases List.mem_cons.mp h with rfl | h
    · have : mxL (j :: r) ≤ m := by
        clear h
        have key : ∀ l : List Int, l ≠ [] → (∀ y, y ∈ l → y ≤ m) → mxL l ≤ m := by
          intro l
          induction l with
          | nil => intro h; exact absurd rfl h
          | cons a t ih =>
            intro _ hl
            cases t with
            | nil => exact hl a (by simp)
            | cons b t => 
              have h1 := ih (by simp) fun y hy => hl y (List.mem_cons_of_mem _ hy)
              have h2 := hl a (by simp)
              show max a (mxL (b :: t)) ≤ m
              omega
        exact key _ (by simp) fun y hy => hm y (List.mem_cons_of_mem _ hy)
      omega
    · rw [mxL_spec h fun y hy => hm y (List.mem_cons_of_mem _ hy)]
      omega
theorem mnL_spec : ∀ {ns : List Int} {m : Int}, m ∈ ns → (∀ y, y ∈ ns → m ≤ y) → mnL ns = m
  | [i], m, h, _ => by simp at h; subst h; rfl
  | i :: j :: r, m, h, hm => by
    show min i (mnL (j :: r)) = m
    have hi := hm i (by simp)
    rcases List.mem_cons.mp h with rfl | h
    · have : m ≤ mnL (j :: r) := by
        clear h
        have key : ∀ l : List Int, l ≠ [] → (∀ y, y ∈ l → m ≤ y) → m ≤ mnL l := by
          intro l
          induction l with
          | nil => intro h; exact absurd rfl h
          | cons a t ih =>
            intro _ hl
            cases t with
            | nil => exact hl a (by simp)
            | cons b t => 
              have h1 := ih (by simp) fun y hy => hl y (List.mem_cons_of_mem _ hy)
              have h2 := hl a (by simp)
              show m ≤ min a (mnL (b :: t))
              omega
        exact key _ (by simp) fun y hy => hm y (List.mem_cons_of_mem _ hy)
      omega
    · rw [mnL_spec h fun y hy => hm y (List.mem_cons_of_mem _ hy)]
      omega
def bMax (ds : List D) (M : List D) : R := match ds with
  | [d, d'] => (match view M d, view M d' with
    | .int i, .int j => .ok (.int (mx2 i j)) M
    | _, _ => .stuck)
  | [d] => (match view M d with
    | .lst xs => (match intsOf xs with
      | some (i :: r) => .ok (.int (mxL (i :: r))) M
      | _ => .stuck)
    | _ => .stuck)
  | _ => .stuck
def bMin (ds : List D) (M : List D) : R := match ds with
  | [d, d'] => (match view M d, view M d' with
    | .int i, .int j => .ok (.int (mn2 i j)) M
    | _, _ => .stuck)
  | [d] => (match view M d with
    | .lst xs => (match intsOf xs with
      | some (i :: r) => .ok (.int (mnL (i :: r))) M
      | _ => .stuck)
    | _ => .stuck)
  | _ => .stuck
theorem call_maxS (hc : X.calm = true) : CallS X (DE X.K) (.builtin "max") bMax := by
  intro pins s σ H F Ad M E xs us ds Q I m rv x r
  unfold bMax at r
  split at r
  · rename_i d d'
    obtain ⟨v, v', rfl, hx, hy⟩ := x.two
    have ax := DB.view m hx
    have ay := DB.view m hy
    split at r
    · rename_i i j e e'; rw [e] at ax; rw [e'] at ay
      exact call_max2 hc pins s σ H _ us Q I rv ⟨i, j, by rw [ax.int, ay.int], RP.here r m .int⟩
    · exact r.elim
  · rename_i d
    obtain ⟨v, rfl, hx⟩ := x.one
    have ax := DB.view m hx
    split at r
    · rename_i ys e; rw [e] at ax; obtain ⟨a, vs, rfl, h1, h2⟩ := ax.lst m
      split at r
      · rename_i i t e2
        refine cr_max hc pins s σ H _ us Q I rv ⟨a, i :: t, rfl, by rw [← h2.ints e2]; exact SqL.of h1, by simp, fun mm h3 h4 => ?_⟩
        rw [← mxL_spec h3 h4]; exact RP.here r m .int
      · exact r.elim
    · exact r.elim
  · exact r.elim
theorem call_minS (hc : X.calm = true) : CallS X (DE X.K) (.builtin "min") bMin := by
  intro pins s σ H F Ad M E xs us ds Q I m rv x r
  unfold bMin at r
  split at r
  · rename_i d d'
    obtain ⟨v, v', rfl, hx, hy⟩ := x.two
    have ax := DB.view m hx
    have ay := DB.view m hy
    split at r
    · rename_i i j e e'; rw [e] at ax; rw [e'] at ay
      exact call_min2 hc pins s σ H _ us Q I rv ⟨i, j, by rw [ax.int, ay.int], RP.here r m .int⟩
    · exact r.elim
  · rename_i d
    obtain ⟨v, rfl, hx⟩ := x.one
    have ax := DB.view m hx
    split at r
    · rename_i ys e; rw [e] at ax; obtain ⟨a, vs, rfl, h1, h2⟩ := ax.lst m
      split at r
      · rename_i i t e2
        refine cr_min hc pins s σ H _ us Q I rv ⟨a, i :: t, rfl, by rw [← h2.ints e2]; exact SqL.of h1, by simp, fun mm h3 h4 => ?_⟩
        rw [← mnL_spec h3 h4]; exact RP.here r m .int
      · exact r.elim
    · exact r.elim
  · exact r.elim
def boolsOf : List D → Option (List Bool)
  | [] => some []
  | .bl i :: r => (boolsOf r).map (i :: ·)
  | _ :: _ => none
theorem DenL.bools : ∀ {vs ds ns}, DenL K F Ad vs ds → boolsOf ds = some ns → vs = ns.map V.bl
  | _, _, ns, .nil, e => by simp [boolsOf] at e; subst e; rfl
  | _, _, ns, .cons (d := d) h r, e => by
    cases d with
    | bl i =>
      simp only [boolsOf, Option.map_eq_some_iff] at e
      obtain ⟨ms, e1, rfl⟩ := e
      cases h
      simp [DenL.bools r e1]
    | _ => simp [boolsOf] at e
def bAll (ds : List D) (M : List D) : R := match ds with
  | [d] => (match view M d with
    | .lst xs => (match boolsOf xs with
      | some bs => .ok (.bl (bs.all id)) M
      | _ => .stuck)
    | _ => .stuck)
  | _ => .stuck
theorem call_allS (hc : X.calm = true) : CallS X (DE X.K) (.builtin "all") bAll := by
  intro pins s σ H F Ad M E xs us ds Q I m rv x r
  unfold bAll at r
  split at r
  · rename_i d
    obtain ⟨v, rfl, hx⟩ := x.one
    have ax := DB.view m hx
    split at r
    · rename_i ys e; rw [e] at ax; obtain ⟨a, vs, rfl, h1, h2⟩ := ax.lst m
      split at r
      · rename_i bs e2
        exact cr_all hc pins s σ H _ us Q I rv ⟨a, bs, rfl, by rw [← h2.bools e2]; exact SqL.of h1, RP.here r m .bl⟩
      · exact r.elim
    · exact r.elim
  · exact r.elim
def bTup (ds : List D) (M : List D) : R := match ds with
  | [d] => (match view M d with
    | .lst xs => .ok (.tup xs) M
    | .tup xs => .ok (.tup xs) M
    | _ => .stuck)
  | _ => .stuck
theorem call_tupS : CallS X (DE X.K) (.type "tuple") bTup := by
  intro pins s σ H F Ad M E xs us ds Q I m rv x r
  unfold bTup at r
  split at r
  · rename_i d
    obtain ⟨v, rfl, hx⟩ := x.one
    have ax := DB.view m hx
    split at r
    · rename_i ys e; rw [e] at ax; obtain ⟨a, vs, rfl, h1, h2⟩ := ax.lst m
      exact call_tuple_of pins s σ H _ us Q I rv ⟨a, vs, rfl, .inl ⟨SqL.of h1, fun p hp => RP.newTup r m h2 hp⟩⟩
    · rename_i ys e; rw [e] at ax
      have ad := ax.den (fun _ h => nomatch h)
      obtain ⟨a, vs, rfl, h1, h2⟩ := ax.tup m
      exact call_tuple_of pins s σ H _ us Q I rv ⟨a, vs, rfl, .inr ⟨h1, RP.here r m ad⟩⟩
    · exact r.elim
  · exact r.elim
end
end MP
set_option maxRecDepth 100000
set_option maxHeartbeats 1000000
namespace MP
open PySem PySem.Spec PyProof.Rows L2
variable [TabsP] [ThkP]
section
variable {κ : Type} [DecidableEq κ] {α : Type}
def valK (kvs : List (κ × α)) (k : κ) : Option α := (kvs.find? fun kv => decide (kv.1 = k)).map (·.2)
def insK (kvs : List (κ × α)) (k : κ) (v : α) : List (κ × α) :=
  if (kvs.any fun kv => decide (kv.1 = k)) = true then kvs.map (fun kv => if kv.1 = k then (kv.1, v) else kv) else kvs ++ [(k, v)]
end
def keyD : D → Option Key
  | .int i => some (.inl i)
  | .str s => some (.inr s)
  | _ => none
def keysE : List D → Option (List Key)
  | [] => some []
  | d :: r => match keyD d, keysE r with
    | some k, some ks => some (k :: ks)
    | _, _ => none
def keysD (ds : List D) : Option (List Key) := match ds with
  | [] => none
  | d :: r => keysE (d :: r)
section
variable {X : Cx} {W : WX} {K : PySem.W.Frag} {E : XK} {DR : DRel} {N0 : Ent} {H0 F H : Hp} {Ad : List Addr} {M : List D} {env : EnvM} {σ : St} {Q : VK} {x : V}
theorem keyD_v {d : D} {k : Key} (h : Den K F Ad x d) (e : keyD d = some k) : x = kV k := by
  cases h <;> simp [keyD] at e <;> subst e <;> rfl
theorem keysE_v : ∀ {vs : List V} {ds : List D} {ks : List Key}, DenL K F Ad vs ds → keysE ds = some ks → vs = ks.map kV
  | _, _, ks, .nil, e => by simp [keysE] at e; subst e; rfl
  | _, _, ks, .cons h r, e => by
    simp only [keysE] at e
    split at e
    · rename_i k ks' e1 e2
      cases e
      rw [keyD_v h e1, keysE_v r e2]; rfl
    · cases e
theorem keysD_e {ds : List D} {ks : List Key} (e : keysD ds = some ks) : keysE ds = some ks ∧ ds ≠ [] := by
  cases ds with
  | nil => cases e
  | cons d r => exact ⟨e, fun z => nomatch z⟩
theorem keysD_v {vs : List V} {ds : List D} {ks : List Key} (h : DenL K F Ad vs ds) (e : keysD ds = some ks) : vs = ks.map kV := keysE_v h (keysD_e e).1
theorem TupK.key {a : Addr} {vs : List V} {ds : List D} {ks : List Key} (h : TupK K F a vs) (r : DenL K F Ad vs ds) (e : keysD ds = some ks) : F a = some (.tup vs) := by
  rcases h with h | ⟨rfl, _⟩
  · exact h
  · cases r; exact absurd rfl (keysD_e e).2
theorem DenK.val (k : Key) : ∀ {vs ds}, DenK K F Ad vs ds → (∀ d, valK ds k = some d → ∃ v, valV vs k = some v ∧ Den K F Ad v d) ∧ (valK ds k = none → valV vs k = none)
  | _, _, .nil => ⟨fun _ h => by simp [valK] at h, fun _ => rfl⟩
  | _, _, .cons (k := j) h r => by
    have ih := DenK.val k r
    by_cases e : j = k
    · rw [valV_pos e]
      refine ⟨fun d hd => ?_, fun hd => ?_⟩
      · simp [valK, List.find?_cons, e] at hd; subst hd; exact ⟨_, rfl, h⟩
      · simp [valK, List.find?_cons, e] at hd
    · rw [valV_neg e]
      refine ⟨fun d hd => ih.1 d ?_, fun hd => ih.2 ?_⟩
      · simpa [valK, List.find?_cons, e] using hd
      · simpa [valK, List.find?_cons, e] using hd
theorem DenT.val (k : List Key) : ∀ {vs ds}, DenT K F Ad vs ds → (∀ d, valK ds k = some d → ∃ v, valV vs k = some v ∧ Den K F Ad v d) ∧ (valK ds k = none → valV vs k = none)
  | _, _, .nil => ⟨fun _ h => by simp [valK] at h, fun _ => rfl⟩
  | _, _, .cons (k := j) h r => by
    have ih := DenT.val k r
    by_cases e : j = k
    · rw [valV_pos e]
      refine ⟨fun d hd => ?_, fun hd => ?_⟩
      · simp [valK, List.find?_cons, e] at hd; subst hd; exact ⟨_, rfl, h⟩
      · simp [valK, List.find?_cons, e] at hd
    · rw [valV_neg e]
      refine ⟨fun d hd => ih.1 d ?_, fun hd => ih.2 ?_⟩
      · simpa [valK, List.find?_cons, e] using hd
      · simpa [valK, List.find?_cons, e] using hd
theorem DenK.any (k : Key) : ∀ {vs ds}, DenK K F Ad vs ds → (vs.any fun kv => decide (kv.1 = k)) = (ds.any fun kv => decide (kv.1 = k))
  | _, _, .nil => rfl
  | _, _, .cons _ r => by simp only [List.any_cons]; rw [DenK.any k r]
theorem DenT.any (k : List Key) : ∀ {vs ds}, DenT K F Ad vs ds → (vs.any fun kv => decide (kv.1 = k)) = (ds.any fun kv => decide (kv.1 = k))
  | _, _, .nil => rfl
  | _, _, .cons _ r => by simp only [List.any_cons]; rw [DenT.any k r]
theorem DenK.app {k v d} : ∀ {vs ds}, DenK K F Ad vs ds → Den K F Ad v d → DenK K F Ad (vs ++ [(k, v)]) (ds ++ [(k, d)])
  | _, _, .nil, h => .cons h .nil
  | _, _, .cons q r, h => .cons q (r.app h)
theorem DenT.app {k v d} : ∀ {vs ds}, DenT K F Ad vs ds → Den K F Ad v d → DenT K F Ad (vs ++ [(k, v)]) (ds ++ [(k, d)])
  | _, _, .nil, h => .cons h .nil
  | _, _, .cons q r, h => .cons q (r.app h)
theorem DenK.repl {k v d} : ∀ {vs ds}, DenK K F Ad vs ds → Den K F Ad v d → DenK K F Ad (vs.map fun kv => if kv.1 = k then (kv.1, v) else kv) (ds.map fun kv => if kv.1 = k then (kv.1, d) else kv)
  | _, _, .nil, h => .nil
  | _, _, .cons (k := j) q r, h => by
    simp only [List.map_cons]
    by_cases e : j = k
    · simp only [e, if_true]; exact .cons h (r.repl h)
    · simp only [e, if_false]; exact .cons q (r.repl h)
theorem DenT.repl {k v d} : ∀ {vs ds}, DenT K F Ad vs ds → Den K F Ad v d → DenT K F Ad (vs.map fun kv => if kv.1 = k then (kv.1, v) else kv) (ds.map fun kv => if kv.1 = k then (kv.1, d) else kv)
  | _, _, .nil, h => .nil
  | _, _, .cons (k := j) q r, h => by
    simp only [List.map_cons]
    by_cases e : j = k
    · simp only [e, if_true]; exact .cons h (r.repl h)
    · simp only [e, if_false]; exact .cons q (r.repl h)
theorem DenK.put {k v d vs ds} (h : DenK K F Ad vs ds) (q : Den K F Ad v d) : DenK K F Ad (putK vs k v) (insK ds k d) := by
  unfold putK insK
  rw [h.any k]
  split
  · exact h.repl q
  · exact h.app q
theorem DenT.put {k v d vs ds} (h : DenT K F Ad vs ds) (q : Den K F Ad v d) : DenT K F Ad (putK vs k v) (insK ds k d) := by
  unfold putK insK
  rw [h.any k]
  split
  · exact h.repl q
  · exact h.app q
theorem DV.dK (m : MemOk K F Ad M H) {ds} (h : DV K F Ad H x (.dK ds)) : ∃ a vs, x = .ref a ∧ Rd H a (.dK vs) ∧ DenK K F Ad vs ds := by
  rcases h with h | ⟨a, e, r⟩
  · cases h with
    | dK h r =>
      rcases nrm_dK h with h | ⟨b, h⟩
      · exact ⟨_, _, rfl, .inl (m.sub _ _ h), r⟩
      · exact ⟨_, _, rfl, .inr ⟨b, m.sub _ _ h⟩, r⟩
  · cases r with | dK h r => exact ⟨_, _, e, .inl h, r⟩
theorem DV.dT (m : MemOk K F Ad M H) {ds} (h : DV K F Ad H x (.dT ds)) : ∃ a vs, x = .ref a ∧ Rd H a (.dT vs) ∧ DenT K F Ad vs ds := by
  rcases h with h | ⟨a, e, r⟩
  · cases h with
    | dT h r =>
      rcases nrm_dT h with h | ⟨b, h⟩
      · exact ⟨_, _, rfl, .inl (m.sub _ _ h), r⟩
      · exact ⟨_, _, rfl, .inr ⟨b, m.sub _ _ h⟩, r⟩
  · cases r with | dT h r => exact ⟨_, _, e, .inl h, r⟩
theorem DB.int {i} (h : DB K H0 F Ad H x (.int i)) : x = .int i := by
  rcases h with h | ⟨a, e, n, na, q⟩
  · cases h; rfl
  · cases q
theorem DB.den {d} (h : DB K H0 F Ad H x d) (n : ∀ a, ¬ Root K F Ad H a d) : Den K F Ad x d := by
  rcases h with h | ⟨a, e, _, _, r⟩
  · exact h
  · exact absurd r (n a)
theorem ix_dict (hu : X.A.units + 1 < cLine) : IxR X (fun x y H Q => ∃ a v, x = .ref a ∧ DGet H a y (some v) ∧ Q v H) := by
  intro value slice pins s σ H x y v u Q I rx ry h hs
  obtain ⟨a, z, rfl, g, q⟩ := h
  obtain rfl : v = Value.ref a := rx
  have key : wpAny (model X.prog X.w) X.A (getItem (.ref a) u) (EP X pins σ Q) X.xe s := d_getItem hu I g ry fun w' s3 I3 rw' => ⟨z, H, I3, rw', q⟩
  have T := dict_typeIs I g
  have fin : wpAny (model X.prog X.w) X.A (subscripted slice false (.ref a) u) (fun r s₃ => wpAny (model X.prog X.w) X.A (letTemporaryGo value (.ref a) r >>= fun _ => pure r) (EP X pins σ Q) X.xe s₃) X.xe s := by
    rw [hs]
    refine wpAny_operating ?_
    refine wpAny_mono key (fun r s3 q3 => ?_) fun _ _ z => z
    exact wpAny_bind (wpAny_letTemporaryGo (wpAny_pure q3))
  unfold subscriptTail
  apply wpAny_bind
  rw [getitemInPython_of_ne T.not_modules]
  apply wpAny_bind
  apply wpAny_specialOf T PySem.F.slot_dict_getitem.lookup
  first
    | exact wpAny_pure (wpAny_bind fin)
    | exact wpAny_bind fin
    | exact wpAny_pure fin
def oIx (x y : D) (M : List D) : R := match view M x with
  | .lst xs => (match y with | .int i => (match atI xs i with | some d => .ok d M | none => .stuck) | _ => .stuck)
  | .tup xs => (match y with | .int i => (match atI xs i with | some d => .ok d M | none => .stuck) | _ => .stuck)
  | .ktp xs => (match y with | .int i => (match atI xs i with | some d => .ok d M | none => .stuck) | _ => .stuck)
  | .scr ns => (match y with | .int i => (match atI ns i with | some d => .ok (.int d) M | none => .stuck) | _ => .stuck)
  | .str z => (match y with | .int i => (if z.length ≤ sizeLine then (match atI z.cps.toList i with | some c => .ok (.str ⟨#[c]⟩) M | none => .stuck) else .stuck) | _ => .stuck)
  | .dK kvs => (match keyD y with | some k => (match valK kvs k with | some d => .ok d M | none => .stuck) | none => .stuck)
  | .dT kvs => (match y with | .tup ks => (match keysD ks with | some k => (match valK kvs k with | some d => .ok d M | none => .stuck) | none => .stuck) | _ => .stuck)
  | _ => .stuck
theorem atI_den {vs ds} {i : Int} {d : D} (h : DenL K F Ad vs ds) (e : atI ds i = some d) : ∃ v, atI vs i = some v ∧ Den K F Ad v d := by
  unfold atI at e ⊢
  rw [h.length]
  cases q : ixN ds.length i with
  | none => rw [q] at e; cases e
  | some j =>
    rw [q] at e
    obtain ⟨v, h1, h2⟩ := h.get (i := j) (d := d) e
    exact ⟨v, h1, h2⟩
theorem atI_map {α β : Type} {f : α → β} {ns : List α} {i : Int} {d : α} (e : atI ns i = some d) : atI (ns.map f) i = some (f d) := by
  unfold atI at e ⊢
  rw [List.length_map]
  cases q : ixN ns.length i with
  | none => rw [q] at e; cases e
  | some j =>
    rw [q] at e
    have e : ns[j]? = some d := e
    show (ns.map f)[j]? = some (f d)
    rw [List.getElem?_map, e]; rfl
def rIxAll (X : Cx) : R2 := fun x y H Q => rIxL X.K x y H Q ∨ rIxT X.K x y H Q ∨ rIxS x y H Q ∨ ∃ a v, x = .ref a ∧ DGet H a y (some v) ∧ Q v H
theorem ix_all (hu : X.A.units + 1 < cLine) : IxR X (rIxAll X) := ix_list.or (ix_tup.or (ix_str.or (ix_dict hu)))
theorem oIx_ok {y : V} {dx dy : D} (m : MemOk X.K F Ad M H) (hx : DB X.K H F Ad H x dx) (hy : DB X.K H F Ad H y dy) (r : RP X.K E (DE X.K) F Ad H Q (oIx dx dy M)) : rIxAll X x y H Q := by
  have ax := DB.view m hx
  unfold oIx at r
  revert r ax
  generalize view M dx = ex
  intro r ax
  cases ex with
  | lst xs =>
    dsimp only at r
    split at r
    · rename_i i
      split at r
      · rename_i oo d e
        obtain ⟨a, vs, rfl, h1, d1⟩ := ax.lst m
        obtain ⟨v, e1, e2⟩ := atI_den d1 e
        exact .inl ⟨a, vs, i, v, rfl, hy.int, SqL.of h1, e1, RP.here r m e2⟩
      · exact r.elim
    · exact r.elim
  | tup xs =>
    dsimp only at r
    split at r
    · rename_i i
      split at r
      · rename_i oo d e
        obtain ⟨a, vs, rfl, h1, d1⟩ := ax.tup m
        obtain ⟨v, e1, e2⟩ := atI_den d1 e
        exact .inr (.inl ⟨a, vs, i, v, rfl, hy.int, h1, e1, RP.here r m e2⟩)
      · exact r.elim
    · exact r.elim
  | ktp xs =>
    dsimp only at r
    split at r
    · rename_i i
      split at r
      · rename_i oo d e
        obtain ⟨a, vs, rfl, h1, d1⟩ := ax.ktp m
        obtain ⟨v, e1, e2⟩ := atI_den d1 e
        exact .inr (.inl ⟨a, vs, i, v, rfl, hy.int, h1, e1, RP.here r m e2⟩)
      · exact r.elim
    · exact r.elim
  | scr xs =>
    dsimp only at r
    split at r
    · rename_i i
      split at r
      · rename_i oo d e
        obtain ⟨a, rfl, h1⟩ := ax.scr m
        exact .inl ⟨a, _, i, .int d, rfl, hy.int, h1, atI_map e, RP.here r m .int⟩
      · exact r.elim
    · exact r.elim
  | str z =>
    dsimp only at r
    split at r
    · rename_i i
      split at r
      · rename_i hz
        split at r
        · rename_i oo c e
          exact .inr (.inr (.inl ⟨z, i, c, ax.str, hy.int, hz, e, RP.here r m .str⟩))
        · exact r.elim
      · exact r.elim
    · exact r.elim
  | dK kvs =>
    dsimp only at r
    split at r
    · rename_i oo k ek
      split at r
      · rename_i oo2 d e
        obtain ⟨a, vs, rfl, h1, d1⟩ := ax.dK m
        obtain ⟨v, e1, e2⟩ := (d1.val k).1 d e
        have hy' : y = kV k := keyD_v (hy.den (fun a q => by cases q <;> simp [keyD] at ek)) ek
        exact .inr (.inr (.inr ⟨a, v, rfl, .inl ⟨vs, k, h1, hy', e1.symm⟩, RP.here r m e2⟩))
      · exact r.elim
    · exact r.elim
  | dT kvs =>
    dsimp only at r
    split at r
    · rename_i ks
      split at r
      · rename_i oo k ek
        split at r
        · rename_i oo2 d e
          obtain ⟨a, vs, rfl, h1, d1⟩ := ax.dT m
          obtain ⟨v, e1, e2⟩ := (d1.val k).1 d e
          have hd := hy.den (fun a q => nomatch q)
          cases hd with
          | tup h2 d2 =>
            have h2 := h2.key d2 ek
            rw [keysD_v d2 ek] at h2
            exact .inr (.inr (.inr ⟨a, v, rfl, .inr ⟨vs, k, _, h1, rfl, m.sub _ _ h2, e1.symm⟩, RP.here r m e2⟩))
        · exact r.elim
      · exact r.elim
    · exact r.elim
  | _ => exact r.elim
variable {a b e : Expr} {fa fb f : EF} {pos p2 : Pos}
theorem s_ix (hu : X.A.units + 1 < cLine) (ha : SB X W a fa) (hb : SB X W b fb) (hs : PlainIx b := by intro _ _; rfl) : SE X W (.Subscript a b pos) (e2 oIx fa fb) :=
  PE.imp (pe_ix (ix_all hu) ha hb hs) fun σ H Q ⟨N0, F, Ad, M, env, m, en, r⟩ =>
    tG_seq DE.ok m en r fun d M1 v F1 Ad1 H1 g1 m1 en1 x1 r1 => tG_seq DE.ok m1 en1 r1 fun d2 M2 v2 F2 Ad2 H2 g2 m2 en2 x2 r2 => oIx_ok m2 (DB.gr g2 x1) x2 r2
def optI : D → Option (Option Int)
  | .non => some none
  | .int i => some (some i)
  | _ => none
def tO (K : PySem.W.Frag) (W : WX) (f : EF) : TO := fun σ H Q => ∃ N0 F Ad M env, MemOk K F Ad M H ∧ EnvOk K N0 F Ad H σ env ∧ (match f env M with
  | .ok d M1 => ∃ o, optI d = some o ∧ ∀ F' Ad' H', Gr F Ad H F' Ad' H' → MemOk K F' Ad' M1 H' → Q o H'
  | .exc x M1 => ∀ cls dx F' Ad' H', Gr F Ad H F' Ad' H' → MemOk K F' Ad' M1 H' → XOk K F' Ad' H' x cls dx → W cls dx σ H'
  | .stuck => False)
abbrev SP (X : Cx) (W : WX) (e : Option Expr) (f : EF) : Prop := PO X e (tO X.K W f)
theorem PO.imp {X : Cx} {e : Option Expr} {t u : TO} (h : PO X e t) (i : ∀ σ H Q, u σ H Q → t σ H Q) : PO X e u := ⟨fun pins s σ H Q I q => h.run pins s σ H Q I (i σ H Q q)⟩
theorem sp_none : SP X W none (eC .non) := PO.imp po_none fun σ H Q ⟨N0, F, Ad, M, env, m, en, o, e, r⟩ => by
  cases e; exact r F Ad H Gr.refl m
def eInt (f : EF) : EF := fun env M => (f env M).bind fun d M1 => match d with | .int i => .ok (.int i) M1 | _ => .stuck
theorem sp_some (h : SE X W a fa) : SP X W (some a) (eInt fa) := PO.imp (po_some h) fun σ H Q ⟨N0, F, Ad, M, env, m, en, r⟩ => ⟨N0, F, Ad, M, env, m, en, by
  unfold eInt at r
  cases q : fa env M with
  | ok d M1 =>
    rw [q] at r
    intro v F' Ad' H' g m' x
    cases d with
    | int i =>
      cases x
      obtain ⟨o, e, r⟩ := r
      cases e
      exact ⟨_, rfl, r F' Ad' H' g m'⟩
    | _ => exact r.elim
  | exc x M1 => rw [q] at r; exact r
  | stuck => rw [q] at r; exact r⟩
def cutD (xs : List D) (lo hi : Option Int) : List D := (xs.drop (HT.sIx xs.length 0 lo)).take (HT.sIx xs.length xs.length hi - HT.sIx xs.length 0 lo)
def oSlE (x : D) (lo hi : Option Int) (M : List D) : R := match view M x with
    | .lst xs => .ok (.lst (cutD xs lo hi)) M
    | .scr ns => .ok (.lst (cutD (ns.map D.int) lo hi)) M
    | .tup xs => .ok (.tup (cutD xs lo hi)) M
    | .str z => if z.length ≤ sizeLine then .ok (.str (cutS z lo hi)) M else .stuck
    | _ => .stuck
def eSl (g : D → Option Int → Option Int → List D → R) (a l u : EF) : EF := fun env M => (a env M).bind fun x M1 => (l env M1).bind fun y M2 => match optI y with
  | none => .stuck
  | some lo => (u env M2).bind fun z M3 => match optI z with
    | none => .stuck
    | some hi => g x lo hi M3
theorem tO_seq {f : EF} {k : D → List D → R} {Q : VK} {Q' : Option Int → Hp → Prop} (dr : DRok DR) (m : MemOk K F Ad M H) (e : EnvOk K N0 F Ad H σ env)
    (h : RP K (fun c d H => W c d σ H) DR F Ad H Q ((f env M).bind k)) (hn : ∀ d M1, optI d = none → k d M1 = .stuck)
    (hq : ∀ d o M1 F1 Ad1 H1, optI d = some o → Gr F Ad H F1 Ad1 H1 → MemOk K F1 Ad1 M1 H1 → EnvOk K N0 F1 Ad1 H1 σ env → RP K (fun c d H => W c d σ H) DR F1 Ad1 H1 Q (k d M1) → Q' o H1) : tO K W f σ H Q' := by
  refine ⟨N0, F, Ad, M, env, m, e, ?_⟩
  cases q : f env M with
  | ok d M1 =>
    rw [q] at h
    cases ho : optI d with
    | none => rw [R.bind_ok, hn d M1 ho] at h; exact h.elim
    | some o => exact ⟨o, ho, fun F' Ad' H' g m' => hq d o M1 F' Ad' H' ho g m' (e.gr g) (RP.gr dr h g)⟩
  | exc x M1 => rw [q] at h; exact h
  | stuck => rw [q] at h; exact h
def rSlAll (X : Cx) : V → Option Int → Option Int → Hp → VK → Prop := fun x lo hi H Q => rSlL X.K x lo hi H Q ∨ rSlA X.K x lo hi H Q ∨ rSlS x lo hi H Q
theorem sl_all : SlR X (rSlAll X) := sl_list.or (sl_tupA.or sl_str)
theorem DenL.cut {vs ds lo hi} (h : DenL K F Ad vs ds) : DenL K F Ad (cutV vs lo hi) (cutD ds lo hi) := by
  unfold cutV cutD
  rw [h.length]
  exact (h.drop _).take _
theorem DenL.map_int : ∀ {ns : List Int}, DenL K F Ad (ns.map V.int) (ns.map D.int)
  | [] => .nil
  | _ :: _ => .cons .int DenL.map_int
theorem oSlE_ok {lo hi : Option Int} {dx : D} (m : MemOk X.K F Ad M H) (hx : DB X.K H F Ad H x dx) (r : RP X.K E (DE X.K) F Ad H Q (oSlE dx lo hi M)) : rSlAll X x lo hi H Q := by
  have ax := DB.view m hx
  unfold oSlE at r
  revert r ax
  generalize view M dx = ex
  intro r ax
  cases ex with
  | lst xs =>
    obtain ⟨a, vs, rfl, h1, d1⟩ := ax.lst m
    exact .inl ⟨a, vs, rfl, SqL.of h1, fun p hp => RP.newLst r m d1.cut hp⟩
  | scr ns =>
    obtain ⟨a, rfl, h1⟩ := ax.scr m
    exact .inl ⟨a, _, rfl, h1, fun p hp => RP.newLst r m DenL.map_int.cut hp⟩
  | tup xs =>
    dsimp only at r
    have dn := ax.den (fun _ h => nomatch h)
    obtain ⟨a, vs, rfl, h1, d1⟩ := ax.tup m
    refine .inr (.inl ⟨a, vs, rfl, h1, fun ⟨e1, e2⟩ => ?_, fun _ p hp => RP.newTup r m d1.cut hp⟩)
    have hc : cutD xs lo hi = xs := by
      unfold cutD
      rw [← d1.length, e1, e2, d1.length]; simp
    rw [hc] at r
    exact RP.here r m dn
  | str z =>
    dsimp only at r
    split at r
    · rename_i hz; exact .inr (.inr ⟨z, ax.str, hz, RP.here r m .str⟩)
    · exact False.elim r
  | _ => exact False.elim r
theorem s_sl (dr : DRok DR) {g : D → Option Int → Option Int → List D → R} (ho : ∀ {E : XK} {F H : Hp} {Ad : List Addr} {M : List D} {Q : VK} {x : V} {lo hi : Option Int} {dx : D}, MemOk X.K F Ad M H → DB X.K H F Ad H x dx → RP X.K E DR F Ad H Q (g dx lo hi M) → rSlAll X x lo hi H Q)
    {lo hi : Option Expr} {fl fu : EF} (ha : SB X W a fa) (hl : SP X W lo fl) (hu : SP X W hi fu) : PE X (.Subscript a (.Slice lo hi none p2) pos) (tG X.K W DR (eSl g fa fl fu)) :=
  PE.imp (pe_slice sl_all ha hl hu) fun σ H Q ⟨N0, F, Ad, M, env, m, en, r⟩ =>
    tG_seq dr m en r fun d M1 v F1 Ad1 H1 g1 m1 en1 x1 r1 =>
      tO_seq dr m1 en1 r1 (fun d2 M2 hd => by rw [hd]) fun d2 o2 M2 F2 Ad2 H2 e2 g2 m2 en2 r2 => by
        rw [e2] at r2
        exact tO_seq dr m2 en2 r2 (fun d3 M3 hd => by rw [hd]) fun d3 o3 M3 F3 Ad3 H3 e3 g3 m3 en3 r3 => by
          rw [e3] at r3
          exact ho m3 (DB.gr g3 (DB.gr g2 x1 (H0' := H2))) r3
theorem se_sl {lo hi : Option Expr} {fl fu : EF} (ha : SB X W a fa) (hl : SP X W lo fl) (hu : SP X W hi fu) : SE X W (.Subscript a (.Slice lo hi none p2) pos) (eSl oSlE fa fl fu) := s_sl DE.ok oSlE_ok ha hl hu
end
end MP
set_option maxRecDepth 100000
set_option maxHeartbeats 1000000
namespace MP
open PySem PySem.Spec PyProof.Rows L2
variable [TabsP] [ThkP]
structure Room (k : Nat) (A : Around) : Prop where
  rm : L2.Room k A
  gd : A.guards = some []
theorem Room.mono {j k : Nat} {A : Around} (r : Room k A) (h : j ≤ k) : Room j A := ⟨r.rm.mono h, r.gd⟩
theorem Room.deeper {k : Nat} {A : Around} (r : Room (k + 1) A) (env : Env) : Room k (A.deeper env) := ⟨r.rm.deeper env, r.gd⟩
theorem Room.in1 {k : Nat} {A : Around} (r : Room (k + 1) A) : Room k A.in1 := ⟨r.rm.in1, r.gd⟩
theorem make_gd {A : Around} {C : Addr} {us : List Value} {kw : List (Str × Value)} : (A.under (.builtin "type.__call__" ⟨.ref C :: us, kw⟩)).guards = A.guards := by
  obtain ⟨a, b, c, d, e⟩ := A
  cases d <;> simp [Around.under, Code.guards, Code.isGuard, pushGuards, guardIds]
theorem Room.make {k : Nat} {A : Around} (r : Room (k + 1) A) (C : Addr) (us : List Value) (kw : List (Str × Value)) : Room k (A.under (.builtin "type.__call__" ⟨.ref C :: us, kw⟩)) :=
  ⟨r.rm.make C us kw, make_gd.trans r.gd⟩
theorem Room.hd {k : Nat} {A : Around} (r : Room k A) : A.handled = none := r.rm.hd
theorem Room.depth {k : Nat} {A : Around} (r : Room k A) : A.depth < recursionLimit := r.rm.depth
theorem Room.units {k : Nat} {A : Around} (r : Room k A) : A.units + 64 < cLine := r.rm.units
theorem Room.units0 {k : Nat} {A : Around} (r : Room k A) : A.units < cLine := r.rm.units0
structure FnOk (P : Program) (w : World) (K : PySem.W.Frag) (mg : Str → Option Value) (base : Heap) (CX : CXT) (k : Nat) (f : Addr) (fd : FuncData) (ps : List Str) (sp : Sp) : Prop where
  len : ∀ vs H Q E, sp vs H Q E → vs.length = ps.length
  run : ∀ (A : Around) (outer : List Env) (s : Shared) (H : Hp) (args : Args) (us : List Value) (vs : List V) (Q : VK) (E : XK), Room k A → Env0 P w K mg base A outer s H → BindsTo s fd args (ps.zip us) → Vals vs us → sp vs H Q E →
    codeAny (model P w) A (.call (.ref f) args) (CR CX outer P w H s Q E) s
section
variable {X : Cx} {CX : CXT} {k : Nat} {f : Addr} {fd : FuncData} {ps : List Str} {sp : Sp} {dvs : List V} {ds : List Value} {E : St → XK} {x : Str} {p pos : Pos} {e : Expr} {es : List Expr} {t : TA}
theorem cr_here {CX : CXT} {Ex : XK} {pins : List (Addr × Obj)} {σ : St} {H : Hp} {s : Shared} {Q : VK} (hx : PassesAt CX X σ Ex) (I : Inv X pins σ H s) {r : Result} {s' : Shared} (h : CR CX X.stack X.prog X.w H s Q Ex r s') :
    match r with
    | .ok (.ret u) => EP X pins σ Q u s'
    | .ok _ => False
    | .error er => X.xe er s' := by
  cases r with
  | error er => exact hx pins H s er s' I h
  | ok fl => cases fl with
    | ret u => exact I.after h
    | _ => exact h
theorem run_any {pins : List (Addr × Obj)} {σ : St} {H : Hp} {s : Shared} {Q : VK} {kw : List (Str × Value)} {us al : List Value} {vs : List V} {Ex : XK} (F : FnOk X.prog X.w X.K X.mg X.base CX k f fd ps sp) (hr : Room k X.A)
    (hx : PassesAt CX X σ Ex) (I : Inv X pins σ H s) (hb : al.length = ps.length → BindsTo s fd ⟨us, kw⟩ (ps.zip al)) (r : Vals vs al) (h : sp vs H Q Ex) : wpAny (model X.prog X.w) X.A (call (.ref f) us kw) (EP X pins σ Q) X.xe s := by
  refine wpAny_call (codeAny_mono (F.run X.A X.stack s H ⟨us, kw⟩ al vs Q Ex hr I.env0 (hb (by rw [← r.length]; exact F.len _ _ _ _ h)) r h) fun r s' hq => ?_)
  have z := cr_here hx I hq
  cases r with
  | error er => exact z
  | ok fl => cases fl with
    | ret u => exact z
    | _ => exact z.elim
theorem run_fnSD {pins : List (Addr × Obj)} {σ : St} {H : Hp} {s : Shared} {Q : VK} {us : List Value} {vs : List V} (F : FnOk X.prog X.w X.K X.mg X.base CX k f fd ps sp) (hr : Room k X.A) (hb : Binds X.K fd ps ds) (hd : Vals dvs ds) (hx : PassesAt CX X σ (E σ))
    (I : Inv X pins σ H s) (r : Vals vs us) (h : sp (vs ++ dvs) H Q (E σ)) : wpAny (model X.prog X.w) X.A (call (.ref f) us) (EP X pins σ Q) X.xe s :=
  run_any F hr hx I (fun hl => hb s us I.kIn hl) (r.append hd) h
theorem pe_callSD (F : FnOk X.prog X.w X.K X.mg X.base CX k f fd ps sp) (hr : Room k X.A) (hg : Gl X x) (hm : X.mg x = some (.ref f)) (hk : PySem.W.keepIn X.K (.ref f) = true) (hb : Binds X.K fd ps ds) (hd : Vals dvs ds) (hx : ∀ σ, PassesAt CX X σ (E σ))
    (ha : PA X (e :: es) t) (hdb : (x == ("__debug__" : Str)) = false := by decide) (he : starEach (e :: es) X.env = (false, eval e X.env) :: starEach es X.env := by rfl) (hpl : (backTo pos (starEach es X.env)).any (·.1) = false := by rfl) :
    PE X (.Call (.Name x p) (e :: es) [] pos) (tCallSD sp dvs E t) :=
  ⟨fun pins s σ H Q I h => wpAny_Call_Name_kw (ld_glob I hg hm (PySem.W.callWith_K (h₀ := X.base) I.ok.mod.kin hk (thn (ha.run pos pins s σ H _ I h) fun us s1 ⟨vs, H1, I1, r, q⟩ => ⟨I1.kIn, run_fnSD F hr hb hd (hx σ) I1 r q⟩) he hpl) hdb)⟩
end
section
variable {X : Cx} {CX : CXT} {k : Nat} {a C p g dx : Addr} {f : Str} {fd : FuncData} {ps : List Str} {sp : Sp} {dvs : List V} {ds : List Value} {E : XK} {fs : List (Str × V)}
theorem getprop_ok {pins : List (Addr × Obj)} {σ : St} {H : Hp} {s : Shared} {Q : VK} {b : Bool} {E' : Value → Shared → Prop} (I : Inv X pins σ H s) (ea : H a = some (.ins C dx fs)) (c : Cls X.K C) (hp : PropOf X.K C f p g)
    (F : FnOk X.prog X.w X.K X.mg X.base CX k g fd ps sp) (hr : Room (k + 1) X.A) (hb : Binds X.K fd ps ds) (hd : Vals dvs ds) (hx : Passes CX X.nox E) (h : sp (.ref a :: dvs) H Q E) :
    wpAny (model X.prog X.w) X.A (getAttr (.ref a) f b) (EP X pins σ Q) E' s := by
  obtain ⟨_, O, _⟩ := ins_get I.hok ea
  obtain ⟨_, J, _⟩ := O.look
  obtain ⟨_, hrec⟩ := hp.rec_
  have J1 := I.tok (s.toks + 1)
  have hc : (PySem.W.clsIn X.K C).isSome = true := by obtain ⟨_, hc, _⟩ := PySem.W.any_some c.hd; rw [hc]; rfl
  have hl : ([Value.ref a] ++ ds).length = ps.length := by
    have := F.len _ _ _ _ h
    simp only [List.length_append, List.length_cons, List.length_nil] at this ⊢
    rw [← hd.length]; omega
  refine PySem.W.get_bind I.kIn J (PySem.W.plainGet_of (c.get f)).1 (PySem.W.findObj_data hc hp.at_ hp.get hp.tak) (PySem.W.plainGet_of (c.get f)).2 (wpAny_call (PySem.W.prop_get (s := { s with toks := s.toks + 1 }) I.kIn hrec
    (codeAny_mono (F.run X.A.in1 X.stack { s with toks := s.toks + 1 } H ⟨[.ref a], []⟩ (.ref a :: ds) (.ref a :: dvs) Q E hr.in1 J1.env0.in1 (hb _ [.ref a] J1.kIn hl) (.cons rfl hd) h) fun r s' hq => ?_)))
  cases r with
  | error er => exact (hx pins σ H { s with toks := s.toks + 1 } er s' (J1.wish _) hq).elim
  | ok fl => cases fl with
    | ret u =>
      obtain ⟨v, H', J3, rv, q3⟩ := J1.after hq
      show wpAny _ _ (handedOut u) _ _ _
      rw [PySem.W.handedOut_of (handed_of rv)]
      exact wpAny_pure ⟨v, H', J3, rv, q3⟩
    | _ => exact (show False from hq).elim
end
theorem fn_of {CX : CXT} {P : Program} {w : World} {K : PySem.W.Frag} {mg : Str → Option Value} {base : Heap} {k : Nat} {f : Addr} {name qual : Str} {params : Arguments} {body : List Stmt} {scope : Scope} {dvs : List V} {kws : List (Str × V)} {fd : FuncData} {N ps : List Str} {sp : Sp}
    (Fd : FunD K name qual params body scope dvs kws f fd) (S : FnScope N ps scope) (len : ∀ vs H Q E, sp vs H Q E → vs.length = ps.length)
    (hbody : ∀ (cdv : Value) (A : Around) (outer : List Env) (s : Shared) (H : Hp) (vs : List V) (Q : VK) (E : XK), Room k (A.deeper (envOfC qual scope s.heap.objs.size f cdv)) → sp vs H Q E →
      ∃ t, PSs (cxOf CX P w K mg base N qual scope f cdv A outer s H E) body t ∧ t { nx := fun _ H' => Q .non H', rt := Q } (start N vs) H) : FnOk P w K mg base CX (k + 1) f fd ps sp := by
  obtain ⟨oc, od, dV, kV, doc, pm, an, cdv, ct, osl, rfl, lk, hcd, _, _⟩ := Fd.ex
  refine ⟨len, fun A outer s H args us vs Q E hr e0 hb r hsp => ?_⟩
  have keep : ∀ (b : Addr) (o : Obj), base.get? b = some o → s.heap.get? b = some o := fun b o e => (e0.bs b o e).1
  have KX : K.In s.heap := e0.mod.kin.keeps keep
  have kinds : ∀ y ∈ ps.zip us, scope.names.lookup y.1 = some .local ∨ (scope.names.lookup y.1 = some .cell ∧ ((cellsFrom (s.heap.objs.size + 1) scope.names []).lookup y.1).isSome = true) := by
    rintro ⟨n, v⟩ hy
    exact (S.par n (List.of_mem_zip hy).1).imp_right fun q => ⟨q, PySem.W.cellsFrom_some _ _ _ (.inl q)⟩
  refine codeAny_call_function hr.depth (KX _ _ lk) rfl S.co S.gen rfl (PySem.W.codeRec_of KX hcd) (hb _ _ _ _ (wpAny_newFunctionEnv_cells S.kind kinds fun env he s1 x => ?_))
  subst he
  obtain ⟨t, ht, hq⟩ := hbody cdv A outer s H vs Q E (hr.deeper _) hsp
  have I : Inv (cxOf CX P w K mg base N qual scope f cdv A outer s H E) [] (start N vs) H s1 := inv_start S hr.hd e0 (len _ _ _ _ hsp) r x
  refine ⟨(e0.mod.nolimit.keeps keep).keeps x.toInCall.keep, codeAny_func (wpAny_mono (ht.run [] s1 (start N vs) H _ I hq) (fun fl s' hs => ?_) fun e s' hs => hs)⟩
  cases fl with
  | ret u =>
    obtain ⟨v, σ', H', J, rv, q⟩ := hs
    exact ⟨v, H', J.os, J.bare, J.base, J.hok, rv, q⟩
  | next =>
    obtain ⟨σ', H', J, q⟩ := hs
    exact ⟨.non, H', J.os, J.bare, J.base, J.hok, rfl, q⟩
  | brk => obtain ⟨_, _, _, q⟩ := hs; exact q.elim
  | cont => obtain ⟨_, _, _, q⟩ := hs; exact q.elim
end MP
set_option maxRecDepth 100000
set_option maxHeartbeats 1000000
namespace MP
open PySem PySem.Spec PyProof.Rows L2
variable [TabsP] [ThkP]
section
variable {X : Cx} {W : WX} {K : PySem.W.Frag} {E : XK} {DR : DRel} {N0 : Ent} {H0 F H : Hp} {Ad : List Addr} {M : List D} {env : EnvM} {σ : St} {Q : VK} {x : V} {a : Expr} {fa : EF} {pos : Pos} {f : Str}
def Op1E (X : Cx) (W : WX) (DR : DRel) (f : Value → Sem Value) (g : D → List D → R) : Prop :=
  ∀ (pins : List (Addr × Obj)) (s : Shared) (σ : St) (H F : Hp) (Ad : List Addr) (M : List D) (x : V) (v : Value) (dx : D) (Q : VK), Inv X pins σ H s → MemOk X.K F Ad M H → RelV x v → Den X.K F Ad x dx →
    RP X.K (fun c d H => W c d σ H) DR F Ad H Q (g dx M) → wpAny (model X.prog X.w) X.A (f v) (EP X pins σ Q) X.xe s
theorem Op1.e {f : Value → Sem Value} {g : D → List D → R} (h : Op1 X DR f g) : Op1E X W DR f g := fun pins s σ H F Ad M x v dx Q I m rx hx r => h pins s σ H F Ad M _ x v dx Q I m rx (.inl hx) r
theorem s_attrB (dr : DRok DR) {g : D → List D → R} (ho : Op1 X DR (fun v => getAttr v f true) g) (ha : SB X W a fa) (hb : attributeBase a f X.env (eval a X.env) = eval a X.env := by rfl) : PE X (.Attribute a f pos) (tG X.K W DR (e1 g fa)) := by
  refine ⟨fun pins s σ H Q I ⟨N0, F, Ad, M, env, m, en, r⟩ => ?_⟩
  refine attr_of hb (thn (ha.run pins s σ H _ I (tG_seq (Q' := fun v H1 => ∃ F1 Ad1 M1 d, MemOk X.K F1 Ad1 M1 H1 ∧ DB X.K H1 F1 Ad1 H1 v d ∧ RP X.K (fun c d H => W c d σ H) DR F1 Ad1 H1 Q (g d M1)) dr m en r fun d M1 v F1 Ad1 H1 g1 m1 en1 x1 r1 => ⟨F1, Ad1, M1, d, m1, x1, r1⟩)) fun u s1 ⟨x, H1, I1, rx, F1, Ad1, M1, d, m1, x1, r1⟩ => ?_)
  exact ho pins s1 σ H1 F1 Ad1 M1 _ x u d Q I1 m1 rx x1 r1
theorem s_attr (dr : DRok DR) {g : D → List D → R} (ho : Op1E X W DR (fun v => getAttr v f true) g) (ha : SE X W a fa) (hb : attributeBase a f X.env (eval a X.env) = eval a X.env := by rfl) : PE X (.Attribute a f pos) (tG X.K W DR (e1 g fa)) := by
  refine ⟨fun pins s σ H Q I ⟨N0, F, Ad, M, env, m, en, r⟩ => ?_⟩
  refine attr_of hb (thn (ha.run pins s σ H _ I (tG_seq (Q' := fun v H1 => ∃ F1 Ad1 M1 d, MemOk X.K F1 Ad1 M1 H1 ∧ Den X.K F1 Ad1 v d ∧ RP X.K (fun c d H => W c d σ H) DR F1 Ad1 H1 Q (g d M1)) dr m en r fun d M1 v F1 Ad1 H1 g1 m1 en1 x1 r1 => ⟨F1, Ad1, M1, d, m1, x1, r1⟩)) fun u s1 ⟨x, H1, I1, rx, F1, Ad1, M1, d, m1, x1, r1⟩ => ?_)
  exact ho pins s1 σ H1 F1 Ad1 M1 x u d Q I1 m1 rx x1 r1
structure ClsF (K : PySem.W.Frag) (c : Str) (fs : List Str) : Prop where
  cls : Cls K (He.ga K c)
  no : ∀ f ∈ fs, NoAttr K (He.ga K c) f
def fldR (c f : Str) (x : D) (M : List D) : R := match view M x with
  | .ins c' fs => if c' = c then (match fs.lookup f with | some d => .ok d M | none => .stuck) else .stuck
  | _ => .stuck
theorem op1_fld {c : Str} (hc : Cls X.K (He.ga X.K c)) (hn : NoAttr X.K (He.ga X.K c) f) : Op1 X (DE X.K) (fun v => getAttr v f true) (fldR c f) := by
  intro pins s σ H F Ad M E x v dx Q I m rx hx r
  have ax := DB.view m hx
  unfold fldR at r
  split at r
  · rename_i c' fs e
    split at r
    · rename_i ec
      subst ec
      split at r
      · rename_i dd e2
        rw [e] at ax
        obtain ⟨p, dx, vs, rfl, h1, d1⟩ := ax.ins m
        obtain ⟨w, e3, e4⟩ := d1.lookup e2
        obtain rfl : v = Value.ref p := rx
        exact getattr_ok I h1 hc hn e3 fun u s' I' ru => ⟨w, H, I', ru, RP.here r m e4⟩
      · exact r.elim
    · exact r.elim
  · exact r.elim
def spD (K : PySem.W.Frag) (DR : DRel) (n : Nat) (c : List D → List D → R) : Sp := fun vs H Q E => vs.length = n ∧ ∃ F Ad M ds, MemOk K F Ad M H ∧ DenL K F Ad vs ds ∧ RP K E DR F Ad H Q (c ds M)
def spI (K : PySem.W.Frag) (cn : Str) (n : Nat) (c : List D → List D → R) : Sp := fun vs H Q E => vs.length = n + 1 ∧ ∃ x dx rest HH F Ad M ds, vs = .ref x :: rest ∧ H = upd (upd HH dx (.own x)) x (.ins (He.ga K cn) dx []) ∧ HH x = none ∧ HH dx = none ∧ dx ≠ x ∧
  MemOk K F Ad M HH ∧ DenL K F Ad rest ds ∧ RP K E (DO K) F Ad HH (fun v H' => v = .ref x → Q .non H') (c ds M)
abbrev Pas (X : Cx) (W : WX) : Prop := ∀ σ, PassesAt (L2.CX X.prog X.w) X σ (WE W σ)
def WN : WX := fun _ _ _ _ => False
theorem pas_no : Pas X WN := fun _ _ _ _ _ _ _ ⟨_, _, _, _, _, _, _, _, _, _, _, _, w⟩ => w.elim
structure FnK (P : Program) (w : World) (K : PySem.W.Frag) (mg : Str → Option Value) (base : Heap) (DR : DRel) (k n : Nat) (g : Addr) (dd : List D) (c : List D → List D → R) : Prop where
  ex : ∃ (fd : FuncData) (ps : List Str) (dvs : List V) (us : List Value), FnOk P w K mg base (L2.CX P w) k g fd ps (spD K DR n c) ∧ Binds K fd ps us ∧ Vals dvs us ∧ (∀ F Ad, DenL K F Ad dvs dd) ∧ PySem.W.keepIn K (.ref g) = true
abbrev FnX (X : Cx) (DR : DRel) (k n : Nat) (g : Addr) (dd : List D) (c : List D → List D → R) : Prop := FnK X.prog X.w X.K X.mg X.base DR k n g dd c
def apC (c : List D → List D → R) (n : Nat) (dd xs M : List D) : R := if (xs ++ dd).length = n then c (xs ++ dd) M else .stuck
theorem spD_of {n : Nat} {c : List D → List D → R} {vs dvs : List V} {ds dd : List D} (m : MemOk K F Ad M H) (x : DenL K F Ad vs ds) (h : ∀ F Ad, DenL K F Ad dvs dd) (r : RP K E DR F Ad H Q (apC c n dd ds M)) : spD K DR n c (vs ++ dvs) H Q E := by
  unfold apC at r
  split at r
  · rename_i hn
    have l := (x.append (h F Ad)).length
    exact ⟨by rw [l]; exact hn, F, Ad, M, _, m, x.append (h F Ad), r⟩
  · exact r.elim
variable {k n : Nat} {g : Addr} {dd : List D} {c : List D → List D → R} {es : List Expr} {e : Expr} {l : LF} {y m : Str} {p apos : Pos}
theorem run_fnK {pins : List (Addr × Obj)} {s : Shared} {us : List Value} {vs : List V} {ds : List D} (Fk : FnX X DR k n g dd c) (hr : Room k X.A) (hx : Pas X W) (I : Inv X pins σ H s) (mm : MemOk X.K F Ad M H) (r : Vals vs us) (x : DenL X.K F Ad vs ds)
    (h : RP X.K (fun c d H => W c d σ H) DR F Ad H Q (apC c n dd ds M)) : wpAny (model X.prog X.w) X.A (call (.ref g) us) (EP X pins σ Q) X.xe s := by
  obtain ⟨fd, ps, dvs, ws, Fo, hb, hv, hd, hk⟩ := Fk.ex
  exact run_fnSD Fo hr hb hv (hx σ) I r (spD_of mm x hd h)
theorem s_call (dr : DRok DR) (Fk : FnX X DR k n g dd c) (hr : Room k X.A) (hx : Pas X W) (hg : Gl X y) (hm : X.mg y = some (.ref g)) (ha : SL X W (e :: es) l) (hdb : (y == ("__debug__" : Str)) = false := by decide)
    (he : starEach (e :: es) X.env = (false, eval e X.env) :: starEach es X.env := by rfl) (hpl : (backTo pos (starEach es X.env)).any (·.1) = false := by rfl) : PE X (.Call (.Name y p) (e :: es) [] pos) (tG X.K W DR (eCall (apC c n dd) l)) := by
  obtain ⟨fd, ps, dvs, ws, Fo, hb, hv, hd, hk⟩ := Fk.ex
  refine PE.imp (pe_callSD Fo hr hg hm hk hb hv hx ha hdb he hpl) fun σ H Q ⟨N0, F, Ad, M, env, m, en, r⟩ => ?_
  refine tL_seq dr m en r fun ds M1 vs F1 Ad1 H1 g1 m1 en1 x1 r1 => ?_
  exact spD_of m1 x1 hd r1
def eMeth (cn m : Str) (c : List D → List D → R) (n : Nat) (dd : List D) (o : EF) (l : LF) : EF := fun env M => (o env M).bind fun x M1 => match view M1 x with
  | .ins c' fs => if c' = cn ∧ fs.lookup m = none then (l env M1).bind fun xs M2 => apC c n dd (x :: xs) M2 else .stuck
  | _ => .stuck
theorem s_meth0 (dr : DRok DR) {cn : Str} {pl : Sem Bool} {o : Expr} {fo : EF} (hc : Cls X.K (He.ga X.K cn)) (hm : Meth X.K (He.ga X.K cn) m g) (Fk : FnX X DR k n g dd c) (hr : Room k X.A) (hx : Pas X W) (ho : SE X W o fo)
    (ht : eval (.Call (.Attribute o m apos) [] [] pos) X.env = (do
      let ov ← eval o X.env
      standAt apos.atName
      let (f, first) ← holding [ov] (getMethod ov m pl)
      callWith pos f first (backTo pos (starEach [] X.env)) (backToKw pos (keywordEach [] X.env))) := by rfl) : PE X (.Call (.Attribute o m apos) [] [] pos) (tG X.K W DR (eMeth cn m c n dd fo lNil)) := by
  refine ⟨fun pins s σ H Q I ⟨N0, F, Ad, M, env, mm, en, r⟩ => ?_⟩
  refine PySem.W.methodCall_KW (pl := pl) (thn (ho.run pins s σ H _ I (tG_seq dr mm en r (Q' := fun v H1 => ∃ F1 Ad1 M1 d, MemOk X.K F1 Ad1 M1 H1 ∧ Den X.K F1 Ad1 v d ∧ EnvOk X.K N0 F1 Ad1 H1 σ env ∧ RP X.K (fun c d H => W c d σ H) DR F1 Ad1 H1 Q (match view M1 d with
    | .ins c' fs => if c' = cn ∧ fs.lookup m = none then (lNil env M1).bind fun xs M2 => apC c n dd (d :: xs) M2 else .stuck
    | _ => .stuck)) fun d M1 v F1 Ad1 H1 g1 m1 en1 x1 r1 => ⟨F1, Ad1, M1, d, m1, x1, en1, r1⟩)) fun u s1 ⟨x, H1, I1, rx, F1, Ad1, M1, d, m1, x1, en1, r1⟩ => ?_) ht
  have ax := DB.view m1 (H0 := H1) (.inl x1 : DB X.K H1 F1 Ad1 H1 x d)
  split at r1
  · rename_i c' fs e
    split at r1
    · rename_i ec
      obtain ⟨ec, en⟩ := ec
      subst ec
      rw [e] at ax
      obtain ⟨q, dx, vs, rfl, h1, d1⟩ := ax.ins m1
      obtain rfl : u = Value.ref q := rx
      refine getmeth_ok I1 h1 hc hm (d1.none en) ?_
      refine PySem.W.callWith_K0 (first := [.ref q]) I1.kIn hm.kp ?_
      exact run_fnK (us := [.ref q]) (vs := [.ref q]) Fk hr hx I1 m1 (.cons rfl .nil) (.cons x1 .nil) r1
    · exact r1.elim
  · exact r1.elim
theorem s_meth (dr : DRok DR) {cn : Str} {pl : Sem Bool} {o : Expr} {fo : EF} (hc : Cls X.K (He.ga X.K cn)) (hm : Meth X.K (He.ga X.K cn) m g) (Fk : FnX X DR k n g dd c) (hr : Room k X.A) (hx : Pas X W) (ho : SE X W o fo) (ha : SL X W (e :: es) l)
    (hst : starEach (e :: es) X.env = (false, eval e X.env) :: starEach es X.env := by rfl) (hpl : (backTo pos (starEach es X.env)).any (·.1) = false := by rfl)
    (ht : eval (.Call (.Attribute o m apos) (e :: es) [] pos) X.env = (do
      let ov ← eval o X.env
      standAt apos.atName
      let (f, first) ← holding [ov] (getMethod ov m pl)
      callWith pos f first (backTo pos (starEach (e :: es) X.env)) (backToKw pos (keywordEach [] X.env))) := by rfl) : PE X (.Call (.Attribute o m apos) (e :: es) [] pos) (tG X.K W DR (eMeth cn m c n dd fo l)) := by
  refine ⟨fun pins s σ H Q I ⟨N0, F, Ad, M, env, mm, en, r⟩ => ?_⟩
  refine PySem.W.methodCall_KW (pl := pl) (thn (ho.run pins s σ H _ I (tG_seq dr mm en r (Q' := fun v H1 => ∃ F1 Ad1 M1 d, MemOk X.K F1 Ad1 M1 H1 ∧ Den X.K F1 Ad1 v d ∧ EnvOk X.K N0 F1 Ad1 H1 σ env ∧ RP X.K (fun c d H => W c d σ H) DR F1 Ad1 H1 Q (match view M1 d with
    | .ins c' fs => if c' = cn ∧ fs.lookup m = none then (l env M1).bind fun xs M2 => apC c n dd (d :: xs) M2 else .stuck
    | _ => .stuck)) fun d M1 v F1 Ad1 H1 g1 m1 en1 x1 r1 => ⟨F1, Ad1, M1, d, m1, x1, en1, r1⟩)) fun u s1 ⟨x, H1, I1, rx, F1, Ad1, M1, d, m1, x1, en1, r1⟩ => ?_) ht
  have ax := DB.view m1 (H0 := H1) (.inl x1 : DB X.K H1 F1 Ad1 H1 x d)
  split at r1
  · rename_i c' fs e
    split at r1
    · rename_i ec
      obtain ⟨ec, en⟩ := ec
      subst ec
      rw [e] at ax
      obtain ⟨q, dx, vs, rfl, h1, d1⟩ := ax.ins m1
      obtain rfl : u = Value.ref q := rx
      refine getmeth_ok I1 h1 hc hm (d1.none en) ?_
      refine PySem.W.callWith_K (first := [.ref q]) (h₀ := X.base) I1.ok.mod.kin hm.kp (thn (ha.run pos pins s1 σ H1 _ I1 (tL_seq dr m1 en1 r1 (Q' := fun vs H2 => ∃ F2 Ad2 M2 ds, MemOk X.K F2 Ad2 M2 H2 ∧ DenL X.K F2 Ad2 (.ref q :: vs) (d :: ds) ∧ RP X.K (fun c d H => W c d σ H) DR F2 Ad2 H2 Q (apC c n dd (d :: ds) M2)) fun ds M2 vs F2 Ad2 H2 g2 m2 en2 x2 r2 =>
        ⟨F2, Ad2, M2, ds, m2, .cons (x1.mono g2.fle g2.pre) x2, r2⟩)) fun us s2 ⟨vs, H2, I2, r, F2, Ad2, M2, ds, m2, x2, r2⟩ => ⟨I2.kIn, ?_⟩) hst hpl
      exact run_fnK (us := .ref q :: us) (vs := .ref q :: vs) Fk hr hx I2 m2 (.cons rfl r) x2 r2
    · exact r1.elim
  · exact r1.elim
def noX (r : R) : R := match r with
  | .exc _ _ => .stuck
  | r => r
def propR (cn : Str) (c : List D → List D → R) (x : D) (M : List D) : R := match view M x with
  | .ins c' _ => if c' = cn then noX (apC c 1 [] [x] M) else .stuck
  | _ => .stuck
theorem op1_prop {cn : Str} {q : Addr} (hc : Cls X.K (He.ga X.K cn)) (hp : PropOf X.K (He.ga X.K cn) f q g) (Fk : FnX X DR k 1 g [] c) (hr : Room (k + 1) X.A) : Op1E X W DR (fun v => getAttr v f true) (propR cn c) := by
  intro pins s σ H F Ad M x v dx Q I m rx hx r
  have ax := DB.view m (H0 := H) (.inl hx : DB X.K H F Ad H x dx)
  unfold propR at r
  split at r
  · rename_i c' fs e
    split at r
    · rename_i ec
      subst ec
      rw [e] at ax
      obtain ⟨p, dx', vs, rfl, h1, d1⟩ := ax.ins m
      obtain rfl : v = Value.ref p := rx
      obtain ⟨fd, ps, dvs, ws, Fo, hb, hv, hd, hk⟩ := Fk.ex
      refine getprop_ok (E := fun _ _ _ => False) I h1 hc hp Fo hr hb hv (fun _ _ _ _ _ _ _ ⟨_, _, _, _, _, _, _, _, _, _, _, _, w⟩ => w.elim) ?_
      have r' : RP X.K (fun _ _ _ => False) DR F Ad H Q (apC c 1 [] [dx] M) := by
        cases h : apC c 1 [] [dx] M with
        | ok d M1 => rw [h] at r; exact r
        | exc z M1 => rw [h] at r; exact r.elim
        | stuck => rw [h] at r; exact r.elim
      exact spD_of m (.cons hx .nil) hd r'
    · exact r.elim
  · exact r.elim
structure InK (P : Program) (w : World) (K : PySem.W.Frag) (mg : Str → Option Value) (base : Heap) (k n : Nat) (cn : Str) (g : Addr) (dd : List D) (c : List D → List D → R) : Prop where
  mak : Mk K (He.ga K cn) g
  ex : ∃ (fd : FuncData) (ps : List Str) (dvs : List V) (us : List Value), FnOk P w K mg base (L2.CX P w) k g fd ps (spI K cn n c) ∧ Binds K fd ps us ∧ Vals dvs us ∧ (∀ F Ad, DenL K F Ad dvs dd)
theorem run_makeS {C fI : Addr} {kk : Nat} {CX : CXT} {fd : FuncData} {ps : List Str} {sp : Sp} {dvs vs : List V} {ds us : List Value} {Ex : XK} {pins : List (Addr × Obj)} {s : Shared} (Mm : Mk X.K C fI) (Fo : FnOk X.prog X.w X.K X.mg X.base CX kk fI fd ps sp) (hr : Room (kk + 1) X.A) (hb : Binds X.K fd ps ds) (hd : Vals dvs ds)
    (hx : PassesAt CX X σ Ex) (I : Inv X pins σ H s) (r : Vals vs us)
    (h : ∀ x dx, H x = none → H dx = none → dx ≠ x → sp (.ref x :: (vs ++ dvs)) (upd (upd H dx (.own x)) x (.ins C dx [])) (fun v H2 => v = .non ∧ Q (.ref x) H2) Ex) :
    wpAny (model X.prog X.w) X.A (call (.ref C) us) (EP X pins σ Q) X.xe s := by
  obtain ⟨x, hxx⟩ : ∃ x, x = s.heap.objs.size + 1 := ⟨_, rfl⟩
  have fresh1 := I.hok.fresh (Nat.le_succ s.heap.objs.size)
  have fresh0 := I.hok.fresh (Nat.le_refl s.heap.objs.size)
  have sp1 := h (s.heap.objs.size + 1) s.heap.objs.size fresh1 fresh0 (Nat.ne_of_lt (Nat.lt_succ_self _))
  have J := Inv.made (C := C) I
  have rr : Vals (V.ref (s.heap.objs.size + 1) :: (vs ++ dvs)) (Value.ref (s.heap.objs.size + 1) :: (us ++ ds)) := Paired.cons rfl (r.append hd)
  have ll : (Value.ref (s.heap.objs.size + 1) :: us ++ ds).length = ps.length := (rr.length.symm).trans (Fo.len _ _ _ _ sp1)
  have bb := hb { s with heap := (s.heap.push PySem.W.emptyDict).push (PySem.W.instObj C s.heap.objs.size) } (Value.ref (s.heap.objs.size + 1) :: us) J.kIn ll
  apply wpAny_call
  apply make_map (f := fI) I.kIn Mm.makes Mm.init (beq_iff_eq.mp Mm.fn)
  refine codeAny_mono (Fo.run _ X.stack _ _ _ _ _ _ _ (hr.make C us []) (J.env0.make C us []) bb rr sp1) ?_
  intro res s' done
  cases res with
  | error e => exact hx pins _ _ e s' J done
  | ok fl =>
    cases fl with
    | ret u =>
      obtain ⟨v, H', J', rv, ev, q⟩ := J.after done
      cases ev
      exact ⟨rv, V.ref (s.heap.objs.size + 1), H', J', rfl, q⟩
    | next => exact done.elim
    | brk => exact done.elim
    | cont => exact done.elim
theorem so_make {cn : Str} (Ik : InK X.prog X.w X.K X.mg X.base k n cn g dd c) (hr : Room (k + 1) X.A) (hx : Pas X W) (hg : Gl X y) (hm : X.mg y = some (.ref (He.ga X.K cn))) (ha : SL X W (e :: es) l) (hdb : (y == ("__debug__" : Str)) = false := by decide)
    (he : starEach (e :: es) X.env = (false, eval e X.env) :: starEach es X.env := by rfl) (hpl : (backTo pos (starEach es X.env)).any (·.1) = false := by rfl) : SO X W (.Call (.Name y p) (e :: es) [] pos) (eCall (apC c n dd) l) := by
  obtain ⟨fd, ps, dvs, ws, Fo, hb, hv, hd⟩ := Ik.ex
  refine ⟨fun pins s σ H Q I ⟨N0, F, Ad, M, env, m, en, r⟩ => ?_⟩
  refine wpAny_Call_Name_kw (ld_glob I hg hm ?_ hdb)
  refine PySem.W.callWith_K (h₀ := X.base) I.ok.mod.kin Ik.mak.kp (thn (ha.run pos pins s σ H _ I (tL_seq DO.ok m en r (Q' := fun vs H2 => ∃ F2 Ad2 M2 ds, MemOk X.K F2 Ad2 M2 H2 ∧ DenL X.K F2 Ad2 vs ds ∧ RP X.K (fun c d H => W c d σ H) (DO X.K) F2 Ad2 H2 Q (apC c n dd ds M2)) fun ds M2 vs F2 Ad2 H2 g2 m2 en2 x2 r2 =>
        ⟨F2, Ad2, M2, ds, m2, x2, r2⟩)) fun us s1 ⟨vs, H1, I1, r, F2, Ad2, M2, ds, m2, x2, r2⟩ => ⟨I1.kIn, ?_⟩) he hpl
  refine run_makeS Ik.mak Fo hr hb hv (hx σ) I1 r fun x dx hx0 hd0 hne => ?_
  unfold apC at r2
  split at r2
  · rename_i hn
    have x3 := x2.append (hd F2 Ad2)
    refine ⟨by show (vs ++ dvs).length + 1 = n + 1; rw [x3.length, hn], x, dx, _, H1, F2, Ad2, M2, _, rfl, rfl, hx0, hd0, hne, m2, x3, ?_⟩
    cases hq : c (ds ++ dd) M2 with
    | ok d M3 =>
      rw [hq] at r2
      intro v F' Ad' H' g' m' z ev
      subst ev
      exact ⟨rfl, r2 _ F' Ad' H' g' m' z⟩
    | exc z M3 => rw [hq] at r2; exact r2
    | stuck => rw [hq] at r2; exact r2.elim
  · exact r2.elim
end
end MP
set_option maxRecDepth 100000
set_option maxHeartbeats 1000000
namespace MP
open PySem PySem.Spec PyProof.Rows L2
variable [TabsP] [ThkP]
set_option maxHeartbeats 4000000 in
theorem enum1_meets {v : Value} {o : Obj} {G : Heap → Prop} (B : Begins v o G) : Meets (Builtin.«enumerate.__new__» ⟨[.type "enumerate", v], []⟩) (fun _ R s => G s.heap ∧
      R (.ok (.ret (.ref (s.heap.push o).objs.size))) { s with heap := (s.heap.push o).push { cls := .type "enumerate", data := .fields #[.none, .bool false, .ref s.heap.objs.size, rawInt 0, .none, .none] } }) := by
  refine .of_wp fun P w A R s hs => ?_
  obtain ⟨hp, gg, dd, tt, oo⟩ := s
  obtain ⟨hG, hR⟩ := hs
  have hsub := sub_enumerate
  have it1 : ∀ {A2 : Around} {E2 : Value → Shared → Prop} {Q2 : Value → Shared → Prop}, Q2 (.ref hp.objs.size) ⟨hp.push o, gg, dd, tt, oo⟩ → wpAny (model P w) A2 (pyIter v) Q2 E2 ⟨hp, gg, dd, tt, oo⟩ := fun hq =>
    B.iter P w _ _ ⟨hp, gg, dd, tt, oo⟩ _ hG hq
  wp_walk using it1
  refine wpAny_stack_any fun st => wpAny_pure ?_
  split
  · rename_i cc _ _ _ _ _
    cases (cc == Value.type "enumerate") <;> (wp_walk using it1; exact ⟨_, rfl, hR⟩)
  · wp_walk using it1
    exact ⟨_, rfl, hR⟩
theorem enum1_call {P : Program} {w : World} {A : Around} {E : Value → Shared → Prop} {s : Shared} {v : Value} {o : Obj} {G : Heap → Prop} {Q : Value → Shared → Prop} (B : Begins v o G) (hG : G s.heap)
    (h : ∀ h', IsEnum h' (s.heap.objs.size + 1) s.heap.objs.size 0 .none → h'.get? s.heap.objs.size = some o → (∀ b u, s.heap.get? b = some u → h'.get? b = some u) → Q (.ref (s.heap.objs.size + 1)) { s with heap := h' }) :
    wpAny (model P w) A (call (.type "enumerate") [v]) Q E s := by
  refine callType_new F.called_enumerate (by decide) (F.typeCall_enumerate_1 _) (F.newCall_enumerate_1 _) (fun obj => F.args_object_init_2 obj _) F.entry_enumerate_new (enum1_meets B) ⟨hG, ?_⟩
  have z1 : (s.heap.push o).objs.size = s.heap.objs.size + 1 := Heap.size_push ..
  have ie := Heap.get?_push_size (s.heap.push o) (o := { cls := .type "enumerate", data := .fields #[.none, .bool false, .ref s.heap.objs.size, rawInt 0, .none, .none] }) rfl
  show _ ∧ _
  rw [z1] at ie ⊢
  exact ⟨⟨_, ie, rfl⟩, h _ ie (Heap.get?_push_of_some _ (Heap.get?_push_size _ B.free)) fun b u q => Heap.get?_push_of_some _ (Heap.get?_push_of_some _ q)⟩
def IteT (K : PySem.W.Frag) (a : Addr) : It where
  go := fun i H => ∃ (xs : List V) (x : V), SqT K H a xs ∧ xs[i]? = some x
  yld := fun i H v H' => ∃ T x, v = .ref T ∧ H T = none ∧ H' = upd H T (.tup [.int (i : Nat), x]) ∧ ∀ xs, SqT K H a xs → xs[i]? = some x
  stop := fun i H => ∃ xs : List V, SqT K H a xs ∧ xs.length = i
theorem tup_ne {h : Heap} {a it t : Addr} {i : Nat} {xs : Array Value} (p : h.IsTuple a xs) (q : h.IsTupleIter it t i) : a ≠ it := fun e => by
  obtain ⟨o, h1, h2, _⟩ := p
  obtain ⟨o', h3, h4, _⟩ := q
  rw [e, h3] at h1
  cases h1
  rw [h4] at h2
  exact absurd h2 (by decide)
theorem tup_neE {h : Heap} {a e it : Addr} {i : Int} {old : Value} {xs : Array Value} (p : h.IsTuple a xs) (q : IsEnum h e it i old) : e ≠ a := fun z => by
  obtain ⟨o, h1, h2, _⟩ := p
  rw [← z] at h1
  have q' : h.get? e = some _ := q
  rw [q'] at h1
  cases h1
  injection h2 with h2
  exact absurd h2 (by decide)
theorem turn_enumT {P : Program} {w : World} {K : PySem.W.Frag} {elts : List Expr} {kk : Nat} {tpos : Pos} (a e it : Addr) :
    Turn P w K (.Tuple elts kk tpos) (IteT K a) [e, it] e (fun i h => (∃ old, IsEnum h e it ((i : Nat) : Int) old) ∧ h.IsTupleIter it a i ∧ e ≠ it) where
  mem := List.mem_cons_self ..
  obj := by
    intro i h ⟨⟨old, he⟩, ⟨o, ho, hc, hd⟩, _⟩ b hb
    rcases (by simpa using hb : b = e ∨ b = it) with rfl | rfl
    · exact ⟨_, he, fun v q => nomatch q⟩
    · exact ⟨o, ho, fun v q => by rw [hd] at q; cases q⟩
  keep := by
    intro i h h' ⟨⟨old, he⟩, hi, hne⟩ k
    exact ⟨⟨old, k e (by simp) _ he⟩, hi.at fun o q => k it (by simp) o q, hne⟩
  item := by
    intro X hP hw hK hc i pins s σ H E I hf ⟨⟨old, he⟩, hit, hne⟩ ⟨xs, x, hq, hx⟩
    subst hP hw hK
    obtain ⟨its, rv, p, hz⟩ := I.tuple hq
    obtain ⟨u, hu, ru⟩ := rv.get hx
    have p' : s.heap.IsTuple a its.toArray := p
    have hel : e < s.heap.objs.size := Heap.lt_size he
    have hil : it < s.heap.objs.size := by obtain ⟨_, q, _⟩ := hit; exact Heap.lt_size q
    have n1 := tup_ne p' hit
    have n2 := tup_neE p' he
    have hu' : its[i]? = some u := hu
    have hlt : i < its.toArray.size := by
      rw [List.size_toArray]; exact (List.getElem?_eq_some_iff.mp hu').1
    refine wpAny_pyNext_enum_itemD (Draws.tuple (A := X.A.in1) (I.ok.hd hc) it a n1 its.toArray) he ⟨hit, p'⟩ hlt hne (by simp [hne, n2]) fun y h' tk hy ho st' hT hsz hk => ?_
    have hy : its.toArray[i]? = some y := hy
    have ey : y = u := by
      rw [List.getElem?_toArray, hu'] at hy; cases hy; rfl
    subst ey
    refine ⟨_, rfl, wpAny_letOwnedTupleGo_enum (s := { s with heap := h', toks := tk + 1 }) ho fun h'' he' sb => ?_⟩
    have hT2 : h''.get? s.heap.objs.size = some { cls := .type "tuple", data := .seq #[.int i tk, y] } := (sb.2 _ (Nat.ne_of_gt hel)).trans hT
    have ob : ObjOk X.prog X.w (upd H s.heap.objs.size (.tup [.int (i : Nat), x])) h'' s.heap.objs.size (.tup [.int (i : Nat), x]) :=
      ⟨by show 2 ≤ sizeLine; decide, [.int i tk, y], .cons ⟨_, rfl⟩ (.cons ru .nil), ⟨_, hT2, rfl, _, rfl⟩⟩
    have I1 : Inv X pins σ (upd H s.heap.objs.size (.tup [.int (i : Nat), x])) { s with heap := h'', toks := tk + 1 } :=
      I.turnedNew (ch := [e, it]) (fun b o hb q => (sb.2 b (fun z => hb (by simp [z]))).trans (hk b o (fun z => hb (by simp [z])) (fun z => hb (by simp [z])) q)) hf (Nat.le_refl _) ob
    refine ⟨.ref s.heap.objs.size, _, I1, rfl, ⟨_, x, rfl, I.hok.fresh (Nat.le_refl _), rfl, fun ys hys => by rw [I.tuple_inj hys hq]; exact hx⟩, ⟨⟨y, ?_⟩, st'.1.at fun o q => (sb.2 it (Ne.symm hne)).trans q, hne⟩, fun b hb => ?_⟩
    · rw [show ((i + 1 : Nat) : Int) = (i : Int) + 1 by omega]; exact he'
    · have hb' : b < s.heap.objs.size := by
        rcases (by simpa using hb : b = e ∨ b = it) with rfl | rfl
        · exact hel
        · exact hil
      rw [upd_ne (Nat.ne_of_lt hb')]
      exact (hf b hb).1
  done := by
    intro X hP hw hK hc i pins s σ H E I hf ⟨⟨old, he⟩, hit, hne⟩ ⟨xs, hq, hx⟩
    subst hP hw hK
    obtain ⟨its, rv, p, hz⟩ := I.tuple hq
    obtain ⟨f0, f1, f2, f3, f4, f5⟩ := hf it (by simp)
    have hl := rv.length
    have p' : s.heap.IsTuple a its.toArray := p
    have hsz : its.toArray.size = i := by rw [List.size_toArray]; omega
    have n1 := tup_ne p' hit
    rw [← hsz] at hit
    exact wpAny_pyNext_enum_endD (Draws.tuple (A := X.A.in1) (I.ok.hd hc) it a n1 its.toArray) he ⟨hit, p'⟩ fun h' eb => ⟨rfl, I.turned (t' := s.toks) (fun b o hb q => eb b o hb q) f0 f1 f3 f4 f5⟩
  self := fun A i s Q E st h => let ⟨⟨_, he⟩, _⟩ := st; wpAny_pyIter_enum he h
def iEnumT (K : PySem.W.Frag) (ta : TA) : TI := fun σ H R => ta σ H fun vs H1 => ∃ a xs, vs = [.ref a] ∧ SqT K H1 a xs ∧ R (IteT K a) H1
theorem pi_enumT {X : Cx} {e : Expr} {ta : TA} {p pos tpos : Pos} {elts : List Expr} {kk : Nat} (hg : Gl X "enumerate") (hm : X.mg "enumerate" = none) (ha : PA X [e] ta) (hs : starEach [e] X.env = [(false, eval e X.env)] := by rfl) :
    PI X (.Tuple elts kk tpos) (.Call (.Name "enumerate" p) [e] [] pos) (iEnumT X.K ta) := by
  refine ⟨fun pins s σ H R I h => ?_⟩
  refine Call_ (ld_blt I hg hm boot_enumerate ?_)
  refine PyProof.Rows.callWith_type1 (thn (ha.run pos pins s σ H _ I h) fun us s1 ⟨vs, H1, I1, r1, a, xs, ex, hq, q⟩ => ?_) hs rfl
  subst ex
  cases r1 with
  | cons r rr =>
    cases rr
    cases r
    obtain ⟨its, rv, p', hz⟩ := I1.tuple hq
    refine enum1_call (begins_tuple a its.toArray) p' fun h' he hit hk => wpAny_pyIter_enum he ?_
    have I2 : Inv X pins σ H1 { s1 with heap := h' } := I1.kept (t' := s1.toks) hk
    refine ⟨s1.heap.objs.size + 1, [s1.heap.objs.size + 1, s1.heap.objs.size], _, _, H1, rfl, I2, turn_enumT a (s1.heap.objs.size + 1) s1.heap.objs.size, ⟨⟨.none, he⟩, ⟨_, hit, rfl, rfl⟩, Nat.succ_ne_self _⟩, fun b hb => ?_, q⟩
    have hle : s1.heap.objs.size ≤ b := by
      rcases (by simpa using hb : b = s1.heap.objs.size + 1 ∨ b = s1.heap.objs.size) with rfl | rfl
      · exact Nat.le_succ _
      · exact Nat.le_refl _
    exact I1.fpOk hle (I1.hok.fresh hle)
end MP
set_option maxRecDepth 100000
set_option maxHeartbeats 1000000
namespace MP
open PySem PySem.Spec PyProof.Rows L2
variable [TabsP] [ThkP]
section
variable {X : Cx} {pins : List (Addr × Obj)} {σ : St} {H : Hp} {s : Shared} {d : Addr} {o : Obj}
end
def tLk (td : TE) : TE := fun σ H Q => td σ H fun x H1 => ∃ d u, x = .ref d ∧ ((∃ od, H1 d = some (.frz od u) ∧ Q x H1) ∨ (H1 d = some u ∧ Mut (some u) ∧ ∀ od, Q x (upd H1 d (.frz od u))))
section
variable {X : Cx} {tg e : Expr} {td : TE} {apos cpos : Pos}
theorem pe_lk (h : PE X e td) : PE X e (tLk td) := ⟨fun pins s σ H Q I q => wpAny_mono (h.run pins s σ H _ I q) (fun v s1 ⟨x, H1, I1, rx, d, u, ex, z⟩ => by
  rcases z with ⟨od, hd, q⟩ | ⟨hd, mu, q⟩
  · exact ⟨x, H1, I1, rx, q⟩
  · obtain ⟨od, I2⟩ := I1.lock hd mu
    exact ⟨x, _, I2, rx, q od⟩) fun _ _ h => h⟩
end
end MP
set_option maxRecDepth 100000
set_option maxHeartbeats 1000000
namespace MP
open PySem PySem.Spec PyProof.Rows L2
variable [TabsP] [ThkP]
def Pre (Ad Ad' : List Addr) : Prop := ∀ (n : Nat) (a : Addr), Ad[n]? = some a → Ad'[n]? = some a
def KsOk (ks : List (Addr × HO)) (H : Hp) : Prop := ∀ k ∈ ks, H k.1 = some k.2
structure ItOk (K : PySem.W.Frag) (F : Hp) (Ad : List Addr) (ks : List (Addr × HO)) (J : It) (ds : List D) : Prop where
  go : ∀ (i : Nat) F' Ad' M' H', i < ds.length → FLe F F' → Pre Ad Ad' → MemOk K F' Ad' M' H' → KsOk ks H' → J.go i H'
  stop : ∀ F' Ad' M' H', FLe F F' → Pre Ad Ad' → MemOk K F' Ad' M' H' → KsOk ks H' → J.stop ds.length H'
  yld : ∀ (i : Nat) F' Ad' M' H' x H'', i < ds.length → FLe F F' → Pre Ad Ad' → MemOk K F' Ad' M' H' → KsOk ks H' → J.yld i H' x H'' →
    ∃ d F'', ds[i]? = some d ∧ Gr F' Ad' H' F'' Ad' H'' ∧ MemOk K F'' Ad' M' H'' ∧ Den K F'' Ad' x d
def AtL (K : PySem.W.Frag) (F : Hp) (Ad : List Addr) (ks : List (Addr × HO)) (a : Addr) (ds : List D) : Prop :=
  ∀ F' Ad' M' H', FLe F F' → Pre Ad Ad' → MemOk K F' Ad' M' H' → KsOk ks H' → ∃ vs, SqL K H' a vs ∧ DenL K F' Ad' vs ds
def AtT (K : PySem.W.Frag) (F : Hp) (Ad : List Addr) (ks : List (Addr × HO)) (a : Addr) (ds : List D) : Prop :=
  ∀ F' Ad' M' H', FLe F F' → Pre Ad Ad' → MemOk K F' Ad' M' H' → KsOk ks H' → ∃ vs, SqT K H' a vs ∧ DenL K F' Ad' vs ds
def enumD (ds : List D) : List D := ds.mapIdx fun i d => .tup [.int i, d]
section
variable {K : PySem.W.Frag} {F H : Hp} {Ad : List Addr} {M : List D} {ks : List (Addr × HO)} {a : Addr} {ds : List D}
theorem atL_lst {vs} (h : F a = some (.lst vs)) (r : DenL K F Ad vs ds) : AtL K F Ad [] a ds := fun F' Ad' M' H' l p m _ =>
  ⟨vs, SqL.of (m.sub _ _ (nrm_lst (l a (.lst vs) (by rw [h]; rfl)))), r.mono l p⟩
theorem atL_scr {ns : List Int} (h : SqL K F a (ns.map V.int)) : AtL K F Ad [] a (ns.map D.int) := fun F' Ad' M' H' l p m _ =>
  ⟨_, sqL_sub m (sqL_fle l h), DenL.map_int⟩
theorem atT_tup {vs} (h : TupK K F a vs) (r : DenL K F Ad vs ds) : AtT K F Ad [] a ds := fun F' Ad' M' H' l p m _ =>
  ⟨vs, sqT_sub m (sqT_fle l h.sq), r.mono l p⟩
theorem atT_ktp {vs} (h : SqT K F a vs) (r : DenL K F Ad vs ds) : AtT K F Ad [] a ds := fun F' Ad' M' H' l p m _ =>
  ⟨vs, sqT_sub m (sqT_fle l h), r.mono l p⟩
theorem DenL.lt {vs} {i : Nat} (r : DenL K F Ad vs ds) (h : i < ds.length) : ∃ v d, vs[i]? = some v ∧ ds[i]? = some d ∧ Den K F Ad v d := by
  obtain ⟨v, h1, h2⟩ := r.get (List.getElem?_eq_getElem h)
  exact ⟨v, _, h1, List.getElem?_eq_getElem h, h2⟩
theorem it_l (h : AtL K F Ad ks a ds) : ItOk K F Ad ks (Itl K a) ds where
  go := fun i F' Ad' M' H' hi l p m k => by
    obtain ⟨vs, h1, h2⟩ := h F' Ad' M' H' l p m k
    obtain ⟨v, d, e1, e2, e3⟩ := h2.lt hi
    exact ⟨vs, v, h1, e1⟩
  stop := fun F' Ad' M' H' l p m k => by
    obtain ⟨vs, h1, h2⟩ := h F' Ad' M' H' l p m k
    exact ⟨vs, h1, by rw [h2.length]; exact Nat.le_refl _⟩
  yld := fun i F' Ad' M' H' x H'' hi l p m k ⟨e, q⟩ => by
    subst e
    obtain ⟨vs, h1, h2⟩ := h F' Ad' M' H'' l p m k
    obtain ⟨v, d, e1, e2, e3⟩ := h2.lt hi
    rw [q vs h1] at e1; cases e1
    exact ⟨d, F', e2, Gr.refl, m, e3⟩
theorem it_t (h : AtT K F Ad ks a ds) : ItOk K F Ad ks (Itt K a) ds where
  go := fun i F' Ad' M' H' hi l p m k => by
    obtain ⟨vs, h1, h2⟩ := h F' Ad' M' H' l p m k
    obtain ⟨v, d, e1, e2, e3⟩ := h2.lt hi
    exact ⟨vs, v, h1, e1⟩
  stop := fun F' Ad' M' H' l p m k => by
    obtain ⟨vs, h1, h2⟩ := h F' Ad' M' H' l p m k
    exact ⟨vs, h1, by rw [h2.length]; exact Nat.le_refl _⟩
  yld := fun i F' Ad' M' H' x H'' hi l p m k ⟨e, q⟩ => by
    subst e
    obtain ⟨vs, h1, h2⟩ := h F' Ad' M' H'' l p m k
    obtain ⟨v, d, e1, e2, e3⟩ := h2.lt hi
    rw [q vs h1] at e1; cases e1
    exact ⟨d, F', e2, Gr.refl, m, e3⟩
theorem enum_len : (enumD ds).length = ds.length := by unfold enumD; simp
theorem enum_get {i : Nat} {d : D} (h : ds[i]? = some d) : (enumD ds)[i]? = some (.tup [.int i, d]) := by unfold enumD; simp [h]
theorem pair_new {F H : Hp} {Ad : List Addr} {M : List D} {T : Addr} {x : V} {d : D} {i : Int} (m : MemOk K F Ad M H) (hT : H T = none) (x1 : Den K F Ad x d) :
    Gr F Ad H (upd F T (.tup [.int i, x])) Ad (upd H T (.tup [.int i, x])) ∧ MemOk K (upd F T (.tup [.int i, x])) Ad M (upd H T (.tup [.int i, x])) ∧ Den K (upd F T (.tup [.int i, x])) Ad (.ref T) (.tup [.int i, d]) :=
  ⟨gr_new m hT, mem_new m hT, .tup (.inl upd_same) (.cons .int (.cons (x1.mono (fle_new (m.none hT)) fun _ _ h => h) .nil))⟩
theorem it_e (h : AtL K F Ad ks a ds) : ItOk K F Ad ks (Ite K a) (enumD ds) where
  go := fun i F' Ad' M' H' hi l p m k => by
    rw [enum_len] at hi
    obtain ⟨vs, h1, h2⟩ := h F' Ad' M' H' l p m k
    obtain ⟨v, d, e1, e2, e3⟩ := h2.lt hi
    exact ⟨vs, v, h1, e1⟩
  stop := fun F' Ad' M' H' l p m k => by
    obtain ⟨vs, h1, h2⟩ := h F' Ad' M' H' l p m k
    exact ⟨vs, h1, by rw [h2.length, enum_len]; exact Nat.le_refl _⟩
  yld := fun i F' Ad' M' H' x H'' hi l p m k ⟨T, y, ex, hT, e, q⟩ => by
    rw [enum_len] at hi
    subst e; subst ex
    obtain ⟨vs, h1, h2⟩ := h F' Ad' M' H' l p m k
    obtain ⟨v, d, e1, e2, e3⟩ := h2.lt hi
    rw [q vs h1] at e1; cases e1
    obtain ⟨g, m', dn⟩ := pair_new (i := (i : Nat)) m hT e3
    exact ⟨_, _, enum_get e2, g, m', dn⟩
theorem it_et (h : AtT K F Ad ks a ds) : ItOk K F Ad ks (IteT K a) (enumD ds) where
  go := fun i F' Ad' M' H' hi l p m k => by
    rw [enum_len] at hi
    obtain ⟨vs, h1, h2⟩ := h F' Ad' M' H' l p m k
    obtain ⟨v, d, e1, e2, e3⟩ := h2.lt hi
    exact ⟨vs, v, h1, e1⟩
  stop := fun F' Ad' M' H' l p m k => by
    obtain ⟨vs, h1, h2⟩ := h F' Ad' M' H' l p m k
    exact ⟨vs, h1, by rw [h2.length, enum_len]⟩
  yld := fun i F' Ad' M' H' x H'' hi l p m k ⟨T, y, ex, hT, e, q⟩ => by
    rw [enum_len] at hi
    subst e; subst ex
    obtain ⟨vs, h1, h2⟩ := h F' Ad' M' H' l p m k
    obtain ⟨v, d, e1, e2, e3⟩ := h2.lt hi
    rw [q vs h1] at e1; cases e1
    obtain ⟨g, m', dn⟩ := pair_new (i := (i : Nat)) m hT e3
    exact ⟨_, _, enum_get e2, g, m', dn⟩
def rngD (lo : Int) (n : Nat) : List D := (List.range n).map fun (k : Nat) => D.int (lo + (k : Nat))
theorem it_r {lo : Int} {n : Nat} : ItOk K F Ad [] (Itr lo n) (rngD lo n) where
  go := fun i F' Ad' M' H' hi l p m k => by show i < n; simpa [rngD] using hi
  stop := fun F' Ad' M' H' l p m k => by show n ≤ (rngD lo n).length; simp [rngD]
  yld := fun i F' Ad' M' H' x H'' hi l p m k ⟨e, q⟩ => by
    subst e; subst q
    have hi : i < n := by simpa [rngD] using hi
    exact ⟨.int (lo + (i : Nat)), F', by simp [rngD, hi], Gr.refl, m, .int⟩
end
def keyE : Key → D
  | .inl i => .int i
  | .inr s => .str s
def keyTE (ks : List Key) : D := .tup (ks.map keyE)
section
variable {K : PySem.W.Frag} {F H : Hp} {Ad : List Addr} {M : List D} {a : Addr}
theorem den_key : ∀ k : Key, Den K F Ad (kV k) (keyE k)
  | .inl _ => .int
  | .inr _ => .str
theorem denL_keys : ∀ ks : List Key, DenL K F Ad (ks.map kV) (ks.map keyE)
  | [] => .nil
  | k :: ks => .cons (den_key k) (denL_keys ks)
theorem absorb {q : Addr} {vs : List V} (m : MemOk K F Ad M H) (h : H q = some (.tup vs)) : ∃ F', Gr F Ad H F' Ad H ∧ MemOk K F' Ad M H ∧ F' q = some (.tup vs) := by
  cases e : F q with
  | some u =>
    have z := m.sub q u e
    rw [h] at z
    cases z
    exact ⟨F, Gr.refl, m, e⟩
  | none =>
    refine ⟨upd F q (.tup vs), ⟨fle_new e, fun b o hb ro n _ => ?_, ⟨[], by simp, by simp⟩, fun b o hb _ _ _ => hb, fun b hb => hb⟩, ⟨fun b u hb => ?_, m.len, m.nd, fun n b d h1 h2 => ?_, m.tab⟩, upd_same⟩
    · rw [upd_ne (fun z => by subst z; rw [h] at hb; cases hb; exact ro)]; exact n
    · by_cases z : b = q
      · subst z; rw [upd_same] at hb; cases hb; exact h
      · rw [upd_ne z] at hb; exact m.sub b u hb
    · obtain ⟨f, r⟩ := m.cel n b d h1 h2
      obtain ⟨o, ho, ro⟩ := r.obj
      have ne : b ≠ q := fun z => by subst z; rw [h] at ho; cases ho; exact ro
      exact ⟨by rw [upd_ne ne]; exact f, r.mono (fle_new e) (fun _ _ h => h) rfl⟩
def isDict : HO → Bool
  | .dK _ => true
  | .dT _ => true
  | _ => false
theorem lock_den {u : HO} (hu : isDict u = true) (m : MemOk K F Ad M H) (h : F a = some u) (od : Obj) : Gr F Ad H (upd F a (.frz od u)) Ad (upd H a (.frz od u)) ∧ MemOk K (upd F a (.frz od u)) Ad M (upd H a (.frz od u)) := by
  have hn : nrm (some (HO.frz od u)) = some u ∧ ∀ o' u', u ≠ .frz o' u' := by
    cases u <;> first | exact ⟨rfl, fun _ _ z => nomatch z⟩ | cases hu
  have fl : FLe F (upd F a (.frz od u)) := ⟨fun b v hb => by
    by_cases z : b = a
    · subst z
      rw [h] at hb
      rw [upd_same, hn.1, ← hb]
      cases u <;> first | rfl | cases hu
    · rw [upd_ne z]; exact hb, fun b o v hb => by
    by_cases z : b = a
    · subst z; rw [h] at hb; exact absurd (Option.some.inj hb) (hn.2 o v)
    · rw [upd_ne z]; exact hb⟩
  have nf : ∀ {b}, F b = none → b ≠ a := fun n z => by rw [z, h] at n; cases n
  refine ⟨⟨fl, fun b o hb ro n _ => by rw [upd_ne (nf n)]; exact n, ⟨[], by simp, by simp⟩, fun b o hb _ n _ => by rw [upd_ne (nf n)]; exact hb, fun b hb => ?_⟩, ⟨fun b v hb => ?_, m.len, m.nd, fun n b d h1 h2 => ?_, tabs_root m.tab (m.sub _ _ h) (by cases u <;> first | trivial | cases hu)⟩⟩
  · by_cases z : b = a
    · subst z; rw [upd_same]; simp
    · rw [upd_ne z]; exact hb
  · by_cases z : b = a
    · subst z; rw [upd_same] at hb ⊢; exact hb
    · rw [upd_ne z] at hb ⊢; exact m.sub b v hb
  · obtain ⟨f, r⟩ := m.cel n b d h1 h2
    exact ⟨by rw [upd_ne (nf f)]; exact f, r.mono fl (fun _ _ h => h) (by rw [upd_ne (nf f)])⟩
theorem DenK.get : ∀ {vs ds} {i : Nat} {k : Key} {v : V}, DenK K F Ad vs ds → vs[i]? = some (k, v) → ∃ d, ds[i]? = some (k, d) ∧ Den K F Ad v d
  | _, _, _, _, _, .nil, e => by simp at e
  | _, _, 0, k, v, .cons h _, e => by simp at e; obtain ⟨rfl, rfl⟩ := e; exact ⟨_, rfl, h⟩
  | _, _, i + 1, k, v, .cons _ r, e => by
    obtain ⟨d, h1, h2⟩ := DenK.get (i := i) r (by simpa using e)
    exact ⟨d, by simpa using h1, h2⟩
theorem DenT.get : ∀ {vs ds} {i : Nat} {k : List Key} {v : V}, DenT K F Ad vs ds → vs[i]? = some (k, v) → ∃ d, ds[i]? = some (k, d) ∧ Den K F Ad v d
  | _, _, _, _, _, .nil, e => by simp at e
  | _, _, 0, k, v, .cons h _, e => by simp at e; obtain ⟨rfl, rfl⟩ := e; exact ⟨_, rfl, h⟩
  | _, _, i + 1, k, v, .cons _ r, e => by
    obtain ⟨d, h1, h2⟩ := DenT.get (i := i) r (by simpa using e)
    exact ⟨d, by simpa using h1, h2⟩
def keysT (ds : List (List Key × D)) : List D := ds.map fun kv => keyTE kv.1
def keysK (ds : List (Key × D)) : List D := ds.map fun kv => keyE kv.1
def itemsT (ds : List (List Key × D)) : List D := ds.map fun kv => .tup [keyTE kv.1, kv.2]
def itemsK (ds : List (Key × D)) : List D := ds.map fun kv => .tup [keyE kv.1, kv.2]
theorem it_kT {o : Obj} {vs ds} (h : F a = some (.frz o (.dT vs))) (r : DenT K F Ad vs ds) : ItOk K F Ad [] (Itkt a o vs) (keysT ds) where
  go := fun i F' Ad' M' H' hi l p m _ => ⟨m.sub _ _ (l.fz _ _ _ h), by rw [r.length]; simpa [keysT] using hi⟩
  stop := fun F' Ad' M' H' l p m _ => ⟨m.sub _ _ (l.fz _ _ _ h), by rw [r.length]; simp [keysT]⟩
  yld := fun i F' Ad' M' H' x H'' hi l p m _ ⟨e1, k, v, q, e2, e3, e4⟩ => by
    subst e1; subst e3
    obtain ⟨d, h1, h2⟩ := r.get e2
    obtain ⟨F2, g2, m2, e5⟩ := absorb m e4
    exact ⟨_, F2, by rw [keysT, List.getElem?_map, h1]; rfl, g2, m2, .tup (.inl e5) (denL_keys k)⟩
theorem it_kK {o : Obj} {vs ds} (h : F a = some (.frz o (.dK vs))) (r : DenK K F Ad vs ds) : ItOk K F Ad [] (Itk a o vs) (keysK ds) where
  go := fun i F' Ad' M' H' hi l p m _ => ⟨m.sub _ _ (l.fz _ _ _ h), by rw [r.length]; simpa [keysK] using hi⟩
  stop := fun F' Ad' M' H' l p m _ => ⟨m.sub _ _ (l.fz _ _ _ h), by rw [r.length]; simp [keysK]⟩
  yld := fun i F' Ad' M' H' x H'' hi l p m _ ⟨e1, k, v, e2, e3⟩ => by
    subst e1; subst e3
    obtain ⟨d, h1, h2⟩ := r.get e2
    exact ⟨_, F', by rw [keysK, List.getElem?_map, h1]; rfl, Gr.refl, m, den_key k⟩
end
def tI (K : PySem.W.Frag) (W : WX) (st : Bool) (f : LF) : TI := fun σ H R => ∃ N0 F Ad M env, MemOk K F Ad M H ∧ EnvOk K N0 F Ad H σ env ∧ (match f env M with
  | .ok ds M1 => ∀ J ks F' Ad' H', Gr F Ad H F' Ad' H' → MemOk K F' Ad' M1 H' → ItOk K F' Ad' ks J ds → KsOk ks H' → (∀ k ∈ ks, F' k.1 = none ∧ k.1 ∉ Ad' ∧ RootO k.2) → (st = true → ks = []) → R J H'
  | .exc x M1 => ∀ cls dx F' Ad' H', Gr F Ad H F' Ad' H' → MemOk K F' Ad' M1 H' → XOk K F' Ad' H' x cls dx → W cls dx σ H'
  | .stuck => False)
abbrev SI (X : Cx) (W : WX) (st : Bool) (tg iter : Expr) (f : LF) : Prop := PI X tg iter (tI X.K W st f)
section
variable {X : Cx} {W : WX} {K : PySem.W.Frag} {N0 : Ent} {F H : Hp} {Ad : List Addr} {M : List D} {env : EnvM} {σ : St} {tg e e' : Expr} {f f' : EF} {l : LF} {pos p : Pos}
theorem PI.imp {t u : TI} (h : PI X tg e t) (i : ∀ σ H R, u σ H R → t σ H R) : PI X tg e u := ⟨fun pins s σ H R I q => h.run pins s σ H R I (i σ H R q)⟩
theorem PI.or {t u : TI} (h : PI X tg e t) (h' : PI X tg e u) : PI X tg e (fun σ H R => t σ H R ∨ u σ H R) := ⟨fun pins s σ H R I q => by
  rcases q with q | q
  · exact h.run pins s σ H R I q
  · exact h'.run pins s σ H R I q⟩
theorem SI.any (h : SI X W true tg e l) : SI X W false tg e l := PI.imp h fun σ H R ⟨N0, F, Ad, M, env, m, en, r⟩ => ⟨N0, F, Ad, M, env, m, en, by
  cases q : l env M with
  | ok ds M1 => rw [q] at r; exact fun J ks F' Ad' H' g m' it k k2 z => r J ks F' Ad' H' g m' it k k2 (fun h => nomatch h)
  | exc x M1 => rw [q] at r; exact r
  | stuck => rw [q] at r; exact r⟩
theorem pre_refl : Pre Ad Ad := fun _ _ h => h
def iSeq (f : EF) : LF := fun env M => (f env M).bindL fun d M1 => match d with
  | .lst xs => .ok xs M1
  | .tup xs => .ok xs M1
  | .ktp xs => .ok xs M1
  | .scr ns => .ok (ns.map .int) M1
  | .dT kvs => .ok (keysT kvs) M1
  | .dK kvs => .ok (keysK kvs) M1
  | _ => .stuck
theorem nrm_frz {o : Option HO} {u : HO} (hu : isDict u = true) (h : nrm o = some u) : o = some u ∨ ∃ b, o = some (.frz b u) := by
  cases u with
  | dK k => exact nrm_dK h
  | dT k => exact nrm_dT h
  | _ => cases hu
theorem mut_dict {u : HO} (hu : isDict u = true) : Mut (some u) := by cases u <;> first | exact trivial | cases hu
theorem lk_den {u : HO} {Q : VK} (hu : isDict u = true) (m : MemOk K F Ad M H) {a : Addr} (h : nrm (F a) = some u) (q : ∀ od F' H', Gr F Ad H F' Ad H' → MemOk K F' Ad M H' → F' a = some (.frz od u) → Q (.ref a) H') :
    ∃ d u, V.ref a = .ref d ∧ ((∃ od, H d = some (.frz od u) ∧ Q (.ref a) H) ∨ (H d = some u ∧ Mut (some u) ∧ ∀ od, Q (.ref a) (upd H d (.frz od u)))) := by
  rcases nrm_frz hu h with e | ⟨b, e⟩
  · refine ⟨a, u, rfl, .inr ⟨m.sub _ _ e, mut_dict hu, fun od => ?_⟩⟩
    obtain ⟨g2, m2⟩ := lock_den hu m e od
    exact q od _ _ g2 m2 upd_same
  · exact ⟨a, u, rfl, .inl ⟨b, m.sub _ _ e, q b F H Gr.refl m e⟩⟩
theorem si_seq (h : SE X W e f) : SI X W true tg e (iSeq f) := PI.imp (PI.or (PI.or (pi_list h) (pi_tup h)) (pi_keys (pe_lk h))) fun σ H R ⟨N0, F, Ad, M, env, m, en, r⟩ => by
  unfold iSeq at r
  cases q : f env M with
  | ok d M1 =>
    rw [q, MP.R.bindL_ok] at r
    have lift : ∀ P : V → Hp → Prop, (∀ v F1 Ad1 H1, Gr F Ad H F1 Ad1 H1 → MemOk X.K F1 Ad1 M1 H1 → Den X.K F1 Ad1 v d → P v H1) → tG X.K W (DE X.K) f σ H P := fun P hP =>
      ⟨N0, F, Ad, M, env, m, en, by rw [q]; exact hP⟩
    cases d with
    | lst xs =>
      refine .inl (.inl (lift _ fun v F1 Ad1 H1 g1 m1 x1 => ?_))
      cases x1 with
      | lst h r1 => exact ⟨_, rfl, ⟨_, SqL.of (m1.sub _ _ h)⟩, r _ [] F1 Ad1 H1 g1 m1 (it_l (atL_lst h r1)) (fun _ z => nomatch z) (fun _ z => nomatch z) fun _ => rfl⟩
    | scr ns =>
      refine .inl (.inl (lift _ fun v F1 Ad1 H1 g1 m1 x1 => ?_))
      cases x1 with
      | scr h => exact ⟨_, rfl, ⟨_, sqL_sub m1 h⟩, r _ [] F1 Ad1 H1 g1 m1 (it_l (atL_scr h)) (fun _ z => nomatch z) (fun _ z => nomatch z) fun _ => rfl⟩
    | tup xs =>
      refine .inl (.inr (lift _ fun v F1 Ad1 H1 g1 m1 x1 => ?_))
      cases x1 with
      | tup h r1 => exact ⟨_, rfl, ⟨_, sqT_sub m1 h.sq⟩, r _ [] F1 Ad1 H1 g1 m1 (it_t (atT_tup h r1)) (fun _ z => nomatch z) (fun _ z => nomatch z) fun _ => rfl⟩
    | ktp xs =>
      refine .inl (.inr (lift _ fun v F1 Ad1 H1 g1 m1 x1 => ?_))
      cases x1 with
      | ktp h r1 => exact ⟨_, rfl, ⟨_, sqT_sub m1 h⟩, r _ [] F1 Ad1 H1 g1 m1 (it_t (atT_ktp h r1)) (fun _ z => nomatch z) (fun _ z => nomatch z) fun _ => rfl⟩
    | dT xs =>
      refine .inr (lift _ fun v F1 Ad1 H1 g1 m1 x1 => ?_)
      cases x1 with
      | dT h r1 => exact lk_den (Q := fun x H1 => ∃ d o, x = V.ref d ∧ ((∃ kvs, H1 d = some (.frz o (.dK kvs)) ∧ R (Itk d o kvs) H1) ∨ ∃ kvs, H1 d = some (.frz o (.dT kvs)) ∧ R (Itkt d o kvs) H1)) rfl m1 h fun od F2 H2 g2 m2 h2 => ⟨_, _, rfl, .inr ⟨_, m2.sub _ _ h2, r _ [] F2 Ad1 H2 (g1.trans g2) m2 (it_kT h2 (r1.mono g2.fle fun _ _ h => h)) (fun _ z => nomatch z) (fun _ z => nomatch z) fun _ => rfl⟩⟩
    | dK xs =>
      refine .inr (lift _ fun v F1 Ad1 H1 g1 m1 x1 => ?_)
      cases x1 with
      | dK h r1 => exact lk_den (Q := fun x H1 => ∃ d o, x = V.ref d ∧ ((∃ kvs, H1 d = some (.frz o (.dK kvs)) ∧ R (Itk d o kvs) H1) ∨ ∃ kvs, H1 d = some (.frz o (.dT kvs)) ∧ R (Itkt d o kvs) H1)) rfl m1 h fun od F2 H2 g2 m2 h2 => ⟨_, _, rfl, .inl ⟨_, m2.sub _ _ h2, r _ [] F2 Ad1 H2 (g1.trans g2) m2 (it_kK h2 (r1.mono g2.fle fun _ _ h => h)) (fun _ z => nomatch z) (fun _ z => nomatch z) fun _ => rfl⟩⟩
    | _ => exact r.elim
  | exc x M1 => rw [q] at r; exact .inl (.inl ⟨N0, F, Ad, M, env, m, en, by rw [q]; exact r⟩)
  | stuck => rw [q] at r; exact r.elim
def iSeqB (f : EF) : LF := fun env M => (f env M).bindL fun d M1 => match d with
  | .lst xs => .ok xs M1
  | .tup xs => .ok xs M1
  | .ktp xs => .ok xs M1
  | .scr ns => .ok (ns.map .int) M1
  | _ => .stuck
def iItm (f : EF) : LF := fun env M => (f env M).bindL fun d M1 => match d with
  | .dT kvs => .ok (itemsT kvs) M1
  | .dK kvs => .ok (itemsK kvs) M1
  | _ => .stuck
def iEnu (f : EF) : LF := fun env M => (f env M).bindL fun d M1 => match d with
  | .lst xs => .ok (enumD xs) M1
  | .tup xs => .ok (enumD xs) M1
  | .ktp xs => .ok (enumD xs) M1
  | _ => .stuck
theorem sl_one {DR : DRel} {g : EF} (h : PE X e (tG X.K W DR g)) (hs : starEach [e] X.env = [(false, eval e X.env)]) : PA X [e] (fun σ H Q => tG X.K W DR g σ H fun x H1 => Q [x] H1) := pa_cons h pa_nil hs
theorem si_enu {elts : List Expr} {kk : Nat} {tpos : Pos} (h : SE X W e f) (hg : Gl X "enumerate") (hm : X.mg "enumerate" = none) (hs : starEach [e] X.env = [(false, eval e X.env)] := by rfl) :
    SI X W true (.Tuple elts kk tpos) (.Call (.Name "enumerate" p) [e] [] pos) (iEnu f) := PI.imp (PI.or (pi_enum hg hm (sl_one h hs) hs) (pi_enumT hg hm (sl_one h hs) hs)) fun σ H R ⟨N0, F, Ad, M, env, m, en, r⟩ => by
  unfold iEnu at r
  cases q : f env M with
  | ok d M1 =>
    rw [q, MP.R.bindL_ok] at r
    have lift : ∀ P : V → Hp → Prop, (∀ v F1 Ad1 H1, Gr F Ad H F1 Ad1 H1 → MemOk X.K F1 Ad1 M1 H1 → Den X.K F1 Ad1 v d → P v H1) → tG X.K W (DE X.K) f σ H P := fun P hP =>
      ⟨N0, F, Ad, M, env, m, en, by rw [q]; exact hP⟩
    cases d with
    | lst xs =>
      refine .inl (lift _ fun v F1 Ad1 H1 g1 m1 x1 => ?_)
      cases x1 with
      | lst h r1 => exact ⟨_, _, rfl, SqL.of (m1.sub _ _ h), r _ [] F1 Ad1 H1 g1 m1 (it_e (atL_lst h r1)) (fun _ z => nomatch z) (fun _ z => nomatch z) fun _ => rfl⟩
    | tup xs =>
      refine .inr (lift _ fun v F1 Ad1 H1 g1 m1 x1 => ?_)
      cases x1 with
      | tup h r1 => exact ⟨_, _, rfl, sqT_sub m1 h.sq, r _ [] F1 Ad1 H1 g1 m1 (it_et (atT_tup h r1)) (fun _ z => nomatch z) (fun _ z => nomatch z) fun _ => rfl⟩
    | ktp xs =>
      refine .inr (lift _ fun v F1 Ad1 H1 g1 m1 x1 => ?_)
      cases x1 with
      | ktp h r1 => exact ⟨_, _, rfl, sqT_sub m1 h, r _ [] F1 Ad1 H1 g1 m1 (it_et (atT_ktp h r1)) (fun _ z => nomatch z) (fun _ z => nomatch z) fun _ => rfl⟩
    | _ => exact r.elim
  | exc x M1 => rw [q] at r; exact .inl ⟨N0, F, Ad, M, env, m, en, by rw [q]; exact r⟩
  | stuck => rw [q] at r; exact r.elim
def inR (i : Int) : Prop := i.natAbs / 1152921504606846976 = 0
theorem inR.b {i : Int} (h : inR i) : -(2 ^ 62) ≤ i ∧ i < 2 ^ 62 := by
  have h1 : i.natAbs < 1152921504606846976 := (Nat.div_eq_zero_iff_lt (by decide)).mp h
  have e : (2 : Int) ^ 62 = 4611686018427387904 := by decide
  rw [e]; omega
instance {i : Int} : Decidable (inR i) := by unfold inR; exact inferInstance
def iRng1 (a : EF) : LF := fun env M => (a env M).bindL fun d M1 => match d with
  | .int j => if inR j then .ok (rngD 0 j.toNat) M1 else .stuck
  | _ => .stuck
def iRng2 (a b : EF) : LF := fun env M => (a env M).bindL fun d M1 => (b env M1).bindL fun d2 M2 => match d, d2 with
  | .int i, .int j => if inR i ∧ inR j then .ok (rngD i (j - i).toNat) M2 else .stuck
  | _, _ => .stuck
theorem si_rng1 {a : Expr} (h : SE X W a f) (hg : Gl X "range") (hm : X.mg "range" = none) (hs : starEach [a] X.env = [(false, eval a X.env)] := by rfl) : SI X W true tg (.Call (.Name "range" p) [a] [] pos) (iRng1 f) :=
  PI.imp (pi_range1 hg hm (sl_one h hs) hs) fun σ H Rr ⟨N0, F, Ad, M, env, m, en, r⟩ => by
    unfold iRng1 at r
    refine ⟨N0, F, Ad, M, env, m, en, ?_⟩
    cases q : f env M with
    | ok d M1 =>
      rw [q, MP.R.bindL_ok] at r
      intro v F1 Ad1 H1 g1 m1 x1
      cases d with
      | int j =>
        cases x1
        by_cases hj : inR j
        · dsimp only at r; rw [if_pos hj] at r
          exact ⟨j, rfl, hj.b.1, hj.b.2, r _ [] F1 Ad1 H1 g1 m1 it_r (fun _ z => nomatch z) (fun _ z => nomatch z) fun _ => rfl⟩
        · dsimp only at r; rw [if_neg hj] at r; exact r.elim
      | _ => exact r.elim
    | exc x M1 => rw [q] at r; exact r
    | stuck => rw [q] at r; exact r
theorem si_rng2 {a b : Expr} (h : SE X W a f) (h' : SE X W b f') (hg : Gl X "range") (hm : X.mg "range" = none) (hs : starEach [a, b] X.env = [(false, eval a X.env), (false, eval b X.env)] := by rfl) (hs2 : starEach [b] X.env = [(false, eval b X.env)] := by rfl) :
    SI X W true tg (.Call (.Name "range" p) [a, b] [] pos) (iRng2 f f') :=
  PI.imp (pi_range2 hg hm (pa_cons h (sl_one h' hs2) (by rw [hs, hs2])) hs hs2) fun σ H Rr ⟨N0, F, Ad, M, env, m, en, r⟩ => by
    unfold iRng2 at r
    refine ⟨N0, F, Ad, M, env, m, en, ?_⟩
    cases q : f env M with
    | ok d M1 =>
      rw [q, MP.R.bindL_ok] at r
      intro v F1 Ad1 H1 g1 m1 x1
      refine ⟨N0, F1, Ad1, M1, env, m1, en.gr g1, ?_⟩
      cases q2 : f' env M1 with
      | ok d2 M2 =>
        rw [q2, MP.R.bindL_ok] at r
        intro v2 F2 Ad2 H2 g2 m2 x2
        cases d with
        | int i => cases d2 with
          | int j =>
            cases x1; cases x2
            by_cases hj : inR i ∧ inR j
            · dsimp only at r; rw [if_pos hj] at r
              exact ⟨i, j, rfl, ⟨hj.1.b.1, hj.1.b.2, hj.2.b.1, hj.2.b.2⟩, r _ [] F2 Ad2 H2 (g1.trans g2) m2 it_r (fun _ z => nomatch z) (fun _ z => nomatch z) fun _ => rfl⟩
            · dsimp only at r; rw [if_neg hj] at r; exact r.elim
          | _ => exact r.elim
        | _ => exact r.elim
      | exc x M2 => rw [q2] at r; exact fun cls dx F' Ad' H' g m' z => r cls dx F' Ad' H' (g1.trans g) m' z
      | stuck => rw [q2] at r; exact r
    | exc x M1 => rw [q] at r; exact r
    | stuck => rw [q] at r; exact r
def gN (j : Nat) (d : D) (env : EnvM) : Option EnvM := match env[j]? with
  | some (.slf _) => none
  | some _ => some (env.set j (.shr d))
  | none => none
def gAll : List Nat → List D → EnvM → Option EnvM
  | [], [], env => some env
  | j :: js, d :: ds, env => (gN j d env).bind (gAll js ds)
  | _, _, _ => none
def gT (js : List Nat) (d : D) (env : EnvM) : Option EnvM := match d with
  | .tup ds => gAll js ds env
  | _ => none
theorem EnvOk.set {j : Nat} {v : V} {d : D} {env' : EnvM} (en : EnvOk K N0 F Ad H σ env) (x : Den K F Ad v d) (h : gN j d env = some env') : EnvOk K N0 F Ad H (σ.set j (some v)) env' := by
  have hlt : j < env.length ∧ env' = env.set j (.shr d) ∧ ∀ e, env[j]? ≠ some (.slf e) := by
    unfold gN at h
    split at h
    · cases h
    · rename_i b hb hn
      cases h
      exact ⟨(List.getElem?_eq_some_iff.mp hn).1, rfl, fun e z => hb e (by rw [hn] at z; exact Option.some.inj z)⟩
    · cases h
  obtain ⟨hl, rfl, hns⟩ := hlt
  refine ⟨by simp [en.len], fun i d' hi => ?_, fun i d' hi => ?_, fun i k d1 d2 a h1 h2 h3 h4 => ?_, fun i d' hi => ?_, en.parM (FLe.refl _) (fun x d h1 h2 h3 h4 h5 => ⟨h1, h2, h4, fun z => h5 (z.set ⟨(by intro _ z; cases z), (by intro _ z; cases z)⟩)⟩) (par_set (by intro _ z; cases z)), fun i hi => ?_⟩
  · by_cases e : j = i
    · subst e
      rw [List.getElem?_set_self hl] at hi; cases hi
      exact ⟨v, by rw [List.getElem?_set_self (by rw [← en.len]; exact hl)], x⟩
    · rw [List.getElem?_set_ne e] at hi ⊢; exact en.shr i d' hi
  · by_cases e : j = i
    · subst e; rw [List.getElem?_set_self hl] at hi; cases hi
    · rw [List.getElem?_set_ne e] at hi ⊢; exact en.own i d' hi
  · have e1 : j ≠ i := fun e => by subst e; rw [List.getElem?_set_self hl] at h1; cases h1
    have e2 : j ≠ k := fun e => by subst e; rw [List.getElem?_set_self hl] at h2; cases h2
    rw [List.getElem?_set_ne e1] at h1 h3
    rw [List.getElem?_set_ne e2] at h2 h4
    exact en.dis i k d1 d2 a h1 h2 h3 h4
  · have e : j ≠ i := fun e => by subst e; rw [List.getElem?_set_self hl] at hi; cases hi
    rw [List.getElem?_set_ne e] at hi ⊢
    obtain ⟨h0, h1, h2, h3, h4, h5, h6⟩ := en.slf i d' hi
    refine ⟨h0, h1, h2, h3, h4, h5, fun k d2 hk => ?_⟩
    have e2 : j ≠ k := fun e => by subst e; rw [List.getElem?_set_self hl] at hk; cases hk
    rw [List.getElem?_set_ne e2] at hk ⊢
    exact h6 k d2 hk
  · have e : j ≠ i := fun e => by subst e; rw [List.getElem?_set_self hl] at hi; cases hi
    rw [List.getElem?_set_ne e] at hi ⊢
    exact en.raw i hi
theorem wipe_set {σ : St} {j : Nat} {v : Option V} : ∀ {vs : List Nat}, j ∈ vs → wipe (σ.set j v) vs = wipe σ vs
  | k :: vs, h => by
    unfold wipe
    by_cases e : j ∈ vs
    · rw [wipe_set e]
    · have ek : j = k := by simpa [e] using h
      subst ek
      have key : ∀ ws : List Nat, j ∉ ws → wipe (σ.set j v) ws = (wipe σ ws).set j v := by
        intro ws
        induction ws with
        | nil => intro _; rfl
        | cons w ws ih =>
          intro hn
          simp only [List.mem_cons, not_or] at hn
          unfold wipe
          rw [ih hn.2, List.set_comm _ _ hn.1]
      rw [key vs e, List.set_set]
structure TgOk (K : PySem.W.Frag) (js : List Nat) (gd : D → EnvM → Option EnvM) (g : TG) : Prop where
  ok : ∀ (N0 : Ent) (F : Hp) Ad M H σ env v d env' (Q : St → Hp → Prop), MemOk K F Ad M H → EnvOk K N0 F Ad H σ env → Den K F Ad v d → gd d env = some env' → (∀ σ', EnvOk K N0 F Ad H σ' env' → (∀ vs, (∀ j ∈ js, j ∈ vs) → wipe σ' vs = wipe σ vs) → Q σ' H) → g v σ H Q
theorem tg_n {j : Nat} : TgOk K [j] (gN j) (gName j) := ⟨fun N0 F Ad M H σ env v d env' Q m en x h q => q _ (en.set x h) fun vs hv => wipe_set (hv j (by simp))⟩
structure TgsOk (K : PySem.W.Frag) (js : List Nat) (g : TGs) : Prop where
  ok : ∀ (N0 : Ent) (F : Hp) Ad M H σ env vs ds env' (Q : St → Hp → Prop), MemOk K F Ad M H → EnvOk K N0 F Ad H σ env → DenL K F Ad vs ds → gAll js ds env = some env' → (∀ σ', EnvOk K N0 F Ad H σ' env' → (∀ us, (∀ j ∈ js, j ∈ us) → wipe σ' us = wipe σ us) → Q σ' H) → g vs σ H Q
theorem tgs_nil : TgsOk K [] gNil := ⟨fun N0 F Ad M H σ env vs ds env' Q m en x h q => by
  cases x with
  | nil => simp [gAll] at h; subst h; exact ⟨rfl, q σ en fun _ _ => rfl⟩
  | cons _ _ => simp [gAll] at h⟩
theorem tgs_cons {j : Nat} {js : List Nat} {g : TGs} (r : TgsOk K js g) : TgsOk K (j :: js) (gCons (gName j) g) := ⟨fun N0 F Ad M H σ env vs ds env' Q m en x h q => by
  cases x with
  | nil => simp [gAll] at h
  | @cons v d vs ds x1 x2 =>
    simp only [gAll, Option.bind_eq_some_iff] at h
    obtain ⟨env1, h1, h2⟩ := h
    refine ⟨v, vs, rfl, ?_⟩
    refine r.ok N0 F Ad M H _ env1 vs ds env' Q m (en.set x1 h1) x2 h2 fun σ' en' hw => q σ' en' fun us hu => ?_
    rw [hw us fun k hk => hu k (List.mem_cons_of_mem _ hk), wipe_set (hu j (by simp))]⟩
theorem tg_t {js : List Nat} {g : TGs} {n : Nat} (r : TgsOk K js g) (hn : js.length = n) : TgOk K js (gT js) (gTup K n g) := ⟨fun N0 F Ad M H σ env v d env' Q m en x h q => by
  unfold gT at h
  split at h
  · rename_i ds
    cases x with
    | tup h1 h2 =>
      refine ⟨_, _, rfl, sqT_sub m h1.sq, ?_, r.ok N0 F Ad M H σ env _ ds env' Q m en h2 h q⟩
      rw [h2.length, ← hn]
      have key : ∀ (js : List Nat) (ds : List D) (env : EnvM), gAll js ds env = some env' → ds.length = js.length := by
        intro js
        induction js with
        | nil => intro ds env h; cases ds with
          | nil => rfl
          | cons _ _ => simp [gAll] at h
        | cons j js ih => intro ds env h; cases ds with
          | nil => simp [gAll] at h
          | cons d ds =>
            simp only [gAll, Option.bind_eq_some_iff] at h
            obtain ⟨env1, h1, h2⟩ := h
            simp [ih ds env1 h2]
      exact key js ds env h
  · cases h⟩
end
end MP
set_option maxRecDepth 100000
set_option maxHeartbeats 1000000
namespace MP
open PySem PySem.Spec PyProof.Rows L2
variable [TabsP] [ThkP]
def wipeE (env : EnvM) : List Nat → EnvM
  | [] => env
  | v :: vs => (wipeE env vs).set v .no
def compL (gd : D → EnvM → Option EnvM) (ft fe : EF) (env0 : EnvM) : List D → List D → List D → R
  | [], acc, M => .ok (.lst acc) M
  | d :: ds, acc, M => match gd d env0 with
    | none => .stuck
    | some env1 => match ft env1 M with
      | .ok (.bl true) M1 => (match fe env1 M1 with
        | .ok y M2 => if acc.length < sizeLine then compL gd ft fe env0 ds (acc ++ [y]) M2 else .stuck
        | _ => .stuck)
      | .ok (.bl false) M1 => compL gd ft fe env0 ds acc M1
      | _ => .stuck
def eComp (l : LF) (gd : D → EnvM → Option EnvM) (ft fe : EF) (vs : List Nat) : EF := fun env M => (l env M).bind fun ds M1 => compL gd ft fe (wipeE env vs) ds [] M1
abbrev STs (X : Cx) (W : WX) (ifs : List Expr) (f : EF) : Prop := PTs X ifs (tT X.K W f)
section
variable {X : Cx} {W : WX} {K : PySem.W.Frag} {N0 : Ent} {F H : Hp} {Ad : List Addr} {M : List D} {env : EnvM} {σ : St} {e : Expr} {f : EF}
theorem PTs.imp {es : List Expr} {t u : TT} (h : PTs X es t) (i : ∀ σ H Q, u σ H Q → t σ H Q) : PTs X es u := ⟨fun pins s σ H Q I q => h.run pins s σ H Q I (i σ H Q q)⟩
theorem sts_nil : STs X W [] (eC (.bl true)) := PTs.imp pts_nil fun σ H Q ⟨N0, F, Ad, M, env, m, en, r⟩ => RPT.here (b := true) r m
theorem sts_one (h : ST X W e f) : STs X W [e] f := pts_one h
theorem EnvOk.wipe1 {j : Nat} (en : EnvOk K N0 F Ad H σ env) : EnvOk K N0 F Ad H (σ.set j none) (env.set j .no) := by
  have hno : ∀ {i : Nat} {b : B}, (env.set j .no)[i]? = some b → b ≠ .no → j ≠ i ∧ env[i]? = some b := fun {i b} h hb => by
    by_cases e : j = i
    · subst e
      by_cases hl : j < env.length
      · rw [List.getElem?_set_self hl] at h; cases h; exact absurd rfl hb
      · rw [List.getElem?_eq_none (by simp; omega)] at h; cases h
    · rw [List.getElem?_set_ne e] at h; exact ⟨e, h⟩
  refine ⟨by simp [en.len], fun i d hi => ?_, fun i d hi => ?_, fun i k d1 d2 a h1 h2 h3 h4 => ?_, fun i d hi => ?_, en.parM (FLe.refl _) (fun x d h1 h2 h3 h4 h5 => ⟨h1, h2, h4, fun z => h5 (z.set ⟨(by intro _ z; cases z), (by intro _ z; cases z)⟩)⟩) (par_set (by intro _ z; cases z)), fun i hi => ?_⟩
  · obtain ⟨e, h⟩ := hno hi (fun z => nomatch z)
    rw [List.getElem?_set_ne e]; exact en.shr i d h
  · obtain ⟨e, h⟩ := hno hi (fun z => nomatch z)
    rw [List.getElem?_set_ne e]; exact en.own i d h
  · obtain ⟨e, h⟩ := hno h1 (fun z => nomatch z)
    obtain ⟨e', h'⟩ := hno h2 (fun z => nomatch z)
    rw [List.getElem?_set_ne e] at h3
    rw [List.getElem?_set_ne e'] at h4
    exact en.dis i k d1 d2 a h h' h3 h4
  · obtain ⟨e, h⟩ := hno hi (fun z => nomatch z)
    rw [List.getElem?_set_ne e]
    obtain ⟨h0, h1, h2, h3, h4, h5, h6⟩ := en.slf i d h
    refine ⟨h0, h1, h2, h3, h4, h5, fun k d2 hk => ?_⟩
    obtain ⟨e', h'⟩ := hno hk (fun z => nomatch z)
    rw [List.getElem?_set_ne e']
    exact h6 k d2 h'
  · obtain ⟨e, h⟩ := hno hi (fun z => nomatch z)
    rw [List.getElem?_set_ne e]
    exact en.raw i h
theorem EnvOk.wipe (en : EnvOk K N0 F Ad H σ env) : ∀ vs : List Nat, EnvOk K N0 F Ad H (L2.wipe σ vs) (wipeE env vs)
  | [] => en
  | v :: vs => (en.wipe vs).wipe1
theorem KsOk.gr {F' H' : Hp} {Ad' : List Addr} {ks : List (Addr × HO)} (g : Gr F Ad H F' Ad' H') (k : KsOk ks H) (n : ∀ k ∈ ks, F k.1 = none ∧ k.1 ∉ Ad ∧ RootO k.2) : KsOk ks H' := fun q hq => g.keep q.1 q.2 (k q hq) (n q hq).2.2 (n q hq).1 (n q hq).2.1
theorem lc_read {Wb : WX} {gd : D → EnvM → Option EnvM} {g : TG} {l : LF} {ft fe : EF} {js vs : List Nat} (tg : TgOk K js gd g) (hj : ∀ j ∈ js, j ∈ vs) {Q : VK} (h : tG K W (DO K) (eComp l gd ft fe vs) σ H Q) :
    tLc (tI K W false l) g (tT K WN ft) (tG K WN (DE K) fe) vs σ H Q := by
  obtain ⟨N0, F, Ad, M, env, m, en, r⟩ := h
  refine ⟨N0, F, Ad, M, env, m, en, ?_⟩
  unfold eComp at r
  cases ql : l env M with
  | exc x M1 => rw [ql] at r; exact r
  | stuck => rw [ql] at r; exact r
  | ok ds M1 =>
    rw [ql, RL.bind_ok] at r
    intro J ks F1 Ad1 H1 g1 m1 it k1 k2 _ D hD
    have en1 := en.gr g1
    let Inv' : Nat → Hp → Prop := fun i H2 => i ≤ ds.length ∧ ∃ F2 Ad2 M2 vacc acc, Gr F1 Ad1 H1 F2 Ad2 H2 ∧ MemOk K F2 Ad2 M2 H2 ∧ F2 D = none ∧ D ∉ Ad2 ∧ H2 D = some (.lst vacc) ∧ DenL K F2 Ad2 vacc acc ∧
      RP K (fun c d H => W c d σ H) (DO K) F Ad H Q (compL gd ft fe (wipeE env vs) (ds.drop i) acc M2)
    refine ⟨fun i mm H2 => mm = ds.length - i ∧ Inv' i H2, ⟨_, rfl, Nat.zero_le _, F1, Ad1, M1, [], [], gr_own hD, mem_own m1 hD, m1.none hD, m1.notin hD, upd_same, .nil, by simpa using r⟩, ?_⟩
    rintro i mm H2 ⟨rfl, hi, F2, Ad2, M2, vacc, acc, g2, m2, nF, nA, hH, da, r2⟩
    have kk := KsOk.gr g2 k1 k2
    by_cases hlt : i < ds.length
    · right
      refine ⟨it.go i F2 Ad2 M2 H2 hlt g2.fle g2.pre m2 kk, fun H' => Inv' (i + 1) H', fun H' h' => ⟨_, by omega, rfl, h'⟩, fun x H3 hy => ?_⟩
      obtain ⟨d, F3, hd, g3, m3, x3⟩ := it.yld i F2 Ad2 M2 H2 x H3 hlt g2.fle g2.pre m2 kk hy
      have hdrop : ds.drop i = d :: ds.drop (i + 1) := by
        rw [List.drop_eq_getElem_cons hlt]
        rw [List.getElem?_eq_getElem hlt] at hd
        cases hd; rfl
      rw [hdrop] at r2
      unfold compL at r2
      cases hg : gd d (wipeE env vs) with
      | none => rw [hg] at r2; exact r2.elim
      | some env1 =>
        rw [hg] at r2
        dsimp only at r2
        have g23 := g2.trans g3
        have enw : EnvOk K N0 F3 Ad2 H3 (L2.wipe σ vs) (wipeE env vs) := (en1.gr g23).wipe vs
        refine tg.ok N0 F3 Ad2 M2 H3 _ _ x d env1 _ m3 enw x3 hg fun σ' en' hw => ⟨?_, ?_⟩
        · have hwv := hw vs hj
          rw [hwv]
          have ww : ∀ ws : List Nat, (∀ w ∈ ws, w ∈ vs) → L2.wipe (L2.wipe σ vs) ws = L2.wipe σ vs := by
            intro ws
            induction ws with
            | nil => intro _; rfl
            | cons w ws ih =>
              intro hws
              show (L2.wipe (L2.wipe σ vs) ws).set w none = _
              rw [ih fun z hz => hws z (List.mem_cons_of_mem _ hz)]
              have hwm := hws w (by simp)
              have wn : ∀ us : List Nat, w ∈ us → (L2.wipe σ us).set w none = L2.wipe σ us := by
                intro us
                induction us with
                | nil => intro h; cases h
                | cons u us ih2 =>
                  intro h
                  show ((L2.wipe σ us).set u none).set w none = (L2.wipe σ us).set u none
                  by_cases e : w = u
                  · subst e; rw [List.set_set]
                  · rw [List.set_comm _ _ (fun z => e z.symm), ih2 (by simpa [e] using h)]
              exact wn vs hwm
          exact ww vs fun _ h => h
        · refine ⟨N0, F3, Ad2, M2, env1, m3, en', ?_⟩
          have hDH : ∀ {F4 Ad4 H4}, Gr F3 Ad2 H3 F4 Ad4 H4 → H4 D = some (.lst vacc) ∧ F4 D = none ∧ D ∉ Ad4 := fun {F4 Ad4 H4} g4 => by
            have e3 : H3 D = some (.lst vacc) := g3.keep D _ hH trivial nF nA
            have n3 : F3 D = none := g3.fnew D _ hH trivial nF nA
            exact ⟨g4.keep D _ e3 trivial n3 nA, g4.fnew D _ e3 trivial n3 nA, g4.notin (by rw [e3]; simp) nA⟩
          cases ht : ft env1 M2 with
          | exc x M3 => rw [ht] at r2; exact r2.elim
          | stuck => rw [ht] at r2; exact r2.elim
          | ok b M3 =>
            rw [ht] at r2
            cases b with
            | bl b =>
              intro F4 Ad4 H4 g4 m4
              have en4 := en'.gr g4
              cases b with
              | true =>
                dsimp only at r2
                rw [if_pos rfl]
                refine ⟨N0, F4, Ad4, M3, env1, m4, en4, ?_⟩
                cases he : fe env1 M3 with
                | exc x M5 => rw [he] at r2; exact r2.elim
                | stuck => rw [he] at r2; exact r2.elim
                | ok y M5 =>
                  rw [he] at r2
                  dsimp only at r2
                  intro v F5 Ad5 H5 g5 m5 x5
                  have g35 := g4.trans g5
                  obtain ⟨hD5, nF5, nA5⟩ := hDH g35
                  split at r2
                  · rename_i hsz
                    have g25 := g23.trans g35
                    have g_acc := g3.trans g35
                    have da5 := da.mono g_acc.fle g_acc.pre
                    have ap := da5.append (.cons x5 .nil)
                    refine ⟨vacc, hD5, by rw [da.length]; exact hsz, by omega, F5, Ad5, M5, _, acc ++ [y], ?_, ?_, nF5, nA5, upd_same, ap, r2⟩
                    · refine ⟨g25.fle, g25.fnew, g25.apre, fun a o ha ro hf hn => ?_, fun a ha => ?_⟩
                      · rw [upd_ne (fun e => by rw [e, hD] at ha; cases ha)]; exact g25.keep a o ha ro hf hn
                      · rw [upd_ne (fun e => ha (by rw [e]; exact hD))]; exact g25.alive a ha
                    · refine ⟨fun a u h => ?_, m5.len, m5.nd, fun n a d' h1 h2 => ?_, tabs_root m5.tab hD5 trivial⟩
                      · rw [upd_ne (fun e => by rw [e, nF5] at h; cases h)]; exact m5.sub a u h
                      · obtain ⟨z1, z2⟩ := m5.cel n a d' h1 h2
                        exact ⟨z1, z2.mono (FLe.refl _) (fun _ _ h => h) (by rw [upd_ne (fun e => nA5 (by rw [← e]; exact List.mem_of_getElem? h1))])⟩
                  · exact r2.elim
              | false =>
                dsimp only at r2
                rw [if_neg (by decide)]
                obtain ⟨hD4, nF4, nA4⟩ := hDH g4
                have g24 := g3.trans g4
                exact ⟨by omega, F4, Ad4, M3, vacc, acc, g2.trans g24, m4, nF4, nA4, hD4, da.mono g24.fle g24.pre, r2⟩
            | _ => exact r2.elim
    · left
      have hi2 : i = ds.length := by omega
      subst hi2
      refine ⟨it.stop F2 Ad2 M2 H2 g2.fle g2.pre m2 kk, ?_⟩
      rw [List.drop_length] at r2
      have hD0 : H D = none := by
        cases qq : H D with
        | none => rfl
        | some o => exact absurd hD (g1.alive D (by rw [qq]; simp))
      exact r2 (.ref D) F2 Ad2 H2 (g1.trans g2) m2 ⟨D, rfl, nF, nA, hD0, .lst hH da⟩
theorem so_lc {elt tg iter : Expr} {ifs : List Expr} {scope : Scope} {own : List (Str × Nat)} {pos : Pos} {gd : D → EnvM → Option EnvM} {g : TG} {l : LF} {ft fe : EF} {js : List Nat} (hc : X.calm = true) (hN : X.N.Nodup) (hi : SI X W false tg iter l) (ok : BlkOk X.N X.env.scope scope own)
    (tgo : TgOk X.K js gd g) (hj : ∀ j ∈ js, j ∈ own.map (·.2))
    (hg : ∀ (s : Shared) (H : Hp) (C : Addr) (cl : List (Str × Addr)) (fp : List Addr), PG (X.blk s H scope (compEnvC scope cl C X.env) fp) tg g) (ht : ∀ (s : Shared) (H : Hp) (C : Addr) (cl : List (Str × Addr)) (fp : List Addr), STs (X.blk s H scope (compEnvC scope cl C X.env) fp) WN ifs ft)
    (he : ∀ (s : Shared) (H : Hp) (C : Addr) (cl : List (Str × Addr)) (fp : List Addr), SE (X.blk s H scope (compEnvC scope cl C X.env) fp) WN elt fe) (hs : ∀ x, foldedSetIterable iter X.env x = pure x := by intro _; rfl) :
    SO X W (.ListComp elt [⟨tg, iter, ifs, 0⟩] scope pos) (eComp l gd ft fe (own.map (·.2))) :=
  PE.imp (pe_lc hc hN hi ok hg ht he hs) fun σ H Q h => lc_read (Wb := WN) tgo hj h
end
end MP
set_option maxRecDepth 100000
set_option maxHeartbeats 1000000
namespace MP
open PySem PySem.Spec PyProof.Rows L2
variable [TabsP] [ThkP]
theorem dictSetT {X : Cx} {pins : List (Addr × Obj)} {σ : St} {H : Hp} {s : Shared} {E : Value → Shared → Prop} {a b : Addr} {kvs : List (List Key × V)} {ks : List Key} {y : V} {r : Value} {Q : Unit → Shared → Prop} (hu : X.A.units + 1 < cLine) (I : Inv X pins σ H s)
    (ha : H a = some (.dT kvs)) (hz : kvs.length < sizeLine) (hb : H b = some (.tup (ks.map kV))) (ry : RelV y r) (h : ∀ s', Inv X pins σ (upd H a (.dT (putK kvs ks y))) s' → Q () s') : wpAny (model X.prog X.w) X.A (dictSet a (.ref b) r) Q E s := by
  obtain ⟨z, hd, xs, rel, dd⟩ := dt_of I.hok ha
  have l1 : xs.length ≤ sizeLine := by rw [← Paired.length rel]; exact z
  have l2 := length_putK kvs ks y
  refine wpAny_dictSet_heap (hsz := l1) (show (tupleKind (mixKind X.prog X.w)).room X.A from Nat.lt_of_succ_lt hu) (key_of I.hok hb) dd fun h1 d1 sb => h _ ?_
  obtain ⟨q, es, ep, e1, e2, e3, e4, _, e5⟩ := d1
  exact d_write I (by rw [ha]; exact trivial) sb ⟨q, e1⟩ ⟨by omega, hd, _, (rel.put ks hb ry).keeps fun c ys ec => by rw [upd_ne (ne_of ec ha fun w => nomatch w)]; exact ec, q, es, ep, e1, e2, e3, e4, e5⟩
def tDcT (wi : TI) (g : TG) (tt : TT) (tk tv : TE) (vs : List Nat) : TE := fun σ H Q => wi σ H fun J H1 => ∀ D, H1 D = none → ∃ W : Nat → Nat → Hp → Prop, (∃ m, W 0 m (upd H1 D (.dT []))) ∧ ∀ i m H, W i m H →
  (J.stop i H ∧ Q (.ref D) H) ∨ (J.go i H ∧ ∃ Nx : Hp → Prop, (∀ H', Nx H' → ∃ m', m' < m ∧ W (i + 1) m' H') ∧ ∀ x H', J.yld i H x H' → g x (wipe σ vs) H' fun σ2 H2 => wipe σ2 vs = wipe σ vs ∧ tt σ2 H2 fun b H3 =>
    if b = true then tk σ2 H3 fun y H4 => tv σ2 H4 fun z H5 => ∃ kvs ks c, y = .ref c ∧ H5 c = some (.tup (ks.map kV)) ∧ H5 D = some (.dT kvs) ∧ kvs.length < sizeLine ∧ Nx (upd H5 D (.dT (putK kvs ks z))) else Nx H3)
section
variable {X : Cx} {kx vx tg iter : Expr} {ifs : List Expr} {scope : Scope} {own : List (Str × Nat)} {pos : Pos} {wi : TI} {g : TG} {tt : TT} {tk tv : TE}
theorem pe_dcT (hu : X.A.units + 1 < cLine) (hc : X.calm = true) (hN : X.N.Nodup) (hi : PI X tg iter wi) (ok : BlkOk X.N X.env.scope scope own)
    (hg : ∀ (s : Shared) (H : Hp) (C : Addr) (cl : List (Str × Addr)) (fp : List Addr), PG (X.blk s H scope (compEnvC scope cl C X.env) fp) tg g)
    (ht : ∀ (s : Shared) (H : Hp) (C : Addr) (cl : List (Str × Addr)) (fp : List Addr), PTs (X.blk s H scope (compEnvC scope cl C X.env) fp) ifs tt)
    (hk : ∀ (s : Shared) (H : Hp) (C : Addr) (cl : List (Str × Addr)) (fp : List Addr), PE (X.blk s H scope (compEnvC scope cl C X.env) fp) kx tk)
    (hv : ∀ (s : Shared) (H : Hp) (C : Addr) (cl : List (Str × Addr)) (fp : List Addr), PE (X.blk s H scope (compEnvC scope cl C X.env) fp) vx tv) (hs : ∀ x, foldedSetIterable iter X.env x = pure x := by intro _; rfl) :
    PE X (.DictComp kx vx [⟨tg, iter, ifs, 0⟩] scope pos) (tDcT wi g tt tk tv (own.map (·.2))) := by
  refine ⟨fun pins s σ H Q I h => ?_⟩
  rw [arm_eval_DictComp]
  have hfr : ∀ y ∈ scope.names, y.2 = .free → ∃ c, X.env.cells.lookup y.1 = some c := fun y hy e => (ok.free y hy e).elim (fun k => I.ok.has _ (.inl k)) fun k => I.ok.has _ (.inr k)
  refine wpAny_comprehension_free (use := none) rfl hs (closure_ok hfr) ok.kind (fun y hy e => by rw [ok.uniq y hy, e]) (thn (hi.run pins s σ H _ I h) fun xv t1 hx => thn hx fun itv t2 k2 => ?_)
  obtain ⟨it, fp, tn, J, H2, rfl, I2, T, st2, f2, q⟩ := k2
  refine wpAny_newObj_type (newEnv_comp ?_)
  generalize eD : t2.heap.objs.size = D
  have nD : H2 D = none := I2.hok.fresh (Nat.le_of_eq eD)
  obtain ⟨W, ⟨m0, w0⟩, turn⟩ := q D nD
  generalize es3 : ({ t2 with heap := t2.heap.push { cls := .type "dict", data := .dict #[] } } : Shared) = t3
  have I3 : Inv X pins σ (upd H2 D (.dT [])) t3 := by
    subst es3
    refine I2.laid (t' := t2.toks) (fun b o e => Heap.get?_push_of_some _ e) (Nat.le_of_eq eD) ?_
    subst eD
    exact dt_empty t2.heap I2.big
  have eh3 : t3.heap = t2.heap.push { cls := .type "dict", data := .dict #[] } := by rw [← es3]
  have f3 : ∀ b ∈ fp, FpOk X pins (upd H2 D (.dT [])) b ∧ b < t3.heap.objs.size := fun b hb => by
    obtain ⟨ob, eo, _⟩ := T.obj _ _ st2 b hb
    have lt := Heap.lt_size eo
    exact ⟨⟨by rw [upd_ne (by rw [← eD]; exact Nat.ne_of_lt lt)]; exact (f2 b hb).1, (f2 b hb).2⟩, by rw [eh3, Heap.size_push]; exact Nat.lt_succ_of_lt lt⟩
  have st3 : tn 0 t3.heap := T.keep _ _ _ st2 fun b _ o e => by rw [eh3]; exact Heap.get?_push_of_some _ e
  have I4 := block_start I3 ok hN f3
  have pg := hg t3 (upd H2 D (.dT [])) t3.heap.objs.size (cellsFrom (t3.heap.objs.size + 1) scope.names (cloFrom X.env.cells scope.names [])) fp
  have pt := ht t3 (upd H2 D (.dT [])) t3.heap.objs.size (cellsFrom (t3.heap.objs.size + 1) scope.names (cloFrom X.env.cells scope.names [])) fp
  have pk := hk t3 (upd H2 D (.dT [])) t3.heap.objs.size (cellsFrom (t3.heap.objs.size + 1) scope.names (cloFrom X.env.cells scope.names [])) fp
  have pv := hv t3 (upd H2 D (.dT [])) t3.heap.objs.size (cellsFrom (t3.heap.objs.size + 1) scope.names (cloFrom X.env.cells scope.names [])) fp
  let RR := compPost (model X.prog X.w) X.A X.xe none (EP X pins σ Q) (.ref D) t3.heap.objs.size
  show codeAny _ _ (.compStart (.DictComp kx vx [⟨tg, iter, ifs, 0⟩] scope pos) 0 (.ref it) (.ref D) (compEnvC scope (cellsFrom (t3.heap.objs.size + 1) scope.names (cloFrom X.env.cells scope.names [])) t3.heap.objs.size X.env)) RR { t3 with heap := pushCells (t3.heap.push { cls := .type "dict", data := .dict #[] }) scope.names }
  have nfp : ∀ b ∈ fp, (upd H2 D (.dT [])) b = none := fun b hb => (f3 b hb).1.1
  generalize ece : compEnvC scope (cellsFrom (t3.heap.objs.size + 1) scope.names (cloFrom X.env.cells scope.names [])) t3.heap.objs.size X.env = ce at I4 pg pt pk pv ⊢
  have cL : ce.locals = t3.heap.objs.size := by subst ece; rfl
  generalize eH3 : upd H2 D (.dT []) = H3 at I3 I4 pg pt pk pv w0 nfp f3
  generalize es4 : ({ t3 with heap := pushCells (t3.heap.push { cls := .type "dict", data := .dict #[] }) scope.names } : Shared) = t4 at I4 ⊢
  have st4 : tn 0 t4.heap := T.keep _ _ _ st3 fun b _ o e => by rw [← es4]; exact pushCells_keeps _ _ _ _ (Heap.get?_push_of_some _ e)
  have stat : ∀ {σ' : St} {H' : Hp} {s' : Shared}, Inv (X.blk t3 H3 scope ce fp) [] σ' H' s' → (∀ b ∈ fp, H' b = none) → ∀ b ∈ fp, FpOk (X.blk t3 H3 scope ce fp) [] H' b := fun {σ' H' s'} I' hn b hb =>
    ⟨hn b hb, (I'.ok.exf b hb).1, I'.ok.exfs b hb, .inl hb, fun x c e => (I'.ok.exf b hb).2 x c e, fun p hp => by cases hp⟩
  have loop : codeAny (model X.prog X.w) X.A (.compLoop (.DictComp kx vx [⟨tg, iter, ifs, 0⟩] scope pos) 0 (.ref it) (.ref D) ce) RR t4 := by
    refine compLoop_anyD (fun n s' => ∃ i H', Inv (X.blk t3 H3 scope ce fp) [] (wipe σ (own.map (·.2))) H' s' ∧ tn i s'.heap ∧ (∀ b ∈ fp, H' b = none) ∧ W i n H') ?_ m0 ⟨0, H3, I4, st4, nfp, w0⟩
    rintro n t5 ⟨i, H5, I5, st5, n5, w5⟩
    rcases turn i n H5 w5 with ⟨stop, qq⟩ | ⟨go, Nx, hNx, step⟩
    · refine thnF (T.done (X.blk t3 H3 scope ce fp) rfl rfl rfl hc i [] t5 _ H5 (fun _ _ => False) I5 (stat I5 n5) st5 stop) fun r t6 ⟨er, I6⟩ => ?_
      subst er
      have I7 : Inv X pins σ H5 t6 := I3.call' (ch := fp) I6.os I6.base I6.hok I6.bare fun b hb => let z := (f3 b hb).1; ⟨z.2.2.2.1, z.2.1, z.2.2.2.2.1, z.2.2.2.2.2⟩
      have nC : H5 t3.heap.objs.size = none := cL ▸ (show H5 ce.locals = none from I6.free)
      obtain ⟨m, hn, _⟩ := I6.loc
      obtain ⟨p0, p1, p2, p3, p4, p5⟩ := I3.fpOk (b := t3.heap.objs.size) (Nat.le_refl _) nC
      exact ⟨m, cL ▸ hn, fun h2 sb => ⟨.ref D, H5, I7.turned (t' := t6.toks) (fun b o hb e => (sb.2 b hb).trans e) p0 p1 p3 p4 p5, rfl, qq⟩⟩
    · refine thnF (T.item (X.blk t3 H3 scope ce fp) rfl rfl rfl hc i [] t5 _ H5 (fun _ _ => False) I5 (stat I5 n5) st5 go) fun r t6 ⟨u, er, k6⟩ => ?_
      subst er
      refine thnF k6 fun _ t7 ⟨x, H7, I7, r7, y7, st7, n7⟩ => ?_
      refine thnF (pg.run _ t7 _ H7 x u _ (I7.pinned (stat I7 n7) (T.obj _ _ st7)) r7 (step x H7 y7)) fun _ t8 ⟨σ8, H8, I8, hw8, q8⟩ => ?_
      refine thnF (pt.run _ t8 σ8 H8 _ I8 q8) fun b t9 ⟨H9, I9, q9⟩ => ?_
      have fin : ∀ {s' : Shared} {H' : Hp}, Inv (X.blk t3 H3 scope ce fp) ([] ++ pinsAt fp t7.heap) σ8 H' s' → Nx H' → ∃ m, m < n ∧ ∃ i H', Inv (X.blk t3 H3 scope ce fp) [] (wipe σ (own.map (·.2))) H' s' ∧ tn i s'.heap ∧ (∀ b ∈ fp, H' b = none) ∧ W i m H' := fun {s' H'} I' nx => by
        obtain ⟨m1, lm, w1⟩ := hNx H' nx
        have pin : ∀ b ∈ fp, ∀ o, t7.heap.get? b = some o → s'.heap.get? b = some o ∧ H' b = none := fun b hb o e => by
          have z := I'.pin (b, o) (List.mem_append_right _ (List.mem_append_right _ (mem_pinsAt hb e)))
          exact ⟨z.1, z.2.1⟩
        refine ⟨m1, lm, i + 1, H', (I'.unpinned (pins := [])).weak (by rw [← hw8, wipe_length]) (fun j v e => (wipe_some (hw8 ▸ e)).1), T.keep _ _ _ st7 fun b hb o e => (pin b hb o e).1, fun b hb => ?_, w1⟩
        obtain ⟨o, e, _⟩ := T.obj _ _ st7 b hb
        exact (pin b hb o e).2
      cases b with
      | false => exact fin I9 q9
      | true =>
        refine thnF (pk.run _ t9 σ8 H9 _ I9 q9) fun z t10 ⟨yk, H10, I10, r10, q10⟩ => ?_
        refine thnF (pv.run _ t10 σ8 H10 _ I10 q10) fun z2 t11 ⟨yv, H11, I11, r11, kvs, ks, c, ek, hc11, hD11, hz11, nx⟩ => ?_
        subst ek
        cases r10
        exact dictSetT (X := X.blk t3 H3 scope ce fp) hu I11 hD11 hz11 hc11 r11 fun t12 I12 => fin I12 nx
  exact codeAny_compStart_dict loop (T.self X.A 0 _ _ _ st4 loop)
end
def dcompT (gd : D → EnvM → Option EnvM) (ft fk fe : EF) (env0 : EnvM) : List D → List (List Key × D) → List D → R
  | [], acc, M => .ok (.dT acc) M
  | d :: ds, acc, M => match gd d env0 with
    | none => .stuck
    | some env1 => match ft env1 M with
      | .ok (.bl true) M1 => (match fk env1 M1 with
        | .ok (.tup kd) M2 => (match keysD kd with
          | some ks => (match fe env1 M2 with
            | .ok y M3 => if acc.length < sizeLine then dcompT gd ft fk fe env0 ds (insK acc ks y) M3 else .stuck
            | _ => .stuck)
          | none => .stuck)
        | _ => .stuck)
      | .ok (.bl false) M1 => dcompT gd ft fk fe env0 ds acc M1
      | _ => .stuck
def eDcT (l : LF) (gd : D → EnvM → Option EnvM) (ft fk fe : EF) (vs : List Nat) : EF := fun env M => (l env M).bind fun ds M1 => dcompT gd ft fk fe (wipeE env vs) ds [] M1
theorem wipe_wipe {σ : St} (vs : List Nat) : L2.wipe (L2.wipe σ vs) vs = L2.wipe σ vs := by
  have wn : ∀ (w : Nat) (us : List Nat), w ∈ us → (L2.wipe σ us).set w none = L2.wipe σ us := by
    intro w us
    induction us with
    | nil => intro h; cases h
    | cons u us ih2 =>
      intro h
      show ((L2.wipe σ us).set u none).set w none = (L2.wipe σ us).set u none
      by_cases e : w = u
      · subst e; rw [List.set_set]
      · rw [List.set_comm _ _ (fun z => e z.symm), ih2 (by simpa [e] using h)]
  have ww : ∀ ws : List Nat, (∀ w ∈ ws, w ∈ vs) → L2.wipe (L2.wipe σ vs) ws = L2.wipe σ vs := by
    intro ws
    induction ws with
    | nil => intro _; rfl
    | cons w ws ih =>
      intro hws
      show (L2.wipe (L2.wipe σ vs) ws).set w none = _
      rw [ih fun z hz => hws z (List.mem_cons_of_mem _ hz)]
      exact wn w vs (hws w (by simp))
  exact ww vs fun _ h => h
section
variable {X : Cx} {W : WX} {K : PySem.W.Frag} {N0 : Ent} {F F1 H H1 : Hp} {Ad Ad1 : List Addr} {M : List D} {env : EnvM} {σ : St} {e : Expr} {f : EF}
theorem wr_fresh {a : Addr} {o : HO} (g : Gr F Ad H F1 Ad1 H1) (m : MemOk K F1 Ad1 M H1) (h0 : H a = none) (nF : F1 a = none) (nA : a ∉ Ad1) {u0 : HO} (hu : H1 a = some u0) (ru : RootO u0) : Gr F Ad H F1 Ad1 (upd H1 a o) ∧ MemOk K F1 Ad1 M (upd H1 a o) := by
  refine ⟨⟨g.fle, g.fnew, g.apre, fun b u hb ro hf hn => ?_, fun b hb => ?_⟩, ⟨fun b u h => ?_, m.len, m.nd, fun n b d' h1 h2 => ?_, tabs_root m.tab hu ru⟩⟩
  · rw [upd_ne (fun e => by rw [e, h0] at hb; cases hb)]; exact g.keep b u hb ro hf hn
  · rw [upd_ne (fun e => hb (by rw [e]; exact h0))]; exact g.alive b hb
  · rw [upd_ne (fun e => by rw [e, nF] at h; cases h)]; exact m.sub b u h
  · obtain ⟨z1, z2⟩ := m.cel n b d' h1 h2
    exact ⟨z1, z2.mono (FLe.refl _) (fun _ _ h => h) (by rw [upd_ne (fun e => nA (by rw [← e]; exact List.mem_of_getElem? h1))])⟩
theorem tup_of {v : V} {kd : List D} {ks : List Key} (m : MemOk K F Ad M H) (x : Den K F Ad v (.tup kd)) (e : keysD kd = some ks) : ∃ c, v = .ref c ∧ H c = some (.tup (ks.map kV)) ∧ F c = some (.tup (ks.map kV)) := by
  cases x with
  | tup h r =>
    have h := h.key r e
    have z := keysD_v r e
    subst z
    exact ⟨_, rfl, m.sub _ _ h, h⟩
theorem dc_read {gd : D → EnvM → Option EnvM} {g : TG} {l : LF} {ft fk fe : EF} {js vs : List Nat} (tg : TgOk K js gd g) (hj : ∀ j ∈ js, j ∈ vs) {Q : VK} (h : tG K W (DO K) (eDcT l gd ft fk fe vs) σ H Q) :
    tDcT (tI K W false l) g (tT K WN ft) (tG K WN (DE K) fk) (tG K WN (DE K) fe) vs σ H Q := by
  obtain ⟨N0, F, Ad, M, env, m, en, r⟩ := h
  refine ⟨N0, F, Ad, M, env, m, en, ?_⟩
  unfold eDcT at r
  cases ql : l env M with
  | exc x M1 => rw [ql] at r; exact r
  | stuck => rw [ql] at r; exact r
  | ok ds M1 =>
    rw [ql, RL.bind_ok] at r
    intro J ks F1 Ad1 H1 g1 m1 it k1 k2 _ D hD
    have en1 := en.gr g1
    let Inv' : Nat → Hp → Prop := fun i H2 => i ≤ ds.length ∧ ∃ F2 Ad2 M2 vacc acc, Gr F1 Ad1 H1 F2 Ad2 H2 ∧ MemOk K F2 Ad2 M2 H2 ∧ F2 D = none ∧ D ∉ Ad2 ∧ H2 D = some (.dT vacc) ∧ DenT K F2 Ad2 vacc acc ∧
      RP K (fun c d H => W c d σ H) (DO K) F Ad H Q (dcompT gd ft fk fe (wipeE env vs) (ds.drop i) acc M2)
    refine ⟨fun i mm H2 => mm = ds.length - i ∧ Inv' i H2, ⟨_, rfl, Nat.zero_le _, F1, Ad1, M1, [], [], gr_own hD, mem_own m1 hD, m1.none hD, m1.notin hD, upd_same, .nil, by simpa using r⟩, ?_⟩
    rintro i mm H2 ⟨rfl, hi, F2, Ad2, M2, vacc, acc, g2, m2, nF, nA, hH, da, r2⟩
    have kk := KsOk.gr g2 k1 k2
    by_cases hlt : i < ds.length
    · right
      refine ⟨it.go i F2 Ad2 M2 H2 hlt g2.fle g2.pre m2 kk, fun H' => Inv' (i + 1) H', fun H' h' => ⟨_, by omega, rfl, h'⟩, fun x H3 hy => ?_⟩
      obtain ⟨d, F3, hd, g3, m3, x3⟩ := it.yld i F2 Ad2 M2 H2 x H3 hlt g2.fle g2.pre m2 kk hy
      have hdrop : ds.drop i = d :: ds.drop (i + 1) := by
        rw [List.drop_eq_getElem_cons hlt]
        rw [List.getElem?_eq_getElem hlt] at hd
        cases hd; rfl
      rw [hdrop] at r2
      unfold dcompT at r2
      cases hg : gd d (wipeE env vs) with
      | none => rw [hg] at r2; exact r2.elim
      | some env1 =>
        rw [hg] at r2
        dsimp only at r2
        have g23 := g2.trans g3
        have enw : EnvOk K N0 F3 Ad2 H3 (L2.wipe σ vs) (wipeE env vs) := (en1.gr g23).wipe vs
        refine tg.ok N0 F3 Ad2 M2 H3 _ _ x d env1 _ m3 enw x3 hg fun σ' en' hw => ⟨by rw [hw vs hj]; exact wipe_wipe vs, ?_⟩
        refine ⟨N0, F3, Ad2, M2, env1, m3, en', ?_⟩
        have hDH : ∀ {F4 Ad4 H4}, Gr F3 Ad2 H3 F4 Ad4 H4 → H4 D = some (.dT vacc) ∧ F4 D = none ∧ D ∉ Ad4 := fun {F4 Ad4 H4} g4 => by
          have e3 : H3 D = some (.dT vacc) := g3.keep D _ hH trivial nF nA
          have n3 : F3 D = none := g3.fnew D _ hH trivial nF nA
          exact ⟨g4.keep D _ e3 trivial n3 nA, g4.fnew D _ e3 trivial n3 nA, g4.notin (by rw [e3]; simp) nA⟩
        cases ht : ft env1 M2 with
        | exc x M3 => rw [ht] at r2; exact r2.elim
        | stuck => rw [ht] at r2; exact r2.elim
        | ok b M3 =>
          rw [ht] at r2
          cases b with
          | bl b =>
            intro F4 Ad4 H4 g4 m4
            have en4 := en'.gr g4
            cases b with
            | true =>
              dsimp only at r2
              rw [if_pos rfl]
              refine ⟨N0, F4, Ad4, M3, env1, m4, en4, ?_⟩
              cases hk : fk env1 M3 with
              | exc x M5 => rw [hk] at r2; exact r2.elim
              | stuck => rw [hk] at r2; exact r2.elim
              | ok kd M5 =>
                rw [hk] at r2
                cases kd with
                | tup kd =>
                  dsimp only at r2
                  cases hks : keysD kd with
                  | none => rw [hks] at r2; exact r2.elim
                  | some ks' =>
                    rw [hks] at r2
                    dsimp only at r2
                    intro v F5 Ad5 H5 g5 m5 x5
                    refine ⟨N0, F5, Ad5, M5, env1, m5, en4.gr g5, ?_⟩
                    obtain ⟨c, ev, ec, eF⟩ := tup_of m5 x5 hks
                    cases he : fe env1 M5 with
                    | exc x M6 => rw [he] at r2; exact r2.elim
                    | stuck => rw [he] at r2; exact r2.elim
                    | ok y M6 =>
                      rw [he] at r2
                      dsimp only at r2
                      intro v6 F6 Ad6 H6 g6 m6 x6
                      have g36 := g4.trans (g5.trans g6)
                      obtain ⟨hD6, nF6, nA6⟩ := hDH g36
                      split at r2
                      · rename_i hsz
                        have gacc := g3.trans g36
                        have da6 := da.mono gacc.fle gacc.pre
                        have cH : H6 c = some (.tup (ks'.map kV)) := m6.sub _ _ (nrm_tup (g6.fle c (.tup _) (by rw [eF]; rfl)))
                        obtain ⟨gw, mw⟩ := wr_fresh (o := .dT (putK vacc ks' v6)) (g23.trans g36) m6 hD nF6 nA6 hD6 trivial
                        exact ⟨vacc, ks', c, ev, cH, hD6, by rw [da.length]; exact hsz, by omega, F6, Ad6, M6, _, _, gw, mw, nF6, nA6, upd_same, da6.put x6, r2⟩
                      · exact r2.elim
                | _ => exact r2.elim
            | false =>
              dsimp only at r2
              rw [if_neg (by decide)]
              obtain ⟨hD4, nF4, nA4⟩ := hDH g4
              have g24 := g3.trans g4
              exact ⟨by omega, F4, Ad4, M3, vacc, acc, g2.trans g24, m4, nF4, nA4, hD4, da.mono g24.fle g24.pre, r2⟩
          | _ => exact r2.elim
    · left
      have hi2 : i = ds.length := by omega
      subst hi2
      refine ⟨it.stop F2 Ad2 M2 H2 g2.fle g2.pre m2 kk, ?_⟩
      rw [List.drop_length] at r2
      have hD0 : H D = none := by
        cases qq : H D with
        | none => rfl
        | some o => exact absurd hD (g1.alive D (by rw [qq]; simp))
      exact r2 (.ref D) F2 Ad2 H2 (g1.trans g2) m2 ⟨D, rfl, nF, nA, hD0, .dT hH da⟩
theorem so_dcT {kx vx tg iter : Expr} {ifs : List Expr} {scope : Scope} {own : List (Str × Nat)} {pos : Pos} {gd : D → EnvM → Option EnvM} {g : TG} {l : LF} {ft fk fe : EF} {js : List Nat} (hu : X.A.units + 1 < cLine) (hc : X.calm = true) (hN : X.N.Nodup) (hi : SI X W false tg iter l) (ok : BlkOk X.N X.env.scope scope own)
    (tgo : TgOk X.K js gd g) (hj : ∀ j ∈ js, j ∈ own.map (·.2))
    (hg : ∀ (s : Shared) (H : Hp) (C : Addr) (cl : List (Str × Addr)) (fp : List Addr), PG (X.blk s H scope (compEnvC scope cl C X.env) fp) tg g) (ht : ∀ (s : Shared) (H : Hp) (C : Addr) (cl : List (Str × Addr)) (fp : List Addr), STs (X.blk s H scope (compEnvC scope cl C X.env) fp) WN ifs ft)
    (hk : ∀ (s : Shared) (H : Hp) (C : Addr) (cl : List (Str × Addr)) (fp : List Addr), SE (X.blk s H scope (compEnvC scope cl C X.env) fp) WN kx fk)
    (he : ∀ (s : Shared) (H : Hp) (C : Addr) (cl : List (Str × Addr)) (fp : List Addr), SE (X.blk s H scope (compEnvC scope cl C X.env) fp) WN vx fe) (hs : ∀ x, foldedSetIterable iter X.env x = pure x := by intro _; rfl) :
    SO X W (.DictComp kx vx [⟨tg, iter, ifs, 0⟩] scope pos) (eDcT l gd ft fk fe (own.map (·.2))) :=
  PE.imp (pe_dcT hu hc hN hi ok hg ht hk he hs) fun σ H Q h => dc_read tgo hj h
end
end MP
set_option maxRecDepth 100000
set_option maxHeartbeats 1000000
namespace MP
open PySem PySem.Spec PyProof.Rows L2
variable [TabsP] [ThkP]
abbrev GrE (N0 : Ent) (F : Hp) (Ad : List Addr) (H : Hp) : Prop := Gr N0.fz N0.ad N0.hp F Ad H
def RPS (K : PySem.W.Frag) (W : WX) (DR : DRel) (D : Ends) (N0 : Ent) (F : Hp) (Ad : List Addr) : RS → Prop
  | .next env M => ∀ σ F' Ad' H', GrE N0 F' Ad' H' → FLe F F' → Pre Ad Ad' → MemOk K F' Ad' M H' → EnvOk K N0 F' Ad' H' σ env → D.nx σ H'
  | .ret d M => ∀ v F' Ad' H', GrE N0 F' Ad' H' → MemOk K F' Ad' M H' → DR N0.hp F' Ad' H' v d → D.rt v H'
  | .brk env M => ∀ σ F' Ad' H', GrE N0 F' Ad' H' → FLe F F' → Pre Ad Ad' → MemOk K F' Ad' M H' → EnvOk K N0 F' Ad' H' σ env → D.bk σ H'
  | .cont env M => ∀ σ F' Ad' H', GrE N0 F' Ad' H' → FLe F F' → Pre Ad Ad' → MemOk K F' Ad' M H' → EnvOk K N0 F' Ad' H' σ env → D.ct σ H'
  | .exc x env M => ∀ cls dx σ F' Ad' H', GrE N0 F' Ad' H' → FLe F F' → Pre Ad Ad' → MemOk K F' Ad' M H' → EnvOk K N0 F' Ad' H' σ env → XOk K F' Ad' H' x cls dx → W cls dx σ H'
  | .stuck => False
def tS (K : PySem.W.Frag) (W : WX) (DR : DRel) (b : SF) : TS := fun D σ H => ∃ N0 F Ad M env, GrE N0 F Ad H ∧ MemOk K F Ad M H ∧ EnvOk K N0 F Ad H σ env ∧ RPS K W DR D N0 F Ad (b env M)
abbrev SS (X : Cx) (W : WX) (DR : DRel) (st : Stmt) (b : SF) : Prop := PS X st (tS X.K W DR b)
abbrev SSs (X : Cx) (W : WX) (DR : DRel) (st : List Stmt) (b : SF) : Prop := PSs X st (tS X.K W DR b)
def bSeq (a b : SF) : SF := fun env M => match a env M with
  | .next env M => b env M
  | r => r
def bNext : SF := fun env M => .next env M
section
variable {X : Cx} {W : WX} {K : PySem.W.Frag} {DR : DRel} {D : Ends} {N0 : Ent} {F F1 H H1 : Hp} {Ad Ad1 : List Addr} {M : List MP.D} {env : EnvM} {σ : St} {e tg iter : Expr} {f : EF} {st : Stmt} {rest p q : List Stmt} {b b' : SF} {pos : Pos} {l : LF}
theorem Pre.trans {A B C : List Addr} (h : Pre A B) (h' : Pre B C) : Pre A C := fun n a q => h' n a (h n a q)
theorem RPS.gr {r : RS} (h : RPS K W DR D N0 F Ad r) (l : FLe F F1) (p : Pre Ad Ad1) : RPS K W DR D N0 F1 Ad1 r := by
  cases r with
  | next env M => exact fun σ F' Ad' H' g l' p' => h σ F' Ad' H' g (l.trans l') (p.trans p')
  | ret d M => exact h
  | brk env M => exact fun σ F' Ad' H' g l' p' => h σ F' Ad' H' g (l.trans l') (p.trans p')
  | cont env M => exact fun σ F' Ad' H' g l' p' => h σ F' Ad' H' g (l.trans l') (p.trans p')
  | exc x env M => exact fun cls dx σ F' Ad' H' g l' p' => h cls dx σ F' Ad' H' g (l.trans l') (p.trans p')
  | stuck => exact h
theorem ss_nil : SSs X W DR [] bNext := PSs.imp pss_nil fun D σ H ⟨N0, F, Ad, M, env, g, m, en, r⟩ => r σ F Ad H g (FLe.refl F) pre_refl m en
theorem tS_seq {t : SF} (h : tS K W DR (bSeq b t) D σ H) : tS K W DR b { D with nx := tS K W DR t D } σ H := by
  obtain ⟨N0, F, Ad, M, env, g, m, en, r⟩ := h
  refine ⟨N0, F, Ad, M, env, g, m, en, ?_⟩
  unfold bSeq at r
  cases q : b env M with
  | next env1 M1 => rw [q] at r; exact fun σ' F' Ad' H' g' l' p' m' en' => ⟨N0, F', Ad', M1, env1, g', m', en', RPS.gr r l' p'⟩
  | ret d M1 => rw [q] at r; exact r
  | brk env1 M1 => rw [q] at r; exact r
  | cont env1 M1 => rw [q] at r; exact r
  | exc x env1 M1 => rw [q] at r; exact r
  | stuck => rw [q] at r; exact r
theorem ss_cons (h : SS X W DR st b) (h' : SSs X W DR rest b') : SSs X W DR (st :: rest) (bSeq b b') := PSs.imp (pss_cons h h') fun D σ H x => tS_seq x
theorem ss_one (h : SS X W DR st b) : SSs X W DR [st] b := pss_one h
theorem tE_of {DE' : DRel} {k : MP.D → List MP.D → RS} {Q : VK} (g : GrE N0 F Ad H) (m : MemOk K F Ad M H) (en : EnvOk K N0 F Ad H σ env)
    (r : RPS K W DR D N0 F Ad ((f env M).bindS env k)) (hq : ∀ d M1 v F1 Ad1 H1, Gr F Ad H F1 Ad1 H1 → GrE N0 F1 Ad1 H1 → MemOk K F1 Ad1 M1 H1 → EnvOk K N0 F1 Ad1 H1 σ env → DE' H F1 Ad1 H1 v d → RPS K W DR D N0 F1 Ad1 (k d M1) → Q v H1) : tG K W DE' f σ H Q := by
  refine ⟨N0, F, Ad, M, env, m, en, ?_⟩
  unfold MP.R.bindS at r
  cases q : f env M with
  | ok d M1 => rw [q] at r; exact fun v F' Ad' H' g' m' x => hq d M1 v F' Ad' H' g' (g.trans g') m' (en.gr g') x (RPS.gr r g'.fle g'.pre)
  | exc x M1 => rw [q] at r; exact fun cls dx F' Ad' H' g' m' z => r cls dx σ F' Ad' H' (g.trans g') g'.fle g'.pre m' (en.gr g') z
  | stuck => rw [q] at r; exact r
theorem tT_of {k : MP.D → List MP.D → RS} {Q : Bool → Hp → Prop} (g : GrE N0 F Ad H) (m : MemOk K F Ad M H) (en : EnvOk K N0 F Ad H σ env)
    (r : RPS K W DR D N0 F Ad ((f env M).bindS env k)) (hn : ∀ d M1, (∀ c, d ≠ .bl c) → k d M1 = .stuck) (hq : ∀ c M1 F1 Ad1 H1, GrE N0 F1 Ad1 H1 → MemOk K F1 Ad1 M1 H1 → EnvOk K N0 F1 Ad1 H1 σ env → RPS K W DR D N0 F1 Ad1 (k (.bl c) M1) → Q c H1) : tT K W f σ H Q := by
  refine ⟨N0, F, Ad, M, env, m, en, ?_⟩
  unfold MP.R.bindS at r
  cases q : f env M with
  | ok d M1 =>
    rw [q] at r
    cases d with
    | bl c => exact fun F' Ad' H' g' m' => hq c M1 F' Ad' H' (g.trans g') m' (en.gr g') (RPS.gr r g'.fle g'.pre)
    | _ => dsimp only at r; rw [hn _ M1] at r; exact r.elim; intro c z; cases z
  | exc x M1 => rw [q] at r; exact fun cls dx F' Ad' H' g' m' z => r cls dx σ F' Ad' H' (g.trans g') g'.fle g'.pre m' (en.gr g') z
  | stuck => rw [q] at r; exact r
def bPass : SF := fun env M => .next env M
def bBrk : SF := fun env M => .brk env M
def bCont : SF := fun env M => .cont env M
def bStuck : SF := fun _ _ => .stuck
theorem ss_never : SS X W DR st bStuck := PS.imp ps_never fun D σ H ⟨N0, F, Ad, M, env, g, m, en, r⟩ => r
def bRet (f : EF) : SF := fun env M => (f env M).bindS env fun d M1 => .ret d M1
theorem ss_ret (dr : DRok DR) (h : PE X e (tG X.K W DR f)) : SS X W DR (.Return (some e) pos) (bRet f) := PS.imp (ps_ret h) fun D σ H ⟨N0, F, Ad, M, env, g, m, en, r⟩ =>
  tE_of g m en r fun d M1 v F1 Ad1 H1 g1 ge m1 en1 x1 r1 => r1 v F1 Ad1 H1 ge m1 (dr _ _ _ _ _ _ _ _ _ _ _ g x1)
def bRetN : SF := fun _ M => .ret .non M
def bExpr (f : EF) : SF := fun env M => (f env M).bindS env fun _ M1 => .next env M1
theorem ss_expr {DR' : DRel} (h : PE X e (tG X.K W DR' f)) (hs : swapsWith e none pos.line X.env = pure false := by rfl) : SS X W DR (.Expr e pos) (bExpr f) := PS.imp (ps_expr h hs) fun D σ H ⟨N0, F, Ad, M, env, g, m, en, r⟩ =>
  tE_of g m en r fun d M1 v F1 Ad1 H1 g1 ge m1 en1 x1 r1 => r1 σ F1 Ad1 H1 ge (FLe.refl _) pre_refl m1 en1
def bIf (f : EF) (a b : SF) : SF := fun env M => (f env M).bindS env fun d M1 => match d with
  | .bl true => a env M1
  | .bl false => b env M1
  | _ => .stuck
theorem ss_if {c : Expr} (hc : ST X W c f) (ha : SSs X W DR p b) (hb : SSs X W DR q b') : SS X W DR (.If c p q pos) (bIf f b b') := PS.imp (ps_if hc ha hb) fun D σ H ⟨N0, F, Ad, M, env, g, m, en, r⟩ =>
  tT_of g m en r (fun d M1 hd => by cases d <;> first | rfl | exact absurd rfl (hd _)) fun c M1 F1 Ad1 H1 ge m1 en1 r1 => by
    cases c with
    | true => exact ⟨N0, F1, Ad1, M1, env, ge, m1, en1, r1⟩
    | false => exact ⟨N0, F1, Ad1, M1, env, ge, m1, en1, r1⟩
def bSet (j : Nat) (f : EF) : SF := fun env M => (f env M).bindS env fun d M1 => match gN j d env with
  | some env1 => .next env1 M1
  | none => .stuck
theorem ss_asg {gd : MP.D → EnvM → Option EnvM} {g : TG} {js : List Nat} (tgo : TgOk X.K js gd g) {t : TS} (h : PS X st t) (ht : ∀ D σ H, tAsg (tG X.K W (DE X.K) f) g D σ H → t D σ H) : SS X W DR st (fun env M => (f env M).bindS env fun d M1 => match gd d env with
  | some env1 => .next env1 M1
  | none => .stuck) := PS.imp h fun D σ H ⟨N0, F, Ad, M, env, ge0, m, en, r⟩ => ht D σ H (tE_of ge0 m en r fun d M1 v F1 Ad1 H1 g1 ge m1 en1 x1 r1 => by
    cases hd : gd d env with
    | none => rw [hd] at r1; exact r1.elim
    | some env1 =>
      rw [hd] at r1
      exact tgo.ok N0 F1 Ad1 M1 H1 σ env v d env1 _ m1 en1 x1 hd fun σ' en' _ => r1 σ' F1 Ad1 H1 ge (FLe.refl _) pre_refl m1 en')
theorem ss_set {i : Nat} {x : Str} {pos' : Pos} (hN : X.N.Nodup) (hi : X.N[i]? = some x) (hx : Loc X.env.scope x) (he : SE X W e f) (hs : swapsWith e (some (.Name x pos')) pos.line X.env = pure false := by rfl) (hf : X.fn x = true ∨ X.env.scope.names.lookup x = some .local := by first | exact .inl rfl | exact .inr rfl | assumption) :
    SS X W DR (.Assign [.Name x pos'] e pos) (bSet i f) := ss_asg tg_n (ps_set hN hi hx he hs hf) fun D σ H h => h
def bSetT (js : List Nat) (f : EF) : SF := fun env M => (f env M).bindS env fun d M1 => match gT js d env with
  | some env1 => .next env1 M1
  | none => .stuck
theorem ss_setT {js : List Nat} {n : Nat} {g : TGs} (tgo : TgsOk X.K js g) (hn : js.length = n) (hg : PG X tg (gTup X.K n g)) (he : SE X W e f) (hs : swapsWithSole [tg] e pos.line X.env = pure false := by rfl) (hw : swappedStores [tg] e X.env = pure none := by rfl)
    (h1 : (assignEach [tg] X.env).map (·.2) = [assign tg X.env] := by rfl) : SS X W DR (.Assign [tg] e pos) (bSetT js f) := ss_asg (tg_t tgo hn) (ps_asg he hg hs hw h1) fun D σ H h => h
def oN (j : Nat) (d : MP.D) (env : EnvM) : Option EnvM := match env[j]? with
  | some (.slf _) => none
  | some _ => some (env.set j (.own d))
  | none => none
def bOwn (j : Nat) (f : EF) : SF := fun env M => (f env M).bindS env fun d M1 => match oN j d env with
  | some env1 => .next env1 M1
  | none => .stuck
theorem EnvOk.setOwn {j : Nat} {v : V} {d : MP.D} {env' : EnvM} (en0 : EnvOk K N0 F Ad H σ env) (g0 : GrE N0 F Ad H) (g1 : Gr F Ad H F1 Ad1 H1) (x : DO K H F1 Ad1 H1 v d) (h : oN j d env = some env') : EnvOk K N0 F1 Ad1 H1 (σ.set j (some v)) env' := by
  have hlt : j < env.length ∧ env' = env.set j (.own d) ∧ ∀ e, env[j]? ≠ some (.slf e) := by
    unfold oN at h
    split at h
    · cases h
    · rename_i b hb hn
      cases h
      exact ⟨(List.getElem?_eq_some_iff.mp hn).1, rfl, fun e z => hb e (by rw [hn] at z; exact Option.some.inj z)⟩
    · cases h
  obtain ⟨hl, rfl, hns⟩ := hlt
  obtain ⟨a, rfl, h1, h2, h3, h4⟩ := x
  have en := en0.gr g1
  have n0 : N0.hp a = none := by
    cases qq : N0.hp a with
    | none => rfl
    | some o => exact absurd h3 (g0.alive a (by rw [qq]; simp))
  have ha0 : ∀ (i : Nat) (d2 : MP.D), env[i]? = some (B.own d2) → σ[i]? ≠ some (some (V.ref a)) := fun i d2 hi z => by
    obtain ⟨c, c1, c2, c3, c4, c5⟩ := en0.own i d2 hi
    rw [z] at c1
    have : c = a := by
      have q := Option.some.inj (Option.some.inj c1)
      cases q; rfl
    obtain ⟨o, ho, _⟩ := c5.obj
    rw [this, h3] at ho; cases ho
  refine ⟨by simp [en.len], fun i d' hi => ?_, fun i d' hi => ?_, fun i k d1 d2 c q1 q2 q3 q4 => ?_, fun i d' hi => ?_, fun i d' hi => ?_, fun i hi => ?_⟩
  · by_cases e : j = i
    · subst e; rw [List.getElem?_set_self hl] at hi; cases hi
    · rw [List.getElem?_set_ne e] at hi ⊢; exact en.shr i d' hi
  · by_cases e : j = i
    · subst e
      rw [List.getElem?_set_self hl] at hi; cases hi
      exact ⟨a, by rw [List.getElem?_set_self (by rw [← en.len]; exact hl)], h1, h2, n0, h4⟩
    · rw [List.getElem?_set_ne e] at hi ⊢; exact en.own i d' hi
  · by_cases e1 : j = i
    · subst e1
      rw [List.getElem?_set_self (by rw [← en.len]; exact hl)] at q3
      cases q3
      by_cases e2 : j = k
      · exact e2
      · rw [List.getElem?_set_ne e2] at q2 q4
        exact absurd q4 (ha0 k d2 q2)
    · rw [List.getElem?_set_ne e1] at q1 q3
      by_cases e2 : j = k
      · subst e2
        rw [List.getElem?_set_self (by rw [← en.len]; exact hl)] at q4
        cases q4
        exact absurd q3 (ha0 i d1 q1)
      · rw [List.getElem?_set_ne e2] at q2 q4
        exact en.dis i k d1 d2 c q1 q2 q3 q4
  · have e : j ≠ i := fun e => by subst e; rw [List.getElem?_set_self hl] at hi; cases hi
    rw [List.getElem?_set_ne e] at hi ⊢
    obtain ⟨z0, z1, z2, z3, z4, z5, z6⟩ := en.slf i d' hi
    refine ⟨z0, z1, z2, z3, z4, z5, fun k d2 hk z => ?_⟩
    by_cases e2 : j = k
    · subst e2
      rw [List.getElem?_set_self (by rw [← en.len]; exact hl)] at z
      have : a = N0.me := by
        have q := Option.some.inj (Option.some.inj z)
        cases q; rfl
      obtain ⟨_, _, _, _, _, c5, _⟩ := en0.slf i d' hi
      obtain ⟨o, ho, _⟩ := c5.obj
      rw [← this, h3] at ho; cases ho
    · rw [List.getElem?_set_ne e2] at hk z
      exact z6 k d2 hk z
  · refine en0.parM g1.fle (fun x dd h1' h2' h3' h4' h5' => ⟨g1.fnew x _ h4'.obj.choose_spec.1 h4'.obj.choose_spec.2 h1' h2', g1.notin (by rw [h4'.obj.choose_spec.1]; simp) h2', h4'.gr g1 h1' h2', fun z => ?_⟩) (par_set (by intro _ z; cases z)) i d' hi
    have nxa : x ≠ a := fun e => by obtain ⟨o, ho, _⟩ := h4'.obj; rw [e, h3] at ho; cases ho
    rcases z with ⟨k, e, z1, z2⟩ | ⟨k, e, z1, z2⟩
    · by_cases e2 : j = k
      · subst e2
        rw [List.getElem?_set_self (by rw [← en.len]; exact hl)] at z2
        exact nxa (by have q := Option.some.inj (Option.some.inj z2); cases q; rfl)
      · rw [List.getElem?_set_ne e2] at z1 z2
        exact h5' (.inl ⟨k, e, z1, z2⟩)
    · by_cases e2 : j = k
      · subst e2
        rw [List.getElem?_set_self hl] at z1; cases z1
      · rw [List.getElem?_set_ne e2] at z1
        exact h5' (.inr ⟨k, e, z1, z2⟩)
  · have e : j ≠ i := fun e => by subst e; rw [List.getElem?_set_self hl] at hi; cases hi
    rw [List.getElem?_set_ne e] at hi ⊢
    exact en.raw i hi
theorem ss_asgO {i : Nat} {t : TS} (h : PS X st t) (ht : ∀ D σ H, tAsg (tG X.K W (DO X.K) f) (gName i) D σ H → t D σ H) : SS X W DR st (bOwn i f) := PS.imp h fun D σ H ⟨N0, F, Ad, M, env, ge0, m, en, r⟩ => ht D σ H (tE_of ge0 m en r fun d M1 v F1 Ad1 H1 g1 ge m1 en1 x1 r1 => by
    cases hd : oN i d env with
    | none => rw [hd] at r1; exact r1.elim
    | some env1 =>
      rw [hd] at r1
      exact r1 _ F1 Ad1 H1 ge (FLe.refl _) pre_refl m1 (en.setOwn ge0 g1 x1 hd))
theorem ss_own {i : Nat} {x : Str} {pos' : Pos} (hN : X.N.Nodup) (hi : X.N[i]? = some x) (hx : Loc X.env.scope x) (he : SO X W e f) (hs : swapsWith e (some (.Name x pos')) pos.line X.env = pure false := by rfl) (hf : X.fn x = true ∨ X.env.scope.names.lookup x = some .local := by first | exact .inl rfl | exact .inr rfl | assumption) :
    SS X W DR (.Assign [.Name x pos'] e pos) (bOwn i f) := ss_asgO (ps_set hN hi hx he hs hf) fun D σ H h => h
theorem ss_lc {i : Nat} {y : Str} {py : Pos} {elt : Expr} {ifs : List Expr} {scope : Scope} {own : List (Str × Nat)} {spos : Pos} {gd : MP.D → EnvM → Option EnvM} {g : TG} {ft fe : EF} {js : List Nat} (hc : X.calm = true) (hN : X.N.Nodup) (hy : X.N[i]? = some y) (hyl : X.env.scope.names.lookup y = some .local)
    (hsw : swapsWith (.ListComp elt [⟨tg, iter, ifs, 0⟩] scope pos) (some (.Name y py)) spos.line X.env = pure true) (hi : SI X W false tg iter l) (ok : BlkOk X.N X.env.scope scope own)
    (tgo : TgOk X.K js gd g) (hj : ∀ j ∈ js, j ∈ own.map (·.2))
    (hg : ∀ (s : Shared) (H : Hp) (C : Addr) (cl : List (Str × Addr)) (fp : List Addr), PG (X.blk s H scope (compEnvC scope cl C X.env) fp) tg g) (ht : ∀ (s : Shared) (H : Hp) (C : Addr) (cl : List (Str × Addr)) (fp : List Addr), STs (X.blk s H scope (compEnvC scope cl C X.env) fp) WN ifs ft)
    (he : ∀ (s : Shared) (H : Hp) (C : Addr) (cl : List (Str × Addr)) (fp : List Addr), SE (X.blk s H scope (compEnvC scope cl C X.env) fp) WN elt fe) (hs : ∀ x, foldedSetIterable iter X.env x = pure x := by intro _; rfl) :
    SS X W DR (.Assign [.Name y py] (.ListComp elt [⟨tg, iter, ifs, 0⟩] scope pos) spos) (bOwn i (eComp l gd ft fe (own.map (·.2)))) :=
  ss_asgO (ps_setLc hc hN hy hyl hsw hi ok hg ht he hs) fun D σ H h => lc_read (Wb := WN) tgo hj h
theorem wr_own {a : Addr} {o' : HO} {d d' : MP.D} {i : Nat} (g : GrE N0 F Ad H) (m : MemOk K F Ad M H) (en : EnvOk K N0 F Ad H σ env) (hi : env[i]? = some (.own d)) (ha : σ[i]? = some (some (.ref a))) (r : Root K F Ad (upd H a o') a d') :
    GrE N0 F Ad (upd H a o') ∧ MemOk K F Ad M (upd H a o') ∧ EnvOk K N0 F Ad (upd H a o') σ (env.set i (.own d')) := by
  obtain ⟨c, c1, c2, c3, c4, c5⟩ := en.own i d hi
  rw [ha] at c1
  cases c1
  have hl : i < env.length := (List.getElem?_eq_some_iff.mp hi).1
  refine ⟨⟨g.fle, g.fnew, g.apre, fun b o hb ro hf hn => ?_, fun b hb => ?_⟩, ⟨fun b u hb => ?_, m.len, m.nd, fun n b e h1 h2 => ?_, (let ⟨_, hu, ru⟩ := c5.obj; tabs_root m.tab hu ru)⟩, ⟨by simp [en.len], fun j e hj => ?_, fun j e hj => ?_, fun j k e1 e2 b h1 h2 h3 h4 => ?_, fun j e hj => ?_, en.parM (FLe.refl _) (fun x dd h1 h2 h3 h4 h5 => ⟨h1, h2, h4.mono (FLe.refl _) (fun _ _ h => h) (upd_ne fun z => h5 (z ▸ .inl ⟨i, d, hi, ha⟩)), fun z => h5 (z.setE ⟨.inr ⟨d, hi⟩, .inl (by intro _ z; cases z)⟩)⟩) (par_setE (by intro _ z; cases z)), fun j hj => ?_⟩⟩
  · rw [upd_ne (fun e => by rw [e, c4] at hb; cases hb)]; exact g.keep b o hb ro hf hn
  · by_cases e : b = a
    · subst e; rw [upd_same]; simp
    · rw [upd_ne e]; exact g.alive b hb
  · rw [upd_ne (fun e => by rw [e, c2] at hb; cases hb)]; exact m.sub b u hb
  · obtain ⟨z1, z2⟩ := m.cel n b e h1 h2
    exact ⟨z1, z2.mono (FLe.refl _) (fun _ _ h => h) (by rw [upd_ne (fun e => c3 (by rw [← e]; exact List.mem_of_getElem? h1))])⟩
  · have e1 : i ≠ j := fun e1 => by subst e1; rw [List.getElem?_set_self hl] at hj; cases hj
    rw [List.getElem?_set_ne e1] at hj; exact en.shr j e hj
  · by_cases e1 : i = j
    · subst e1
      rw [List.getElem?_set_self hl] at hj; cases hj
      exact ⟨a, ha, c2, c3, c4, r⟩
    · rw [List.getElem?_set_ne e1] at hj
      obtain ⟨b, b1, b2, b3, b4, b5⟩ := en.own j e hj
      have ne : b ≠ a := fun z => by subst z; exact e1 (en.dis i j d e b hi hj ha b1)
      exact ⟨b, b1, b2, b3, b4, b5.mono (FLe.refl _) (fun _ _ h => h) (by rw [upd_ne ne])⟩
  · have q1 : ∃ e1', env[j]? = some (.own e1') := by
      by_cases e : i = j
      · subst e; exact ⟨_, hi⟩
      · rw [List.getElem?_set_ne e] at h1; exact ⟨_, h1⟩
    have q2 : ∃ e2', env[k]? = some (.own e2') := by
      by_cases e : i = k
      · subst e; exact ⟨_, hi⟩
      · rw [List.getElem?_set_ne e] at h2; exact ⟨_, h2⟩
    obtain ⟨_, q1⟩ := q1
    obtain ⟨_, q2⟩ := q2
    exact en.dis j k _ _ b q1 q2 h3 h4
  · have e1 : i ≠ j := fun e1 => by subst e1; rw [List.getElem?_set_self hl] at hj; cases hj
    rw [List.getElem?_set_ne e1] at hj
    obtain ⟨z0, z1, z2, z3, z4, z5, z6⟩ := en.slf j e hj
    have ne : N0.me ≠ a := fun z => z6 i d hi (by rw [ha, z])
    refine ⟨z0, z1, z2, z3, z4, z5.mono (FLe.refl _) (fun _ _ h => h) (by rw [upd_ne ne]), fun k d2 hk => ?_⟩
    by_cases e2 : i = k
    · subst e2; exact z6 i d hi
    · rw [List.getElem?_set_ne e2] at hk; exact z6 k d2 hk
  · have e1 : i ≠ j := fun e1 => by subst e1; rw [List.getElem?_set_self hl] at hj; cases hj
    rw [List.getElem?_set_ne e1] at hj; exact ⟨(en.raw j hj).1, (en.raw j hj).2.1, ⟨g.fle, g.fnew, g.apre, fun b o hb ro hf hn => (by rw [upd_ne (fun e => by rw [e, c4] at hb; cases hb)]; exact g.keep b o hb ro hf hn), fun b hb => (by
      by_cases e : b = a
      · subst e; rw [upd_same]; simp
      · rw [upd_ne e]; exact g.alive b hb)⟩⟩
theorem wr_slf {o' : HO} {d d' : MP.D} {i : Nat} (g : GrE N0 F Ad H) (m : MemOk K F Ad M H) (en : EnvOk K N0 F Ad H σ env) (hi : env[i]? = some (.slf d)) (r : Root K F Ad (upd H N0.me o') N0.me d') :
    GrE N0 F Ad (upd H N0.me o') ∧ MemOk K F Ad M (upd H N0.me o') ∧ EnvOk K N0 F Ad (upd H N0.me o') σ (env.set i (.slf d')) := by
  obtain ⟨c0, c1, c2, c3, c4, c5, c6⟩ := en.slf i d hi
  have hl : i < env.length := (List.getElem?_eq_some_iff.mp hi).1
  refine ⟨⟨g.fle, g.fnew, g.apre, fun b o hb ro hf hn => ?_, fun b hb => ?_⟩, ⟨fun b u hb => ?_, m.len, m.nd, fun n b e h1 h2 => ?_, (let ⟨_, hu, ru⟩ := c5.obj; tabs_root m.tab hu ru)⟩, ⟨by simp [en.len], fun j e hj => ?_, fun j e hj => ?_, fun j k e1 e2 b h1 h2 h3 h4 => ?_, fun j e hj => ?_, en.parM (FLe.refl _) (fun x dd h1 h2 h3 h4 h5 => ⟨h1, h2, h4.mono (FLe.refl _) (fun _ _ h => h) (upd_ne fun z => h5 (z ▸ .inr ⟨i, d, hi, rfl⟩)), fun z => h5 (z.setE ⟨.inl (by intro _ z; cases z), .inr ⟨d, hi⟩⟩)⟩) (par_setE (by intro _ z; cases z)), fun j hj => ?_⟩⟩
  · rw [upd_ne (fun e => by rw [e, c4] at hb; cases hb)]; exact g.keep b o hb ro hf hn
  · by_cases e : b = N0.me
    · subst e; rw [upd_same]; simp
    · rw [upd_ne e]; exact g.alive b hb
  · rw [upd_ne (fun e => by rw [e, c2] at hb; cases hb)]; exact m.sub b u hb
  · obtain ⟨z1, z2⟩ := m.cel n b e h1 h2
    exact ⟨z1, z2.mono (FLe.refl _) (fun _ _ h => h) (by rw [upd_ne (fun e => c3 (by rw [← e]; exact List.mem_of_getElem? h1))])⟩
  · have e1 : i ≠ j := fun e1 => by subst e1; rw [List.getElem?_set_self hl] at hj; cases hj
    rw [List.getElem?_set_ne e1] at hj; exact en.shr j e hj
  · have e1 : i ≠ j := fun e1 => by subst e1; rw [List.getElem?_set_self hl] at hj; cases hj
    rw [List.getElem?_set_ne e1] at hj
    obtain ⟨b, b1, b2, b3, b4, b5⟩ := en.own j e hj
    have ne : b ≠ N0.me := fun z => c6 j e hj (by rw [b1, z])
    exact ⟨b, b1, b2, b3, b4, b5.mono (FLe.refl _) (fun _ _ h => h) (by rw [upd_ne ne])⟩
  · have e1' : i ≠ j := fun e1 => by subst e1; rw [List.getElem?_set_self hl] at h1; cases h1
    have e2' : i ≠ k := fun e1 => by subst e1; rw [List.getElem?_set_self hl] at h2; cases h2
    rw [List.getElem?_set_ne e1'] at h1
    rw [List.getElem?_set_ne e2'] at h2
    exact en.dis j k _ _ b h1 h2 h3 h4
  · by_cases e1 : i = j
    · subst e1
      rw [List.getElem?_set_self hl] at hj; cases hj
      refine ⟨c0, c1, c2, c3, c4, r, fun k d2 hk => ?_⟩
      by_cases e2 : i = k
      · subst e2; rw [List.getElem?_set_self hl] at hk; cases hk
      · rw [List.getElem?_set_ne e2] at hk; exact c6 k d2 hk
    · rw [List.getElem?_set_ne e1] at hj
      obtain ⟨z0, _⟩ := en.slf j e hj
      exact absurd (c0.trans z0.symm) e1
  · have e1 : i ≠ j := fun e1 => by subst e1; rw [List.getElem?_set_self hl] at hj; cases hj
    rw [List.getElem?_set_ne e1] at hj; exact ⟨(en.raw j hj).1, (en.raw j hj).2.1, ⟨g.fle, g.fnew, g.apre, fun b o hb ro hf hn => (by rw [upd_ne (fun e => by rw [e, c4] at hb; cases hb)]; exact g.keep b o hb ro hf hn), fun b hb => (by
      by_cases e : b = N0.me
      · subst e; rw [upd_same]; simp
      · rw [upd_ne e]; exact g.alive b hb)⟩⟩
theorem wr_cel {a : Addr} {n : Nat} {o' : HO} {d' : MP.D} (g : GrE N0 F Ad H) (m : MemOk K F Ad M H) (en : EnvOk K N0 F Ad H σ env) (hn : Ad[n]? = some a) (r : Root K F Ad (upd H a o') a d') (hg : ∀ b o, N0.hp b = some o → b ∉ N0.ad → b ≠ a) :
    GrE N0 F Ad (upd H a o') ∧ MemOk K F Ad (M.set n d') (upd H a o') ∧ EnvOk K N0 F Ad (upd H a o') σ env := by
  have hF : F a = none := by
    have hlt : n < M.length := by rw [← m.len]; exact (List.getElem?_eq_some_iff.mp hn).1
    exact (m.cel n a _ hn (List.getElem?_eq_getElem hlt)).1
  refine ⟨⟨g.fle, g.fnew, g.apre, fun b o hb ro hf hna => ?_, fun b hb => ?_⟩, ⟨fun b u hb => ?_, by rw [m.len]; simp, m.nd, fun k b e h1 h2 => ?_, (let ⟨_, hu, ru⟩ := (m.cel n a _ hn (List.getElem?_eq_getElem (by rw [← m.len]; exact (List.getElem?_eq_some_iff.mp hn).1))).2.obj; tabs_root m.tab hu ru)⟩, ⟨en.len, fun j e hj => en.shr j e hj, fun j e hj => ?_, en.dis, fun j e hj => ?_, en.parM (FLe.refl _) (fun x dd h1 h2 h3 h4 h5 => ⟨h1, h2, h4.mono (FLe.refl _) (fun _ _ h => h) (upd_ne fun z => h2 (z ▸ List.mem_of_getElem? hn)), h5⟩) (fun _ _ h => ⟨h, rfl⟩), fun j hj => ⟨(en.raw j hj).1, (en.raw j hj).2.1, ⟨g.fle, g.fnew, g.apre, fun b o hb ro hf hna => (by rw [upd_ne (hg b o hb hna)]; exact g.keep b o hb ro hf hna), fun b hb => (by
      by_cases e : b = a
      · subst e; rw [upd_same]; simp
      · rw [upd_ne e]; exact g.alive b hb)⟩⟩⟩⟩
  · rw [upd_ne (hg b o hb hna)]; exact g.keep b o hb ro hf hna
  · by_cases e : b = a
    · subst e; rw [upd_same]; simp
    · rw [upd_ne e]; exact g.alive b hb
  · rw [upd_ne (fun e => by rw [e, hF] at hb; cases hb)]; exact m.sub b u hb
  · by_cases e1 : n = k
    · subst e1
      rw [hn] at h1; cases h1
      rw [List.getElem?_set_self (by rw [← m.len]; exact (List.getElem?_eq_some_iff.mp hn).1)] at h2
      cases h2
      exact ⟨hF, r⟩
    · rw [List.getElem?_set_ne e1] at h2
      obtain ⟨z1, z2⟩ := m.cel k b e h1 h2
      have ne : b ≠ a := fun z => by
        subst z
        exact e1 ((List.getElem?_inj (List.getElem?_eq_some_iff.mp hn).1 m.nd).mp (hn.trans h1.symm))
      exact ⟨z1, z2.mono (FLe.refl _) (fun _ _ h => h) (by rw [upd_ne ne])⟩
  · obtain ⟨b, b1, b2, b3, b4, b5⟩ := en.own j e hj
    have ne : b ≠ a := fun z => b3 (by rw [z]; exact List.mem_of_getElem? hn)
    exact ⟨b, b1, b2, b3, b4, b5.mono (FLe.refl _) (fun _ _ h => h) (by rw [upd_ne ne])⟩
  · obtain ⟨z0, z1, z2, z3, z4, z5, z6⟩ := en.slf j e hj
    have ne : N0.me ≠ a := fun z => z3 (by rw [z]; exact List.mem_of_getElem? hn)
    exact ⟨z0, z1, z2, z3, z4, z5.mono (FLe.refl _) (fun _ _ h => h) (by rw [upd_ne ne]), z6⟩
theorem cel_off {a : Addr} (g : GrE N0 F Ad H) (hn : a ∈ Ad) : ∀ b o, N0.hp b = some o → b ∉ N0.ad → b ≠ a := fun b o hb hna e => by
  subst e
  obtain ⟨more, e1, e2⟩ := g.apre
  rw [e1] at hn
  rcases List.mem_append.mp hn with z | z
  · exact hna z
  · rw [e2 b z] at hb; cases hb
end
end MP
set_option maxRecDepth 100000
set_option maxHeartbeats 1000000
namespace MP
open PySem PySem.Spec PyProof.Rows L2
variable [TabsP] [ThkP]
def cont (i : Nat) (env : EnvM) (M : List D) : Option D := match env[i]? with
  | some (.own d) => some d
  | some (.slf d) => some d
  | some (.shr (.cel n)) => M[n]?
  | _ => none
def store (i : Nat) (u : D → Option D) : SF := fun env M => match env[i]? with
  | some (.own d) => (match u d with | some d' => .next (env.set i (.own d')) M | none => .stuck)
  | some (.slf d) => (match u d with | some d' => .next (env.set i (.slf d')) M | none => .stuck)
  | some (.shr (.cel n)) => (match M[n]? with
    | some d => (match u d with | some d' => .next env (M.set n d') | none => .stuck)
    | none => .stuck)
  | _ => .stuck
def putFD (f : Str) (v : D) : List (Str × D) → List (Str × D)
  | [] => [(f, v)]
  | (g, x) :: r => if g = f then (g, v) :: r else (g, x) :: putFD f v r
def stSub (k v d : D) : Option D := match d with
  | .lst xs => (match k with
    | .int i => (match ixN xs.length i with | some j => some (.lst (xs.set j v)) | none => none)
    | _ => none)
  | .dK kvs => (match keyD k with
    | some q => if kvs.length < sizeLine then some (.dK (insK kvs q v)) else none
    | none => none)
  | .dT kvs => (match k with
    | .tup ks => (match keysD ks with
      | some q => if kvs.length < sizeLine then some (.dT (insK kvs q v)) else none
      | none => none)
    | _ => none)
  | _ => none
def stApp (v d : D) : Option D := match d with
  | .lst xs => if xs.length < sizeLine then some (.lst (xs ++ [v])) else none
  | _ => none
def stFld (c f : Str) (v d : D) : Option D := match d with
  | .ins c' fs => if c' = c ∧ fs.length < 1000 then some (.ins c (putFD f v fs)) else none
  | _ => none
section
variable {X : Cx} {W : WX} {K : PySem.W.Frag} {DR : DRel} {E : Ends} {N0 : Ent} {F F1 H H1 : Hp} {Ad Ad1 : List Addr} {M : List D} {env : EnvM} {σ : St} {e tg iter : Expr} {f fk fv : EF} {st : Stmt} {rest p q body : List Stmt} {b b' : SF} {pos : Pos} {l : LF} {i : Nat} {u : D → Option D}
theorem DenF.put {g : Str} {v d} : ∀ {vs ds}, DenF K F Ad vs ds → Den K F Ad v d → DenF K F Ad (putF g v vs) (putFD g d ds)
  | _, _, .nil, h => .cons h .nil
  | _, _, .cons (k := k) q r, h => by
    unfold putF putFD
    by_cases e : k = g
    · rw [if_pos e, if_pos e]; exact .cons h r
    · rw [if_neg e, if_neg e]; exact .cons q (r.put h)
theorem store_ok (g : GrE N0 F Ad H) (m : MemOk K F Ad M H) (en : EnvOk K N0 F Ad H σ env) (r : RPS K W DR E N0 F Ad (store i u env M)) :
    ∃ a d d', σ[i]? = some (some (.ref a)) ∧ cont i env M = some d ∧ u d = some d' ∧ Root K F Ad H a d ∧ ∀ o', Root K F Ad (upd H a o') a d' → E.nx σ (upd H a o') := by
  unfold store at r
  split at r
  · rename_i d hd
    split at r
    · rename_i d' hu
      obtain ⟨a, c1, c2, c3, c4, c5⟩ := en.own i d hd
      refine ⟨a, d, d', c1, by unfold cont; rw [hd], hu, c5, fun o' ro => ?_⟩
      obtain ⟨g', m', en'⟩ := wr_own g m en hd c1 ro
      exact r σ F Ad _ g' (FLe.refl _) pre_refl m' en'
    · exact r.elim
  · rename_i d hd
    split at r
    · rename_i d' hu
      obtain ⟨c0, c1, c2, c3, c4, c5, c6⟩ := en.slf i d hd
      refine ⟨_, d, d', c1, by unfold cont; rw [hd], hu, c5, fun o' ro => ?_⟩
      obtain ⟨g', m', en'⟩ := wr_slf g m en hd ro
      exact r σ F Ad _ g' (FLe.refl _) pre_refl m' en'
    · exact r.elim
  · rename_i n hn
    split at r
    · rename_i d hd
      split at r
      · rename_i d' hu
        obtain ⟨v, c1, c2⟩ := en.shr i _ hn
        cases c2 with
        | @cel a _ ha =>
          refine ⟨a, d, d', c1, by unfold cont; rw [hn]; exact hd, hu, (m.cel n a d ha hd).2, fun o' ro => ?_⟩
          obtain ⟨g', m', en'⟩ := wr_cel g m en ha ro (cel_off g (List.mem_of_getElem? ha))
          exact r σ F Ad _ g' (FLe.refl _) pre_refl m' en'
      · exact r.elim
    · exact r.elim
  · exact r.elim
def rSetAll : TSet := fun o i v H Q => rSetL o i v H Q ∨ ∃ a H4, o = .ref a ∧ DPut H a i v H4 ∧ Q H4
theorem set_all (hu : X.A.units + 1 < cLine) : PSet X rSetAll := by
  intro pins s σ H o i v ov iv u Q I ro ri rv h
  rcases h with h | ⟨a, H4, rfl, hp, hq⟩
  · exact set_list pins s σ H o i v ov iv u Q I ro ri rv h
  · obtain rfl : ov = Value.ref a := ro
    exact d_setItem hu I hp ri rv fun s' I' => ⟨H4, I', hq⟩
theorem set_of {v k : V} {dv dk d d' : D} {a : Addr} {Q : Hp → Prop} (m : MemOk K F Ad M H) (xv : Den K F Ad v dv) (xk : Den K F Ad k dk) (r : Root K F Ad H a d) (hu : stSub dk dv d = some d') (hq : ∀ o', Root K F Ad (upd H a o') a d' → Q (upd H a o')) : rSetAll (.ref a) k v H Q := by
  unfold stSub at hu
  cases r with
  | lst h r =>
    dsimp only at hu
    split at hu
    · rename_i i
      split at hu
      · rename_i oo j hj
        cases hu
        cases xk
        exact .inl ⟨a, _, i, j, rfl, rfl, h, by rw [r.length]; exact hj, hq _ (.lst upd_same (r.set j xv))⟩
      · cases hu
    · cases hu
  | dK h r =>
    dsimp only at hu
    split at hu
    · rename_i oo kk hk
      split at hu
      · rename_i hl
        cases hu
        exact .inr ⟨a, _, rfl, .inl ⟨_, kk, h, keyD_v xk hk, by rw [r.length]; exact hl, rfl⟩, hq _ (.dK upd_same (r.put xv))⟩
      · cases hu
    · cases hu
  | dT h r =>
    dsimp only at hu
    split at hu
    · rename_i ks
      split at hu
      · rename_i oo kk hk
        split at hu
        · rename_i hl
          cases hu
          cases xk with
          | tup h2 r2 =>
            have h2 := h2.key r2 hk
            rw [keysD_v r2 hk] at h2
            exact .inr ⟨a, _, rfl, .inr ⟨_, kk, _, h, rfl, m.sub _ _ h2, by rw [r.length]; exact hl, rfl⟩, hq _ (.dT upd_same (r.put xv))⟩
        · cases hu
      · cases hu
    · cases hu
  | ins h r => exact nomatch hu
def has (i : Nat) (env : EnvM) : Bool := match env[i]? with
  | some (.shr _) => true
  | some (.own _) => true
  | some (.slf _) => true
  | _ => false
theorem EnvOk.has (en : EnvOk K N0 F Ad H σ env) (h : has i env = true) : ∃ v, σ[i]? = some (some v) := by
  unfold MP.has at h
  split at h
  · rename_i d hd; obtain ⟨v, h1, _⟩ := en.shr i d hd; exact ⟨v, h1⟩
  · rename_i d hd; obtain ⟨v, h1, _⟩ := en.own i d hd; exact ⟨_, h1⟩
  · rename_i d hd; obtain ⟨_, h1, _⟩ := en.slf i d hd; exact ⟨_, h1⟩
  · cases h
def bSub (i : Nat) (fk fv : EF) : SF := fun env M => (fv env M).bindS env fun dv M1 => if has i env = true then (fk env M1).bindS env fun dk M2 => store i (stSub dk dv) env M2 else .stuck
theorem ss_sub {x : Str} {k value : Expr} {pos' pos2 : Pos} (hu : X.A.units + 1 < cLine) (hN : X.N[i]? = some x) (hv : Vis X.env.scope x) (hk : SE X W k fk) (he : SE X W value fv)
    (ha : ∀ v, assign (.Subscript (.Name x pos2) k pos') X.env v = (do
      let ov ← holding [v] (eval (.Name x pos2) X.env)
      let iv ← holding [v, ov] (eval k X.env)
      standAt pos'
      holding [v, ov, iv] (setItem ov iv v)
      release [v, ov, iv] []) := by intro _; rfl)
    (hs : swapsWithSole [.Subscript (.Name x pos2) k pos'] value pos.line X.env = pure false := by rfl) (hw : swappedStores [.Subscript (.Name x pos2) k pos'] value X.env = pure none := by rfl)
    (h1 : (assignEach [.Subscript (.Name x pos2) k pos'] X.env).map (·.2) = [assign (.Subscript (.Name x pos2) k pos') X.env] := by rfl)
    (hd : (x == ("__debug__" : Str)) = false := by decide) (hcd : (x == ("__classdict__" : Str)) = false := by decide) :
    SS X W DR (.Assign [.Subscript (.Name x pos2) k pos'] value pos) (bSub i fk fv) :=
  PS.imp (ps_asg he (pg_sub (pe_var hN hv hd hcd) hk (set_all hu) ha) hs hw h1) fun D σ H ⟨N0, F, Ad, M, env, ge0, m, en, r⟩ =>
    tE_of ge0 m en r fun dv M1 v F1 Ad1 H1 g1 ge m1 en1 x1 r1 => by
      split at r1
      · rename_i hh
        obtain ⟨v0, hv0⟩ := en1.has hh
        refine ⟨v0, hv0, tE_of ge m1 en1 r1 fun dk M2 vk F2 Ad2 H2 g2 ge2 m2 en2 x2 r2 => ?_⟩
        obtain ⟨a, d, d', c1, c2, c3, c4, c5⟩ := store_ok ge2 m2 en2 r2
        rw [hv0] at c1; cases c1
        exact set_of m2 (x1.mono g2.fle g2.pre) x2 c4 c3 c5
      · exact r1.elim
def isLst : Option D → Bool
  | some (.lst _) => true
  | _ => false
def bApp (i : Nat) (fv : EF) : SF := fun env M => if isLst (cont i env M) = true then (fv env M).bindS env fun dv M1 => store i (stApp dv) env M1 else .stuck
theorem cont_ok (m : MemOk K F Ad M H) (en : EnvOk K N0 F Ad H σ env) {d : D} (h : cont i env M = some d) : ∃ a, σ[i]? = some (some (.ref a)) ∧ Root K F Ad H a d := by
  unfold cont at h
  split at h
  · rename_i d' hd; cases h; obtain ⟨a, h1, _, _, _, h2⟩ := en.own i _ hd; exact ⟨a, h1, h2⟩
  · rename_i d' hd; cases h; obtain ⟨_, h1, _, _, _, h2, _⟩ := en.slf i _ hd; exact ⟨_, h1, h2⟩
  · rename_i n hd
    obtain ⟨v, h1, h2⟩ := en.shr i _ hd
    cases h2 with
    | @cel a _ ha => exact ⟨a, h1, (m.cel n a d ha h).2⟩
  · cases h
theorem ss_app {x : Str} {value : Expr} {apos pos2 cpos : Pos} (hN : X.N[i]? = some x) (hv : Vis X.env.scope x) (he : SE X W value fv)
    (hs0 : starEach [value] X.env = [(false, eval value X.env)] := by rfl) (hbase : attributeBase (.Name x pos2) "append" X.env (eval (.Name x pos2) X.env) = eval (.Name x pos2) X.env := by rfl)
    (hfew : ((backTo cpos (starEach [value] X.env)).all (fun x => !x.1) && (backToKw cpos (keywordEach [] X.env)).all (fun x => x.1.isSome)
      && decide (([value] : List Expr).length + ([] : List Keyword).length + (if ([] : List Keyword).isEmpty then 0 else 1) < 30)) = true := by rfl)
    (hline : (apos.endLine == cpos.line) = true := by rfl)
    (hd : (x == ("__debug__" : Str)) = false := by decide) (hcd : (x == ("__classdict__" : Str)) = false := by decide) (hsw : swapsWith (.Call (.Attribute (.Name x pos2) "append" apos) [value] [] cpos) none pos.line X.env = pure false := by rfl) :
    SS X W DR (.Expr (.Call (.Attribute (.Name x pos2) "append" apos) [value] [] cpos) pos) (bApp i fv) :=
  PS.imp (ps_expr (pe_bm (name := "append") PySem.F.plainAttrs_list PySem.F.slot_list_append PySem.F.type_list_append mt_append (pe_var hN hv hd hcd) (sl_one he hs0) hbase hfew hline hs0 (by rfl)) hsw) fun D σ H ⟨N0, F, Ad, M, env, ge0, m, en, r⟩ => by
    unfold bApp at r
    split at r
    · rename_i hl
      unfold isLst at hl
      split at hl
      · rename_i xs hx
        obtain ⟨a, ha, ra⟩ := cont_ok m en hx
        refine ⟨.ref a, ha, ?_, ?_⟩
        · cases ra with
          | lst h _ => exact .inl ⟨rfl, _, SqL.of h⟩
        · refine tE_of ge0 m en r fun dv M1 v F1 Ad1 H1 g1 ge m1 en1 x1 r1 => ?_
          obtain ⟨a', d, d', c1, c2, c3, c4, c5⟩ := store_ok ge m1 en1 r1
          rw [ha] at c1; cases c1
          unfold stApp at c3
          split at c3
          · split at c3
            · rename_i hz
              cases c3
              cases c4 with
              | lst h r => exact ⟨a, _, v, rfl, rfl, h, by rw [r.length]; exact hz, c5 _ (.lst upd_same (r.append (.cons x1 .nil)))⟩
            · cases c3
          · cases c3
      · cases hl
    · exact r.elim
def bFld (i : Nat) (c f : Str) (fv : EF) : SF := fun env M => (fv env M).bindS env fun dv M1 => store i (stFld c f dv) env M1
theorem ss_fld {x c g : Str} {value : Expr} {pos' pos2 : Pos} (hN : X.N[i]? = some x) (hv : Vis X.env.scope x) (he : SE X W value fv) (hc : Cls X.K (He.ga X.K c)) (hn : NoAttr X.K (He.ga X.K c) g)
    (hs : swapsWith value (some (.Attribute (.Name x pos2) g pos')) pos.line X.env = pure false := by rfl) (hd : (x == ("__debug__" : Str)) = false := by decide) (hcd : (x == ("__classdict__" : Str)) = false := by decide) :
    SS X W DR (.Assign [.Attribute (.Name x pos2) g pos'] value pos) (bFld i c g fv) :=
  PS.imp (ps_fld (pe_var hN hv hd hcd) he hs) fun D σ H ⟨N0, F, Ad, M, env, ge0, m, en, r⟩ =>
    tE_of ge0 m en r fun dv M1 v F1 Ad1 H1 g1 ge m1 en1 x1 r1 => by
      obtain ⟨a, d, d', c1, c2, c3, c4, c5⟩ := store_ok ge m1 en1 r1
      refine ⟨.ref a, c1, ?_⟩
      unfold stFld at c3
      split at c3
      · split at c3
        · rename_i hz
          cases c3
          cases c4 with
          | ins h rr =>
            obtain ⟨rfl, hl⟩ := hz
            exact ⟨a, _, _, _, rfl, h, hc, hn, by rw [rr.length]; exact hl, c5 _ (.ins upd_same (rr.put x1))⟩
        · cases c3
      · cases c3
def forL (gd : D → EnvM → Option EnvM) (b : SF) : List D → SF
  | [], env, M => .next env M
  | d :: ds, env, M => match gd d env with
    | none => .stuck
    | some env1 => match b env1 M with
      | .next env2 M2 => forL gd b ds env2 M2
      | .cont env2 M2 => forL gd b ds env2 M2
      | .brk env2 M2 => .next env2 M2
      | r => r
def bFor (l : LF) (gd : D → EnvM → Option EnvM) (b : SF) : SF := fun env M => match l env M with
  | .ok ds M1 => forL gd b ds env M1
  | .exc x M1 => .exc x env M1
  | .stuck => .stuck
theorem ss_for {gd : D → EnvM → Option EnvM} {g : TG} {js : List Nat} (hp : PassesOwn (model X.prog X.w) X.A X.env X.xe) (hc : X.calm = true) (hi : SI X W true tg iter l) (tgo : TgOk X.K js gd g) (hg : PG X tg g) (hb : SSs X W DR body b) (hs : ∀ x, foldedSetIterable iter X.env x = pure x := by intro _; rfl) :
    SS X W DR (.For tg iter body [] pos) (bFor l gd b) := PS.imp (ps_for hp hc hi hg hb hs) fun E σ H ⟨N0, F, Ad, M, env, ge0, m, en, r⟩ => by
  refine ⟨N0, F, Ad, M, env, m, en, ?_⟩
  unfold bFor at r
  cases ql : l env M with
  | exc x M1 => rw [ql] at r; exact fun cls dx F' Ad' H' g' m' z => r cls dx σ F' Ad' H' (ge0.trans g') g'.fle g'.pre m' (en.gr g') z
  | stuck => rw [ql] at r; exact r
  | ok ds M1 =>
    rw [ql] at r
    intro J ks F1 Ad1 H1 g1 m1 it k1 k2 kz
    have kz := kz rfl
    subst kz
    refine ⟨fun i mm σ2 H2 => mm = ds.length - i ∧ i ≤ ds.length ∧ ∃ F2 Ad2 M2 env2, GrE N0 F2 Ad2 H2 ∧ FLe F1 F2 ∧ Pre Ad1 Ad2 ∧ MemOk X.K F2 Ad2 M2 H2 ∧ EnvOk X.K N0 F2 Ad2 H2 σ2 env2 ∧ RPS X.K W DR E N0 F2 Ad2 (forL gd b (ds.drop i) env2 M2),
      ⟨_, rfl, Nat.zero_le _, F1, Ad1, M1, env, ge0.trans g1, FLe.refl _, pre_refl, m1, en.gr g1, by simpa using RPS.gr r g1.fle g1.pre⟩, ?_⟩
    rintro i mm σ2 H2 ⟨rfl, hi, F2, Ad2, M2, env2, ge2, l2, p2, m2, en2, r2⟩
    by_cases hlt : i < ds.length
    · right
      refine ⟨it.go i F2 Ad2 M2 H2 hlt l2 p2 m2 (fun _ z => nomatch z), fun σ' H' => i + 1 ≤ ds.length ∧ ∃ F3 Ad3 M3 env3, GrE N0 F3 Ad3 H' ∧ FLe F1 F3 ∧ Pre Ad1 Ad3 ∧ MemOk X.K F3 Ad3 M3 H' ∧ EnvOk X.K N0 F3 Ad3 H' σ' env3 ∧ RPS X.K W DR E N0 F3 Ad3 (forL gd b (ds.drop (i + 1)) env3 M3),
        fun σ' H' ⟨h1, h2⟩ => ⟨ds.length - (i + 1), by omega, rfl, h1, h2⟩, fun x H3 hy => ?_⟩
      obtain ⟨d, F3, hd, g3, m3, x3⟩ := it.yld i F2 Ad2 M2 H2 x H3 hlt l2 p2 m2 (fun _ z => nomatch z) hy
      have hdrop : ds.drop i = d :: ds.drop (i + 1) := by
        rw [List.drop_eq_getElem_cons hlt]
        rw [List.getElem?_eq_getElem hlt] at hd
        cases hd; rfl
      rw [hdrop] at r2
      unfold forL at r2
      cases hgd : gd d env2 with
      | none => rw [hgd] at r2; exact r2.elim
      | some env3 =>
        rw [hgd] at r2
        dsimp only at r2
        refine tgo.ok N0 F3 Ad2 M2 H3 σ2 env2 x d env3 _ m3 (en2.gr g3) x3 hgd fun σ' en' _ => ?_
        refine ⟨N0, F3, Ad2, M2, env3, ge2.trans g3, m3, en', ?_⟩
        have r3 := RPS.gr r2 g3.fle (pre_refl (Ad := Ad2))
        have stp : ∀ env4 M4, RPS X.K W DR E N0 F3 Ad2 (forL gd b (ds.drop (i + 1)) env4 M4) → ∀ σ F' Ad' H', GrE N0 F' Ad' H' → FLe F3 F' → Pre Ad2 Ad' → MemOk X.K F' Ad' M4 H' → EnvOk X.K N0 F' Ad' H' σ env4 →
            (i + 1 ≤ ds.length ∧ ∃ F3 Ad3 M3 env3, GrE N0 F3 Ad3 H' ∧ FLe F1 F3 ∧ Pre Ad1 Ad3 ∧ MemOk X.K F3 Ad3 M3 H' ∧ EnvOk X.K N0 F3 Ad3 H' σ env3 ∧ RPS X.K W DR E N0 F3 Ad3 (forL gd b (ds.drop (i + 1)) env3 M3)) :=
          fun env4 M4 r4 σ F' Ad' H' g' l' p' m' en' => ⟨hlt, F', Ad', M4, env4, g', (l2.trans g3.fle).trans l', p2.trans p', m', en', RPS.gr r4 l' p'⟩
        cases hb : b env3 M2 with
        | next env4 M4 => rw [hb] at r3; exact stp env4 M4 r3
        | cont env4 M4 => rw [hb] at r3; exact stp env4 M4 r3
        | brk env4 M4 => rw [hb] at r3; exact r3
        | ret d M4 => rw [hb] at r3; exact r3
        | exc z env4 M4 => rw [hb] at r3; exact r3
        | stuck => rw [hb] at r3; exact r3
    · left
      have hi2 : i = ds.length := by omega
      subst hi2
      refine ⟨it.stop F2 Ad2 M2 H2 l2 p2 m2 (fun _ z => nomatch z), ?_⟩
      rw [List.drop_length] at r2
      exact r2 σ2 F2 Ad2 H2 ge2 (FLe.refl _) pre_refl m2 en2
def bShare (i : Nat) : SF := fun env M => match env[i]? with
  | some (.own d) => .next (env.set i (.shr d)) M
  | _ => .stuck
theorem ss_share {K : PySem.W.Frag} (D : Ends) (σ : St) (H : Hp) (h : tS K W DR (bSeq (bShare i) b) D σ H) : tS K W DR b D σ H := by
  obtain ⟨N0, F, Ad, M, env, g, m, en, r⟩ := h
  unfold bSeq bShare at r
  cases hd : env[i]? with
  | none => rw [hd] at r; exact r.elim
  | some bb =>
    cases bb with
    | own d =>
      rw [hd] at r
      dsimp only at r
      obtain ⟨a, c1, c2, c3, c4, c5⟩ := en.own i d hd
      have hl : i < env.length := (List.getElem?_eq_some_iff.mp hd).1
      obtain ⟨F', g', m', dn, l', off⟩ := freeze g m (v := .ref a) ⟨a, rfl, c2, c3, c4, c5⟩
      refine ⟨N0, F', Ad, M, _, g', m', ⟨by simp [en.len], fun j e hj => ?_, fun j e hj => ?_, fun j k e1 e2 b h1 h2 h3 h4 => ?_, fun j e hj => ?_, en.parM l' (fun x dd h1 h2 h3 h4 h5 => ⟨off x h1 (fun z => h5 (by cases z; exact .inl ⟨i, d, hd, c1⟩)), h2, h4.mono l' pre_refl rfl, fun z => h5 (z.setE ⟨.inl (by intro _ z; cases z), .inl (by intro _ z; cases z)⟩)⟩) (par_setE (by intro _ z; cases z)), fun j hj => ?_⟩, RPS.gr r l' pre_refl⟩
      · by_cases e1 : i = j
        · subst e1; rw [List.getElem?_set_self hl] at hj; cases hj; exact ⟨_, c1, dn⟩
        · rw [List.getElem?_set_ne e1] at hj
          obtain ⟨v, z1, z2⟩ := en.shr j e hj
          exact ⟨v, z1, z2.mono l' pre_refl⟩
      · have e1 : i ≠ j := fun e1 => by subst e1; rw [List.getElem?_set_self hl] at hj; cases hj
        rw [List.getElem?_set_ne e1] at hj
        obtain ⟨b, b1, b2, b3, b4, b5⟩ := en.own j e hj
        have ne : b ≠ a := fun z => by subst z; exact e1 (en.dis i j d e b hd hj c1 b1)
        exact ⟨b, b1, off b b2 (fun z => ne (by cases z; rfl)), b3, b4, b5.mono l' pre_refl rfl⟩
      · have e1' : i ≠ j := fun e1 => by subst e1; rw [List.getElem?_set_self hl] at h1; cases h1
        have e2' : i ≠ k := fun e1 => by subst e1; rw [List.getElem?_set_self hl] at h2; cases h2
        rw [List.getElem?_set_ne e1'] at h1
        rw [List.getElem?_set_ne e2'] at h2
        exact en.dis j k _ _ b h1 h2 h3 h4
      · have e1 : i ≠ j := fun e1 => by subst e1; rw [List.getElem?_set_self hl] at hj; cases hj
        rw [List.getElem?_set_ne e1] at hj
        obtain ⟨z0, z1, z2, z3, z4, z5, z6⟩ := en.slf j e hj
        have ne : N0.me ≠ a := fun z => z6 i d hd (by rw [c1, z])
        refine ⟨z0, z1, off _ z2 (fun z => ne (by cases z; rfl)), z3, z4, z5.mono l' pre_refl rfl, fun k d2 hk => ?_⟩
        by_cases e2 : i = k
        · subst e2; rw [List.getElem?_set_self hl] at hk; cases hk
        · rw [List.getElem?_set_ne e2] at hk; exact z6 k d2 hk
      · have e1 : i ≠ j := fun e1 => by subst e1; rw [List.getElem?_set_self hl] at hj; cases hj
        rw [List.getElem?_set_ne e1] at hj; exact ⟨(en.raw j hj).1, (en.raw j hj).2.1, g'⟩
    | _ => rw [hd] at r; exact r.elim
theorem sss_share (h : SSs X W DR rest b) : SSs X W DR rest (bSeq (bShare i) b) := PSs.imp h fun D σ H x => ss_share D σ H x
end
end MP
set_option maxRecDepth 100000
set_option maxHeartbeats 1000000
namespace MP
open PySem PySem.Spec PyProof.Rows L2
variable [TabsP] [ThkP]
def D.tyN : D → Option String
  | .non => some "NoneType"
  | .bl _ => some "bool"
  | .int _ => some "int"
  | .str _ => some "str"
  | .tup _ => some "tuple"
  | .ktp _ => some "tuple"
  | .lst _ => some "list"
  | .scr _ => some "list"
  | .dK _ => some "dict"
  | .dT _ => some "dict"
  | _ => none
def tyNs : List String := ["NoneType", "bool", "int", "str", "tuple", "list", "dict"]
def subN (n T : String) : Bool := n == T || (n == "bool" && T == "int")
abbrev TyT (T : String) : Prop := ∀ n ∈ tyNs, kitB n T = some (subN n T)
theorem tyT_int : TyT "int" := by decide +kernel
theorem tyT_bool : TyT "bool" := by decide +kernel
theorem tyT_tuple : TyT "tuple" := by decide +kernel
theorem tyT_str : TyT "str" := by decide +kernel
theorem D.tyN_mem {d : D} {n : String} (h : d.tyN = some n) : n ∈ tyNs := by
  cases d <;> simp [D.tyN] at h <;> subst h <;> decide
section
variable {X : Cx} {W : WX} {K : PySem.W.Frag} {E : XK} {DR : DRel} {N0 : Ent} {F H : Hp} {Ad : List Addr} {M : List D} {env : EnvM} {σ : St} {Q : VK} {x : V} {e c : Expr} {f : EF} {pos p pc : Pos}
theorem sqT_ty {a : Addr} {xs : List V} (h : SqT K H a xs) : TyX K H (.ref a) (.type "tuple") := by
  rcases h with (h | ⟨o, h⟩) | ⟨o, its, n, hk, hc, _⟩
  · exact .base (.tup h)
  · exact .fTuple h
  · exact .kTuple hk hc
theorem sqL_ty {a : Addr} {xs : List V} (h : SqL K H a xs) : TyX K H (.ref a) (.type "list") := by
  rcases h with (h | ⟨o, h⟩) | ⟨o, its, n, hk, hc, _⟩
  · exact .base (.lst h)
  · exact .base (.frz h)
  · exact .kList hk hc
theorem DV.ty (m : MemOk K F Ad M H) {d : D} {n : String} (h : DV K F Ad H x d) (e : d.tyN = some n) (hd : ∀ k, d ≠ .dT k) : TyX K H x (.type n) := by
  cases d with
  | non => cases e; rw [h.non]; exact .base .non
  | bl b => cases e; rw [h.bl]; exact .base (.bl _)
  | int b => cases e; rw [h.int]; exact .base (.int _)
  | str b => cases e; rw [h.str]; exact .base (.str _)
  | tup b => cases e; obtain ⟨a, vs, rfl, h1, _⟩ := h.tup m; exact sqT_ty h1
  | ktp b => cases e; obtain ⟨a, vs, rfl, h1, _⟩ := h.ktp m; exact sqT_ty h1
  | lst b => cases e; obtain ⟨a, vs, rfl, h1, _⟩ := h.lst m; exact .base (.lst h1)
  | scr b => cases e; obtain ⟨a, rfl, h1⟩ := h.scr m; exact sqL_ty h1
  | dK b =>
    cases e
    obtain ⟨a, vs, rfl, h1, _⟩ := h.dK m
    rcases h1 with h1 | ⟨o, h1⟩
    · exact .base (.dK h1)
    · exact .fDict h1
  | dT b => exact absurd rfl (hd b)
  | ins c fs => cases e
  | cel n => cases e
  | cls n => cases e
structure ClsT (K : PySem.W.Frag) (c : Str) : Prop where
  cl : Cls K (He.ga K c)
  ha : PySem.W.findIn K (.ref (He.ga K c)) "__class__" = some (some (.builtin "object.__class__"))
  hn : PySem.W.specialIn K (.builtin "object.__class__") "__get__" = some (some (.builtin "getset_descriptor.__get__"))
  htk : PySem.W.takesIn K (.builtin "object.__class__") = some true
  hm : PySem.W.mroIn K (He.ga K c) (.type "object") = some true
def IsK (K : PySem.W.Frag) (u : Value) (k : D → Option Bool) : Prop := ∀ (F : Hp) (Ad : List Addr) (M : List D) (H : Hp) (x : V) (d : D) (b : Bool), MemOk K F Ad M H → DV K F Ad H x d → k d = some b → ∃ t, TyX K H x t ∧ PySem.W.kitOne K t u = some b
def isT (T : String) (cs : List Str) (d : D) : Option Bool := match d with
  | .dT _ => none
  | .ins c _ => if cs.contains c = true then some false else none
  | d => d.tyN.map fun n => subN n T
theorem isK_T {T : String} {cs : List Str} (hT : TyT T) (hc : ∀ c ∈ cs, ClsT K c ∧ PySem.W.kitOne K (.ref (He.ga K c)) (.type T) = some false) : IsK K (.type T) (isT T cs) := by
  intro F Ad M H x d b m h e
  have gen : ∀ d' : D, (∀ k, d' ≠ .dT k) → d'.tyN.map (fun n => subN n T) = some b → DV K F Ad H x d' → ∃ t, TyX K H x t ∧ PySem.W.kitOne K t (.type T) = some b := fun d' hn e' h' => by
    rw [Option.map_eq_some_iff] at e'
    obtain ⟨n, e1, e2⟩ := e'
    exact ⟨_, h'.ty m e1 hn, by rw [← e2]; exact kit_ty (hT n (D.tyN_mem e1))⟩
  cases d with
  | dT k => cases e
  | ins c fs =>
    dsimp only [isT] at e
    split at e
    · rename_i hcs
      cases e
      obtain ⟨a, dx, vs, rfl, h1, _⟩ := h.ins m
      obtain ⟨z, hk⟩ := hc c (by simpa using hcs)
      exact ⟨_, .base (.ins h1 z.cl z.ha z.hn z.htk z.hm), hk⟩
    · cases e
  | non => exact gen (.non) (fun _ z => nomatch z) e h
  | bl y => exact gen (.bl y) (fun _ z => nomatch z) e h
  | int y => exact gen (.int y) (fun _ z => nomatch z) e h
  | str y => exact gen (.str y) (fun _ z => nomatch z) e h
  | tup y => exact gen (.tup y) (fun _ z => nomatch z) e h
  | ktp y => exact gen (.ktp y) (fun _ z => nomatch z) e h
  | lst y => exact gen (.lst y) (fun _ z => nomatch z) e h
  | scr y => exact gen (.scr y) (fun _ z => nomatch z) e h
  | dK y => exact gen (.dK y) (fun _ z => nomatch z) e h
  | cel _ => cases e
  | cls _ => cases e
def oIsi (k : D → Option Bool) (d : D) (M : List D) : R := match k (view M d) with
  | some b => .ok (.bl b) M
  | none => .stuck
theorem se_isi {k : D → Option Bool} {cv : V} {u : Value} (hk : IsK X.K u k) (he : SB X W e f) (hc : PE X c (fun _ H Q => Q cv H)) (hcv : ClsV cv u) (hg : Gl X "isinstance") (hm : X.mg "isinstance" = none)
    (hs1 : starEach [e, c] X.env = (false, eval e X.env) :: starEach [c] X.env := by rfl) (hs2 : starEach [c] X.env = [(false, eval c X.env)] := by rfl) (hpl : (backTo pos (starEach [c] X.env)).any (·.1) = false := by rfl) :
    SE X W (.Call (.Name "isinstance" p) [e, c] [] pos) (e1 (oIsi k) f) := by
  refine ⟨fun pins s σ H Q I ⟨N0, F, Ad, M, env, m, en, r⟩ => ?_⟩
  have ha : PA X [e, c] (fun σ H Q => tG X.K W (DB X.K) f σ H fun x H1 => Q [x, cv] H1) := pa_cons he (pa_cons hc pa_nil hs2) hs1
  refine wpAny_Call_Name_kw (ld_blt I hg hm (show bootBuiltins "isinstance" = some (.builtin "isinstance") by decide +kernel) ?_ (by decide) (by decide))
  refine PyProof.Rows.callWith_builtin1 (thn (ha.run pos pins s σ H (fun vs H1 => ∃ F1 Ad1 M1 d v, vs = [v, cv] ∧ MemOk X.K F1 Ad1 M1 H1 ∧ DB X.K H1 F1 Ad1 H1 v d ∧ RP X.K (fun c d H => W c d σ H) (DE X.K) F1 Ad1 H1 Q (oIsi k d M1)) I
    (tG_seq DE.ok m en r fun d M1 v F1 Ad1 H1 g1 m1 en1 x1 r1 => ⟨F1, Ad1, M1, d, v, rfl, m1, x1, r1⟩)) fun us s1 ⟨vs, H1, I1, rv, F1, Ad1, M1, d, v, ev, m1, x1, r1⟩ => ?_) hs1 hpl
  unfold oIsi at r1
  split at r1
  · rename_i b hb
    obtain ⟨t, ht, hkit⟩ := hk F1 Ad1 M1 H1 v _ b m1 (DB.view m1 x1) hb
    exact call_isi pins s1 σ H1 vs us Q I1 rv ⟨v, cv, t, u, b, ev, hcv, ht, hkit, RP.here r1 m1 .bl⟩
  · exact r1.elim
theorem pe_tyN {n : String} {y : Str} (hg : Gl X y) (hm : X.mg y = none) (hv : bootBuiltins y = some (.type n)) (hn : y ≠ "__name__" := by decide) (hd : (y == ("__debug__" : Str)) = false := by decide) : PE X (.Name y pos) (fun _ H Q => Q (.ty n) H) :=
  pe_bltn (v := .ty n) hg hm hv (show RelV (.ty n) (.type n) from rfl) hn hd
end
def env0 (n : Nat) (ds : List D) : EnvM := ds.map B.shr ++ List.replicate (n - ds.length) B.no
def endE (r : RS) : R := match r with
  | .ret d M => .ok d M
  | .next _ M => .ok .non M
  | .exc x _ M => .exc x M
  | _ => .stuck
def endI (r : RS) : R := match r with
  | .next env M => (match (env[0]? : Option B) with | some (B.slf d) => .ok d M | _ => .stuck)
  | .exc x _ M => .exc x M
  | _ => .stuck
section
variable {P : Program} {w : World} {K : PySem.W.Frag} {mg : Str → Option Value} {base : Heap} {x qual : Str} {params : Arguments} {body : List Stmt} {scope : Scope} {dvs : List V} {kws : List (Str × V)} {f : Addr} {fd : FuncData} {N ps : List Str} {k : Nat} {F H : Hp} {Ad : List Addr} {M : List D}
abbrev wxE (E : XK) : WX := fun c d _ H => E c d H
theorem env0_ok {vs : List V} {ds : List D} (x : DenL K F Ad vs ds) (me : Addr) : EnvOk K ⟨H, F, Ad, me⟩ F Ad H (L2.start N vs) (env0 N.length ds) := by
  have hl := x.length
  have hs : ∀ {i : Nat} {b : B}, (env0 N.length ds)[i]? = some b → b ≠ .no → ∃ d, ds[i]? = some d ∧ b = .shr d := fun {i b} h hb => by
    unfold env0 at h
    by_cases hi : i < ds.length
    · rw [List.getElem?_append_left (by simpa using hi), List.getElem?_map, List.getElem?_eq_getElem hi] at h
      exact ⟨_, List.getElem?_eq_getElem hi, by simpa using h.symm⟩
    · rw [List.getElem?_append_right (by simpa using hi), List.getElem?_replicate] at h
      split at h
      · cases h; exact absurd rfl hb
      · cases h
  refine ⟨by unfold env0 L2.start; simp [hl], fun i d h => ?_, fun i d h => ?_, fun i j d e a h _ _ _ => ?_, fun i d h => ?_, fun i d h => ?_, fun i h => ?_⟩
  · obtain ⟨d', h1, h2⟩ := hs h (fun z => nomatch z)
    cases h2
    obtain ⟨v, h3, h4⟩ := x.get h1
    refine ⟨v, ?_, h4⟩
    unfold L2.start
    rw [List.getElem?_append_left (by simpa using (List.getElem?_eq_some_iff.mp h3).1), List.getElem?_map, h3]; rfl
  · obtain ⟨d', h1, h2⟩ := hs h (fun z => nomatch z); cases h2
  · obtain ⟨d', h1, h2⟩ := hs h (fun z => nomatch z); cases h2
  · obtain ⟨d', h1, h2⟩ := hs h (fun z => nomatch z); cases h2
  · obtain ⟨d', h1, h2⟩ := hs h (fun z => nomatch z); cases h2
  · obtain ⟨d', h1, h2⟩ := hs h (fun z => nomatch z); cases h2
theorem fnok_of {DR : DRel} {fin : RS → R} {n : Nat} {b : SF} (Fd : FunD K x qual params body scope dvs kws f fd) (S : FnScope N ps scope) (hn : ps.length = n)
    (hfin : ∀ (E : XK) (Q : VK) (F H : Hp) (Ad : List Addr) (r : RS), RP K E DR F Ad H Q (fin r) → RPS K (wxE E) DR { nx := fun _ H' => Q .non H', rt := Q } ⟨H, F, Ad, 0⟩ F Ad r)
    (hbody : ∀ (cdv : Value) (A : Around) (outer : List Env) (s : Shared) (H : Hp) (E : XK), Room k (A.deeper (envOfC qual scope s.heap.objs.size f cdv)) → SSs (cxOf (L2.CX P w) P w K mg base N qual scope f cdv A outer s H E) (wxE E) DR body b) :
    FnOk P w K mg base (L2.CX P w) (k + 1) f fd ps (spD K DR n (fun ds M => fin (b (env0 N.length ds) M))) := by
  refine MP.fn_of Fd S (fun vs H Q E h => h.1.trans hn.symm) fun cdv A outer s H vs Q E hr hsp => ⟨_, hbody cdv A outer s H E hr, ?_⟩
  obtain ⟨_, F, Ad, M, ds, m, dx, r⟩ := hsp
  exact ⟨⟨H, F, Ad, 0⟩, F, Ad, M, _, Gr.refl, m, env0_ok dx 0, hfin E Q F H Ad _ r⟩
theorem fnk_of {DR : DRel} {fin : RS → R} {n : Nat} {dd : List D} {us : List Value} {b : SF} (Fd : FunD K x qual params body scope dvs kws f fd) (S : FnScope N ps scope) (hn : ps.length = n) (hb : Binds K fd ps us) (hv : Vals dvs us) (hdd : ∀ F Ad, DenL K F Ad dvs dd)
    (hfin : ∀ (E : XK) (Q : VK) (F H : Hp) (Ad : List Addr) (r : RS), RP K E DR F Ad H Q (fin r) → RPS K (wxE E) DR { nx := fun _ H' => Q .non H', rt := Q } ⟨H, F, Ad, 0⟩ F Ad r)
    (hbody : ∀ (cdv : Value) (A : Around) (outer : List Env) (s : Shared) (H : Hp) (E : XK), Room k (A.deeper (envOfC qual scope s.heap.objs.size f cdv)) → SSs (cxOf (L2.CX P w) P w K mg base N qual scope f cdv A outer s H E) (wxE E) DR body b) :
    FnK P w K mg base DR (k + 1) n f dd (fun ds M => fin (b (env0 N.length ds) M)) := ⟨fd, ps, dvs, us, fnok_of Fd S hn hfin hbody, hb, hv, hdd, Fd.kp⟩
theorem finE (E : XK) (Q : VK) (F H : Hp) (Ad : List Addr) (r : RS) (h : RP K E (DE K) F Ad H Q (endE r)) : RPS K (wxE E) (DE K) { nx := fun _ H' => Q .non H', rt := Q } ⟨H, F, Ad, 0⟩ F Ad r := by
  cases r with
  | next env M => exact fun σ F' Ad' H' g l p m en => h .non F' Ad' H' g m .non
  | ret d M => exact fun v F' Ad' H' g m x => h v F' Ad' H' g m x
  | brk env M => exact h.elim
  | cont env M => exact h.elim
  | exc x env M => exact fun cls dx σ F' Ad' H' g l p m en z => h cls dx F' Ad' H' g m z
  | stuck => exact h
def env0I (n : Nat) (cn : Str) (ds : List D) : EnvM := B.slf (.ins cn []) :: (ds.map B.shr ++ List.replicate (n - (ds.length + 1)) B.no)
theorem fnoki_of {n : Nat} {cn : Str} {b : SF} (Fd : FunD K x qual params body scope dvs kws f fd) (S : FnScope N ps scope) (hn : ps.length = n + 1)
    (hbody : ∀ (cdv : Value) (A : Around) (outer : List Env) (s : Shared) (H : Hp) (E : XK), Room k (A.deeper (envOfC qual scope s.heap.objs.size f cdv)) → SSs (cxOf (L2.CX P w) P w K mg base N qual scope f cdv A outer s H E) (wxE E) (DE K) body b) :
    MP.FnOk P w K mg base (L2.CX P w) (k + 1) f fd ps (spI K cn n (fun ds M => endI (b (env0I N.length cn ds) M))) := by
  refine MP.fn_of Fd S (fun vs H Q E h => h.1.trans hn.symm) fun cdv A outer s H vs Q E hr hsp => ⟨_, hbody cdv A outer s H E hr, ?_⟩
  obtain ⟨hlen, xx, dx, rest, HH, F, Ad, M, ds, rfl, rfl, n1, n2, ne, m, dl, r⟩ := hsp
  have hl := dl.length
  have g1 : Gr F Ad HH F Ad (upd HH dx (.own xx)) := gr_own n2
  have n1' : upd HH dx (.own xx) xx = none := by rw [upd_ne (Ne.symm ne)]; exact n1
  have g2 := g1.trans (gr_own (o := .ins (He.ga K cn) dx []) n1')
  have m2 := mem_own (o := .ins (He.ga K cn) dx []) (mem_own (o := .own xx) m n2) n1'
  have hs : ∀ {i : Nat} {bb : B}, (env0I N.length cn ds)[i]? = some bb → bb ≠ .no → (i = 0 ∧ bb = .slf (.ins cn [])) ∨ ∃ j d, i = j + 1 ∧ ds[j]? = some d ∧ bb = .shr d := fun {i bb} h hb => by
    unfold env0I at h
    cases i with
    | zero => simp at h; exact .inl ⟨rfl, h.symm⟩
    | succ i =>
      right
      simp only [List.getElem?_cons_succ] at h
      by_cases hi : i < ds.length
      · rw [List.getElem?_append_left (by simpa using hi), List.getElem?_map, List.getElem?_eq_getElem hi] at h
        exact ⟨i, _, rfl, List.getElem?_eq_getElem hi, by simpa using h.symm⟩
      · rw [List.getElem?_append_right (by simpa using hi), List.getElem?_replicate] at h
        split at h
        · cases h; exact absurd rfl hb
        · cases h
  refine ⟨⟨HH, F, Ad, xx⟩, F, Ad, M, env0I N.length cn ds, g2, m2, ⟨?_, fun i d h => ?_, fun i d h => ?_, fun i j d e a h _ _ _ => ?_, fun i d h => ?_, fun i d h => (by
    rcases hs h (fun z => nomatch z) with ⟨_, z⟩ | ⟨j, d', rfl, h1, h2⟩
    · cases z
    · cases h2), fun i h => ?_⟩, ?_⟩
  · unfold env0I L2.start; simp [hl]
  · rcases hs h (fun z => nomatch z) with ⟨_, z⟩ | ⟨j, d', rfl, h1, h2⟩
    · cases z
    · cases h2
      obtain ⟨v, h3, h4⟩ := dl.get h1
      refine ⟨v, ?_, h4⟩
      unfold L2.start
      simp only [List.map_cons, List.cons_append, List.getElem?_cons_succ]
      rw [List.getElem?_append_left (by simpa using (List.getElem?_eq_some_iff.mp h3).1), List.getElem?_map, h3]; rfl
  · rcases hs h (fun z => nomatch z) with ⟨_, z⟩ | ⟨j, d', rfl, h1, h2⟩
    · cases z
    · cases h2
  · rcases hs h (fun z => nomatch z) with ⟨_, z⟩ | ⟨j, d', rfl, h1, h2⟩
    · cases z
    · cases h2
  · rcases hs h (fun z => nomatch z) with ⟨rfl, z⟩ | ⟨j, d', rfl, h1, h2⟩
    · cases z
      refine ⟨rfl, rfl, m.none n1, m.notin n1, n1, .ins upd_same .nil, fun j e hj => ?_⟩
      rcases hs hj (fun z => nomatch z) with ⟨_, z⟩ | ⟨j', d', rfl, h1, h2⟩
      · cases z
      · cases h2
    · cases h2
  · rcases hs h (fun z => nomatch z) with ⟨_, z⟩ | ⟨j, d', rfl, h1, h2⟩
    · cases z
    · cases h2
  · show RPS K (wxE E) (DE K) _ _ F Ad (b (env0I N.length cn ds) M)
    cases hq : b (env0I N.length cn ds) M with
    | next env M' =>
      simp only [hq, endI] at r
      intro σ F' Ad' H' g l p m' en
      split at r
      · rename_i d hd
        obtain ⟨_, c1, c2, c3, c4, c5, _⟩ := en.slf 0 d hd
        exact r (.ref xx) F' Ad' H' g m' ⟨xx, rfl, c2, c3, c4, c5⟩ rfl
      · exact r.elim
    | ret d M' => simp only [hq, endI] at r; exact r.elim
    | brk env M' => simp only [hq, endI] at r; exact r.elim
    | cont env M' => simp only [hq, endI] at r; exact r.elim
    | exc z env M' => simp only [hq, endI] at r; exact fun cls dx2 σ F' Ad' H' g l p m' en zz => r cls dx2 F' Ad' H' g m' zz
    | stuck => simp only [hq, endI] at r; exact r.elim
end
end MP
set_option maxRecDepth 100000
set_option maxHeartbeats 1000000
namespace MP
open PySem PySem.Spec PyProof.Rows L2
variable [TabsP] [ThkP]
structure XcC (K : PySem.W.Frag) (C fI : Addr) (f : Str) : Prop where
  over : ∃ (B newId initId : String) (bmB : List Value), ExcBaseFacts B newId initId bmB ∧ StoreFacts B bmB "object.__setattr__" "object" ∧ PySem.W.excInitIn K C bmB newId = true ∧ PySem.W.excOver K C bmB = true
  tk : PySem.W.takerIn K C f = some none
  hd : PySem.W.hasDictIn K C = true
  sa : PySem.W.findIn K (.ref C) "__setattr__" = some (some (.builtin "object.__setattr__"))
  iC : PySem.W.findIn K (.ref C) "__init__" = some (some (.ref fI))
  tI : PySem.W.typeIn K (.ref fI) = some (.type "function")
  kC : PySem.W.keepIn K (.ref C) = true
  exC : PySem.W.subIn K (.ref C) (.type "BaseException") = some true
  tyC : PySem.W.typeIn K (.ref C) = some (.type "type")
  xf : XfC K C
  no : PySem.W.findIn K (.ref C) f = some none
def exTail (n : String) : List Value := [.type n, .type "Exception", .type "BaseException", .type "object"]
def isSN {α : Type} : Option (Option α) → Bool
  | some none => true
  | _ => false
def isTyp (n : String) : Option Value → Bool
  | some (.type m) => decide (m = n)
  | _ => false
def isAdr (a : Addr) : Option (Option Value) → Bool
  | some (some (.ref b)) => decide (b = a)
  | _ => false
def xcB (K : PySem.W.Frag) (C fI : Addr) (f : Str) : Bool :=
  ((PySem.W.excInitIn K C (exTail "ValueError") "ValueError.__new__" && PySem.W.excOver K C (exTail "ValueError")) || ((PySem.W.excInitIn K C (exTail "LookupError") "LookupError.__new__" && PySem.W.excOver K C (exTail "LookupError")) || (PySem.W.excInitIn K C (exTail "ArithmeticError") "ArithmeticError.__new__" && PySem.W.excOver K C (exTail "ArithmeticError")))) &&
  (isSN (PySem.W.takerIn K C f) && (PySem.W.hasDictIn K C && (He.eqO (PySem.W.findIn K (.ref C) "__setattr__") (some (some (.builtin "object.__setattr__"))) && (isAdr fI (PySem.W.findIn K (.ref C) "__init__") && (isTyp "function" (PySem.W.typeIn K (.ref fI)) &&
  (PySem.W.keepIn K (.ref C) && (decide (PySem.W.subIn K (.ref C) (.type "BaseException") = some true) && (isTyp "type" (PySem.W.typeIn K (.ref C)) && (xfB K C && isSN (PySem.W.findIn K (.ref C) f))))))))))
def xnCB (K : PySem.W.Frag) (C : Addr) : Bool :=
  (PySem.W.excIn K C (exTail "ValueError") "ValueError.__new__" || (PySem.W.excIn K C (exTail "LookupError") "LookupError.__new__" || PySem.W.excIn K C (exTail "ArithmeticError") "ArithmeticError.__new__")) &&
  (PySem.W.keepIn K (.ref C) && (decide (PySem.W.subIn K (.ref C) (.type "BaseException") = some true) && isTyp "type" (PySem.W.typeIn K (.ref C))))
def codeOf (K : PySem.W.Frag) (f : Addr) : Addr := match K.lookup f with
  | some ⟨_, _, .func fd, _⟩ => (match fd.code with | .ref c => c | _ => 0)
  | _ => 0
def tblOf (K : PySem.W.Frag) (c : Addr) : Addr := match K.lookup c with
  | some ⟨_, _, .fields vs, _⟩ => (match (vs[11]? : Option Value) with | some (Value.ref P) => P | _ => 0)
  | _ => 0
def codeB (K : PySem.W.Frag) (f : Addr) : Bool := match K.lookup f with
  | some ⟨_, _, .func fd, _⟩ => (match fd.code with
    | .ref c => (match K.lookup c with
      | some ⟨.type t, _, .fields vs, _⟩ => decide (t = "code") && (match (vs[11]? : Option Value), vs.getD 18 .none, vs.getD 7 .none, vs.getD 9 .none, vs.getD 10 .none with
        | some (Value.ref P), Value.str _ _, Value.int _ _, Value.bool _, Value.int _ _ => decide (c ≠ P) && (K.lookup P).isNone
        | _, _, _, _, _ => false)
      | _ => false)
    | _ => false)
  | _ => false
def codes (K : PySem.W.Frag) (fs : List Str) : List (Addr × Addr) := fs.map fun x => (codeOf K (He.ga K x), tblOf K (codeOf K (He.ga K x)))
end MP
set_option maxRecDepth 100000
set_option maxHeartbeats 1000000
namespace MP
open PySem PySem.Spec PyProof.Rows L2
variable [TabsP] [ThkP]
def prA (K : PySem.W.Frag) (C f : Str) : Addr := match PySem.W.recIn K (He.ma K (He.ga K C) f) "property" with
  | some (.ref g :: _) => g
  | _ => 0
def cmA (K : PySem.W.Frag) (C f : Str) : Addr := match PySem.W.recIn K (He.ma K (He.ga K C) f) "classmethod" with
  | some (.ref g :: _) => g
  | _ => 0
inductive Loc3 where
  | g (x : Str) | m (C f : Str) | p (C f : Str) | c (C f : Str)
def Loc3.at_ (K : PySem.W.Frag) : Loc3 → Addr
  | .g x => He.ga K x
  | .m C f => He.ma K (He.ga K C) f
  | .p C f => prA K C f
  | .c C f => cmA K C f
structure DefM where
  loc : Loc3
  name : Str
  qual : Str
  params : Arguments
  body : List Stmt
  scope : Scope
  dfl : List He.Dv := []
  kwd : List (Str × He.Dv) := []
def DefM.val (d : DefM) : He.FnW := some (d.name, d.qual, d.params, .stmts d.body, d.scope, mainGlobals, [], builtinsNs)
def DefM.dvs (K : PySem.W.Frag) (d : DefM) : List V := d.dfl.map (He.Dv.v K)
def DefM.kws (K : PySem.W.Frag) (d : DefM) : List (Str × V) := d.kwd.map fun p => (p.1, p.2.v K)
def fnA (K : PySem.W.Frag) (a : Addr) : He.FnW := match K.lookup a with
  | some ⟨_, _, .func fd, _⟩ => some (fd.name, fd.qualname, fd.params, fd.body, fd.scope, fd.globals, fd.closure, fd.builtins)
  | _ => none
def DefM.ok (K : PySem.W.Frag) (d : DefM) : Bool := PySem.W.keepIn K (.ref (d.loc.at_ K)) && (match K.lookup (d.loc.at_ K) with
  | some ⟨_, _, .func fd, _⟩ => PySem.W.codeIn K fd.code d.qual && (He.dflB K fd.defaults (d.dvs K) && He.kwdB K fd.kwdefaults (d.kws K))
  | _ => false)
theorem DefM.funD {K : PySem.W.Frag} {d : DefM} (e : fnA K (d.loc.at_ K) = d.val) (c : d.ok K = true) : ∃ fd, FunD K d.name d.qual d.params d.body d.scope (d.dvs K) (d.kws K) (d.loc.at_ K) fd := by
  obtain ⟨kp, c2⟩ := He.ba c
  unfold fnA at e
  cases q : K.lookup (d.loc.at_ K) with
  | none => rw [q] at c2; cases c2
  | some o =>
    rw [q] at c2 e
    obtain ⟨oc, od, dt, osl⟩ := o
    cases dt with
    | func fd =>
      obtain ⟨n1, n2, n3, n4, n5, n6, n7, n8, n9, n10, n11, n12, n13, n14, n15⟩ := fd
      have e2 : (some (n1, n2, n3, n4, n5, n6, n7, n15) : He.FnW) = d.val := e
      unfold DefM.val at e2
      simp only [Option.some.injEq, Prod.mk.injEq] at e2
      obtain ⟨h1, h2, h3, h4, h5, h6, h7, h8⟩ := e2
      subst h1 h2 h3 h4 h5 h6 h7 h8
      obtain ⟨k1, k2⟩ := He.ba c2
      obtain ⟨k3, k4⟩ := He.ba k2
      exact ⟨_, ⟨oc, od, n8, n9, n10, n11, n12, n13, n14, osl, rfl, q, k1, He.dflB_ok k3, He.kwdB_ok k4⟩, kp⟩
    | _ => cases c2
inductive Fm where
  | prop (C f : Str)
  | clsT (c : Str)
  | kit (c : Str) (T : String) (b : Bool)
  | kitT (T : String) (c : Str) (b : Bool)
  | kitC (c d : Str) (b : Bool)
  | kitA (c : Str)
  | strs (x : Str) (ws : List Str)
  | cm (C f : Str)
  | xc (C f : Str)
  | exm (c d : Str) (b : Bool)
  | xf (c f : Str)
  | code (x : Str)
  | dtup (C f : Str) (i : Nat)
  | excC (c : Str)
  | neO (c : Str)
  | xn (C : Str)
def clsTB (K : PySem.W.Frag) (c : Str) : Bool := (He.Fa.cls c).ok K && (He.eqO (PySem.W.findIn K (.ref (He.ga K c)) "__class__") (some (some (.builtin "object.__class__"))) && (He.eqO (PySem.W.specialIn K (.builtin "object.__class__") "__get__") (some (some (.builtin "getset_descriptor.__get__"))) &&
  (decide (PySem.W.takesIn K (.builtin "object.__class__") = some true) && decide (PySem.W.mroIn K (He.ga K c) (.type "object") = some true))))
theorem clsTB_ok {K : PySem.W.Frag} {c : Str} (h : clsTB K c = true) : ClsT K c := by
  obtain ⟨h1, h⟩ := He.ba h
  obtain ⟨h2, h⟩ := He.ba h
  obtain ⟨h3, h⟩ := He.ba h
  obtain ⟨h4, h5⟩ := He.ba h
  exact ⟨He.cls_ok h1, He.eqO_ok h2, He.eqO_ok h3, of_decide_eq_true h4, of_decide_eq_true h5⟩
def propB (K : PySem.W.Frag) (C f : Str) : Bool := He.eqO (PySem.W.findIn K (.ref (He.ga K C)) f) (some (some (.ref (He.ma K (He.ga K C) f)))) && (He.eqO (PySem.W.specialIn K (.ref (He.ma K (He.ga K C) f)) "__get__") (some (some (.builtin "property.__get__"))) &&
  (decide (PySem.W.takesIn K (.ref (He.ma K (He.ga K C) f)) = some true) && (match PySem.W.recIn K (He.ma K (He.ga K C) f) "property" with
    | some (.ref _ :: _) => true
    | _ => false)))
theorem propB_ok {K : PySem.W.Frag} {C f : Str} (h : propB K C f = true) : PropOf K (He.ga K C) f (He.ma K (He.ga K C) f) (prA K C f) := by
  obtain ⟨h1, h⟩ := He.ba h
  obtain ⟨h2, h⟩ := He.ba h
  obtain ⟨h3, h⟩ := He.ba h
  refine ⟨He.eqO_ok h1, He.eqO_ok h2, of_decide_eq_true h3, ?_⟩
  unfold prA
  split at h
  · rename_i g rest e
    rw [e]
    exact ⟨rest, rfl⟩
  · cases h
def isTupC : Value → Bool
  | .type n => decide (n = "tuple")
  | _ => false
theorem isTupC_ok {c : Value} (h : isTupC c = true) : c = .type "tuple" := by
  cases c with
  | type n => exact congrArg _ (of_decide_eq_true h)
  | _ => cases h
def strsB (K : PySem.W.Frag) (x : Str) (ws : List Str) : Bool := match K.lookup (He.ga K x) with
  | some ⟨cls, _, .seq its _, _⟩ => isTupC cls && (decide (its.size ≤ sizeLine) && He.relAll (ws.map V.str) its.toList)
  | _ => false
def dtupB (K : PySem.W.Frag) (C f : Str) (i : Nat) : Bool := match K.lookup (He.dflAt (C, some f) i K) with
  | some ⟨cls, _, .seq its _, _⟩ => isTupC cls && decide (its.toList = [])
  | _ => false
theorem dtupB_ok {K : PySem.W.Frag} {C f : Str} {i : Nat} {H : Hp} (h : dtupB K C f i = true) : SqT K H (He.dflAt (C, some f) i K) [] := by
  unfold dtupB at h
  split at h
  · rename_i cls dd its n sl e
    obtain ⟨h1, h2⟩ := He.ba h
    have h3 := of_decide_eq_true h2
    refine .inr ⟨_, its, n, e, isTupC_ok h1, rfl, ?_, by rw [h3]; exact .nil⟩
    have : its.size = 0 := by rw [← Array.length_toList, h3]; rfl
    omega
  · cases h
structure CmOf (K : PySem.W.Frag) (C : Addr) (f : Str) (p g : Addr) : Prop where
  rd : PySem.W.readsIn K C (.type "type") = true
  ga : PySem.W.specialIn K (.ref C) "__getattribute__" = some (some (.builtin "type.__getattribute__"))
  at_ : PySem.W.findCls K (.ref C) (.type "type") f = some (.get (.builtin "classmethod.__get__") (.ref p) .none (.ref C))
  rc : ∃ rest, PySem.W.recIn K p "classmethod" = some (.ref g :: rest)
  fi : PySem.W.fnIn K g = true
def cmB (K : PySem.W.Frag) (C f : Str) : Bool := PySem.W.readsIn K (He.ga K C) (.type "type") && (He.eqO (PySem.W.specialIn K (.ref (He.ga K C)) "__getattribute__") (some (some (.builtin "type.__getattribute__"))) && ((match PySem.W.findCls K (.ref (He.ga K C)) (.type "type") f with
    | some (.get (.builtin b) (.ref p) .none (.ref d)) => decide (b = "classmethod.__get__") && (decide (p = He.ma K (He.ga K C) f) && decide (d = He.ga K C))
    | _ => false) && ((match PySem.W.recIn K (He.ma K (He.ga K C) f) "classmethod" with
    | some (.ref _ :: _) => true
    | _ => false) && PySem.W.fnIn K (cmA K C f))))
theorem cmB_ok {K : PySem.W.Frag} {C f : Str} (h : cmB K C f = true) : CmOf K (He.ga K C) f (He.ma K (He.ga K C) f) (cmA K C f) := by
  obtain ⟨h1, h⟩ := He.ba h
  obtain ⟨h2, h⟩ := He.ba h
  obtain ⟨h3, h⟩ := He.ba h
  obtain ⟨h4, h5⟩ := He.ba h
  refine ⟨h1, He.eqO_ok h2, ?_, ?_, h5⟩
  · split at h3
    · rename_i b p d e
      obtain ⟨k1, k⟩ := He.ba h3
      obtain ⟨k2, k3⟩ := He.ba k
      rw [e, of_decide_eq_true k1, of_decide_eq_true k2, of_decide_eq_true k3]
    · cases h3
  · unfold cmA
    split at h4
    · rename_i g rest e
      rw [e]
      exact ⟨rest, rfl⟩
    · cases h4
def excCB (K : PySem.W.Frag) (C : Addr) : Bool := xfB K C && (He.eqO (PySem.W.findIn K (.ref C) "__class__") (some (some (.builtin "object.__class__"))) && (He.eqO (PySem.W.specialIn K (.builtin "object.__class__") "__get__") (some (some (.builtin "getset_descriptor.__get__"))) && (decide (PySem.W.takesIn K (.builtin "object.__class__") = some true) && decide (PySem.W.mroIn K C (.type "object") = some true))))
def Fm.ok (K : PySem.W.Frag) : Fm → Bool
  | .prop C f => propB K C f
  | .clsT c => clsTB K c
  | .kit c T b => decide (PySem.W.kitOne K (.ref (He.ga K c)) (.type T) = some b)
  | .kitT T c b => decide (PySem.W.kitOne K (.type T) (.ref (He.ga K c)) = some b)
  | .kitC c d b => decide (PySem.W.kitOne K (.ref (He.ga K c)) (.ref (He.ga K d)) = some b)
  | .kitA c => tyNs.all fun n => decide (PySem.W.kitOne K (.type n) (.ref (He.ga K c)) = some false)
  | .strs x ws => strsB K x ws
  | .cm C f => cmB K C f
  | .xc C f => xcB K (He.ga K C) (He.ma K (He.ga K C) "__init__") f
  | .exm c d b => decide (PySem.W.exmOne K (.ref (He.ga K c)) (.ref (He.ga K d)) = some b)
  | .xf c f => xfB K (He.ga K c) && isSN (PySem.W.findIn K (.ref (He.ga K c)) f)
  | .code x => codeB K (He.ga K x)
  | .dtup C f i => dtupB K C f i
  | .excC c => excCB K (He.ga K c)
  | .xn c => xnCB K (He.ga K c)
  | .neO c => He.eqO (PySem.W.findIn K (.ref (He.ga K c)) "__ne__") (some (some (.builtin "object.__ne__"))) && decide (PySem.W.mroIn K (He.ga K c) (.type "object") = some true)
theorem kitA_ok {K : PySem.W.Frag} {c : Str} (h : (Fm.kitA c).ok K = true) : ∀ n ∈ tyNs, PySem.W.kitOne K (.type n) (.ref (He.ga K c)) = some false := fun n hn => of_decide_eq_true (List.all_eq_true.mp h n hn)
abbrev AlM : Type := Bool × List He.FnW
def obsM (fa : List He.Fa) (fm : List Fm) (fn : List DefM) (K : PySem.W.Frag) : AlM := ((fa.all fun f => f.ok K) && ((fm.all fun f => f.ok K) && fn.all fun d => d.ok K), fn.map fun d => fnA K (d.loc.at_ K))
def valM (fn : List DefM) : AlM := (true, fn.map DefM.val)
def SaysM (fa : List He.Fa) (fm : List Fm) (fn : List DefM) (K : PySem.W.Frag) : Prop := obsM fa fm fn K = valM fn
section
variable {fa : List He.Fa} {fm : List Fm} {fn : List DefM} {K : PySem.W.Frag}
theorem SaysM.all (c : SaysM fa fm fn K) : (fa.all fun f => f.ok K) = true ∧ (fm.all fun f => f.ok K) = true ∧ (fn.all fun d => d.ok K) = true := by
  have e : ((fa.all fun f => f.ok K) && ((fm.all fun f => f.ok K) && fn.all fun d => d.ok K)) = true := congrArg (fun z : AlM => z.1) c
  obtain ⟨h1, h⟩ := He.ba e
  obtain ⟨h2, h3⟩ := He.ba h
  exact ⟨h1, h2, h3⟩
theorem SaysM.a (c : SaysM fa fm fn K) (i : Nat) {f : He.Fa} (h : fa[i]? = some f) : f.ok K = true := List.all_eq_true.mp c.all.1 f (List.mem_of_getElem? h)
theorem SaysM.b (c : SaysM fa fm fn K) (i : Nat) {f : Fm} (h : fm[i]? = some f) : f.ok K = true := List.all_eq_true.mp c.all.2.1 f (List.mem_of_getElem? h)
theorem SaysM.d (c : SaysM fa fm fn K) (i : Nat) {d : DefM} (h : fn[i]? = some d) : ∃ fd, FunD K d.name d.qual d.params d.body d.scope (d.dvs K) (d.kws K) (d.loc.at_ K) fd := by
  refine DefM.funD ?_ (List.all_eq_true.mp c.all.2.2 d (List.mem_of_getElem? h))
  have e : (fn.map fun d => fnA K (d.loc.at_ K)) = fn.map DefM.val := congrArg (fun z : AlM => z.2) c
  have e2 := congrArg (fun l : List He.FnW => l[i]?) e
  simp only [List.getElem?_map, h, Option.map_some, Option.some.injEq] at e2
  exact e2
end
theorem takesX {P : Program} {w : World} {K : PySem.W.Frag} {mg : Str → Option Value} {base : Heap} {N : List Str} {qual : Str} {scope : Scope} {f : Addr} {cd : Value} {A : Around} {outer : List Env} {s : Shared} {H : Hp} {E : XK} :
    Takes (cxOf (L2.CX P w) P w K mg base N qual scope f cd A outer s H E) (wxE E) := takes_of (X := cxOf (L2.CX P w) P w K mg base N qual scope f cd A outer s H E) (E := E) rfl rfl rfl rfl
theorem pasX {P : Program} {w : World} {K : PySem.W.Frag} {mg : Str → Option Value} {base : Heap} {N : List Str} {qual : Str} {scope : Scope} {f : Addr} {cd : Value} {A : Around} {outer : List Env} {s : Shared} {H : Hp} {E : XK} :
    Pas (cxOf (L2.CX P w) P w K mg base N qual scope f cd A outer s H E) (wxE E) := fun σ => passAt takesX σ
theorem ownX {P : Program} {w : World} {K : PySem.W.Frag} {mg : Str → Option Value} {base : Heap} {N : List Str} {qual : Str} {scope : Scope} {f : Addr} {cd : Value} {A : Around} {outer : List Env} {s : Shared} {H : Hp} {E : XK} :
    PassesOwn (model (cxOf (L2.CX P w) P w K mg base N qual scope f cd A outer s H E).prog w) (cxOf (L2.CX P w) P w K mg base N qual scope f cd A outer s H E).A (cxOf (L2.CX P w) P w K mg base N qual scope f cd A outer s H E).env (cxOf (L2.CX P w) P w K mg base N qual scope f cd A outer s H E).xe := passes_of (X := cxOf (L2.CX P w) P w K mg base N qual scope f cd A outer s H E) rfl
def CXa (P : Program) : CXT := fun outer H s E u s' => ∃ w, L2.CX P w outer H s E u s'
theorem fn_any {P : Program} {w : World} {K : PySem.W.Frag} {mg : Str → Option Value} {base : Heap} {k : Nat} {f : Addr} {fd : FuncData} {ps : List Str} {sp : Sp} (F : FnOk P w K mg base (L2.CX P w) k f fd ps sp) : FnOk P w K mg base (CXa P) k f fd ps sp := by
  refine ⟨F.len, fun A outer s H args us vs Q E hr he hb hv hs => codeAny_mono (F.run A outer s H args us vs Q E hr he hb hv hs) fun r s' q => ?_⟩
  cases r with
  | error e => exact ⟨w, q⟩
  | ok fl => cases fl <;> exact q
theorem cxa_end {P : Program} (H : Hp) (s : Shared) (e : Value) (s' : Shared) (c : CXa P [] H s (fun _ _ _ => False) e s') : False := by
  obtain ⟨_, _, _, _, _, _, _, _, _, _, _, _, _, z⟩ := c
  exact z
theorem law_sp {K : PySem.W.Frag} {c : List D → List D → R} {H : Hp} {a : Addr} {ns : List Int} (hS : SqL K H a (ns.map V.int)) (h : ∃ M, c [.scr ns] [] = .ok (.bl true) M) (hT : LamX.Tabs TabsP.ts H := by exact fun _ z => nomatch z) : spD K (DE K) 1 c [.ref a] H (fun v _ => v = .bl true) fun _ _ _ => False := by
  refine ⟨rfl, H, [], [], [.scr ns], ⟨fun _ _ h => h, rfl, List.nodup_nil, fun n a d h => by simp at h, hT⟩, .cons (.scr hS) .nil, ?_⟩
  obtain ⟨M, h⟩ := h
  rw [h]
  intro v F' Ad' H' _ _ x
  cases x; rfl
end MP
set_option maxRecDepth 100000
set_option maxHeartbeats 2000000
namespace MP
open PySem PySem.Spec PyProof.Rows L2
variable [TabsP] [ThkP]
theorem law_callG {P : Program} {w : World} {K : PySem.W.Frag} {mg mb : Str → Option Value} {CX : CXT} {k : Nat} {fa a : Addr} {fd : FuncData} {x : Str} {sp : Sp} {s₁ : Shared} {vs : List Value} {ns : List Int}
    (KX : K.In s₁.heap) (hns : s₁.heap.Ns mainGlobals mg) (hb : s₁.heap.Ns builtinsNs mb) (hbb : ∀ x : Str, x ≠ "__name__" → mb x = bootBuiltins x) (hlim : s₁.heap.NoLimit) (hg : s₁.gens = #[])
    (ha : s₁.heap.get? a = some { cls := .type "list", data := .seq vs.toArray }) (hi : IntsAre vs ns) (hl : ns.length ≤ sizeLine) (hr : MP.Room k callerA)
    (F : ∀ base : Heap, K.In base → base.Ns mainGlobals mg → MP.FnOk P w K mg base CX k fa fd [x] sp) (hbind : ∀ (s : Shared) (u : Value), BindsTo s fd ⟨[u], []⟩ [(x, u)])
    (hsp : ∀ H : Hp, Only H → SqL K H a (ns.map V.int) → sp [.ref a] H (fun v _ => v = .bl true) fun _ _ _ => False)
    (hCX : ∀ H e s', CX [] H s₁ (fun _ _ _ => False) e s' → False) :
    codeAny (model P w) callerA (.call (.ref fa) ⟨[.ref a], []⟩) (fun r s' => r = .ok (.ret (.bool true)) ∧ OldK s₁.heap s'.heap ∧ s'.os = s₁.os ∧ AllBare s'.gens) s₁ := by
  have core : ∀ H : Hp, Only H → SqL K H a (ns.map V.int) → HOk P w H s₁.heap → (∀ b, H b ≠ none → b = a) → (H a ≠ none → K.lookup a = none) →
      codeAny (model P w) callerA (.call (.ref fa) ⟨[.ref a], []⟩) (fun r s' => r = .ok (.ret (.bool true)) ∧ OldK s₁.heap s'.heap ∧ s'.os = s₁.os ∧ AllBare s'.gens) s₁ := by
    intro H hO hS hok hA hK
    have out : ∀ {b : Addr} {o : Obj}, s₁.heap.get? b = some o → b ≠ a → (hidT s₁.heap H).get? b = some o := fun {b o} e ne => hidT_get e (by
      cases q : H b with
      | none => rfl
      | some u => exact absurd (hA b (by simp [q])) ne)
    have nsK : ∀ {b : Addr} {m : Str → Option Value}, s₁.heap.Ns b m → (hidT s₁.heap H).Ns b m := fun {b m} ⟨o, es, ep, e, d, r⟩ => ⟨o, es, ep, out e (by
      rintro rfl
      rw [ha] at e; cases e
      exact Data.noConfusion d), d, r⟩
    have hKb : K.In (hidT s₁.heap H) := fun b o e => by
      by_cases z : b = a
      · subst z
        refine hidT_get (KX b o e) ?_
        cases q : H b with
        | none => rfl
        | some u => rw [hK (by simp [q])] at e; cases e
      · exact out (KX b o e) z
    obtain ⟨mc, l1, l2⟩ := hlim
    have hM : Mod K mg (hidT s₁.heap H) := ⟨hKb, nsK hns, ⟨mb, nsK hb, hbb⟩, ⟨mc, nsK l1, l2⟩⟩
    have e0 : Env0 P w K mg (hidT s₁.heap H) callerA [] s₁ H := ⟨rfl, hM, fun b o e => of_hidT e, Nat.le_of_eq (hidT_size _ _), trivial, fun b hb => absurd (show b ∈ ([] : List Addr) from hb) (by simp), hok, .of_eq hg⟩
    refine codeAny_mono ((F _ hKb (nsK hns)).run callerA [] s₁ H ⟨[.ref a], []⟩ [.ref a] [.ref a] _ _ hr e0 (hbind s₁ (.ref a)) (.cons rfl .nil) (hsp H hO hS)) fun r s' h => ?_
    cases r with
    | error e => exact (hCX H e s' h).elim
    | ok fl => cases fl with
      | ret u =>
        obtain ⟨v, H', os, bare, un, hok', r', q⟩ := h
        cases (show v = .bl true from q)
        cases (show u = Value.bool true from r')
        refine ⟨rfl, OldK.of_keep fun b o e => ?_, os, bare⟩
        cases q : H b with
        | none => exact un.keep b o e q (by intro z; exact absurd (show b ∈ ([] : List Addr) from z) (by simp)) (by simp)
        | some u =>
          rcases hO b with z | ⟨ob, xs, z⟩
          · rw [q] at z; cases z
          · have e1 := (hok b _ z).1
            have e2 := (hok' b _ (un.frzs b ob _ z)).1
            rw [e] at e1; cases e1
            exact e2
      | _ => exact (show False from h).elim
  cases hk : K.lookup a with
  | some o =>
    have e := KX a o hk
    rw [ha] at e; cases e
    exact core (fun _ => none) (fun _ => .inl rfl) (.inr ⟨_, vs.toArray, _, hk, rfl, rfl, rfl, by rw [List.size_toArray, hi.length]; exact hl, by simpa using vals_ints hi⟩) (fun b u z => nomatch z) (fun b z => absurd rfl z) fun z => absurd rfl z
  | none =>
    have at_ : ∀ {b : Addr} {u : HO}, (if b = a then some (HO.frz { cls := .type "list", data := .seq vs.toArray } (.lst (ns.map V.int))) else none) = some u → b = a ∧ u = .frz { cls := .type "list", data := .seq vs.toArray } (.lst (ns.map V.int)) := fun {b u} z => by
      split at z
      · exact ⟨‹_›, by cases z; rfl⟩
      · cases z
    refine core (fun b => if b = a then some (.frz { cls := .type "list", data := .seq vs.toArray } (.lst (ns.map V.int))) else none) (fun b => ?_) (.inl (.inr ⟨{ cls := .type "list", data := .seq vs.toArray }, if_pos rfl⟩)) (fun b u z => ?_) (fun b z => ?_) fun _ => hk
    · by_cases hb : b = a
      · exact .inr ⟨_, _, if_pos hb⟩
      · exact .inl (if_neg hb)
    · obtain ⟨rfl, rfl⟩ := at_ z
      exact ⟨ha, by rw [List.length_map]; exact hl, vs, _, vals_ints hi, ha⟩
    · by_cases hb : b = a
      · exact hb
      · exact absurd (if_neg hb) z
theorem walk_ofG {l : PySem.W.OpenLaw} {n k : Nat} {q : Program} {loose : List Str} {XP : (Str → Option Value) → Heap → Prop} {YP : World → Heap → Prop} {d : DefRec} {CX : CXT} {x : Str}
    (hn : l.most = some n) (hn2 : n ≤ sizeLine) (hdf : d.params.defaults = []) (hr : L2.Room k callerA)
    (F : ∀ (w : World) (mg : Str → Option Value) (fa : Addr) (h : Heap), YP w h → h.Ns mainGlobals mg → mg d.name = some (.ref fa) →
      ∃ (K : PySem.W.Frag) (fd : FuncData) (sp : Sp), K.In h ∧ (∀ (s : Shared) (u : Value), BindsTo s fd ⟨[u], []⟩ [(x, u)]) ∧
        (∀ (H : Hp) (a : Addr) (ns : List Int), ns.length ≤ n → Only H → SqL K H a (ns.map V.int) → sp [.ref a] H (fun v _ => v = .bl true) fun _ _ _ => False) ∧
        ∀ base : Heap, K.In base → base.Ns mainGlobals mg → MP.FnOk l.prog w K mg base CX k fa fd [x] sp)
    (hCX : ∀ (H : Hp) (s : Shared) (e : Value) (s' : Shared), CX [] H s (fun _ _ _ => False) e s' → False) :
    PySem.W.WalkO q loose XP YP l.row.toRowW d [] (fun f vs => PySem.call f vs) :=
  Att.attach_call hn hdf fun w s₀ s₁ mg mb fa o pm cd doc a vs ns G Y ho hd hcd hmg hobj hints hlen hg => by
    obtain ⟨K, fd, sp, KX, hb, hsp, hF⟩ := F w mg fa _ Y G.T.g hmg
    exact law_callG KX G.T.g G.T.b G.T.builtins G.T.nolimit hg hobj hints (Nat.le_trans hlen hn2) ⟨hr, rfl⟩ hF hb (fun H hO hS => hsp H a ns hlen hO hS) fun H e s' => hCX H s₁ e s'
end MP
set_option maxRecDepth 100000
set_option maxHeartbeats 1000000
namespace MP
open PySem PySem.Spec PyProof.Rows L2
variable [TabsP] [ThkP]
section
variable {X : Cx} {W : WX} {K : PySem.W.Frag} {DR : DRel} {N0 : Ent} {F H : Hp} {Ad : List Addr} {M : List D} {env : EnvM} {σ : St} {Q : VK} {a b c : Expr} {fa fb fc : EF} {pos : Pos}
theorem chain_read {op op' : CmpOp} {g g' : D → D → List D → R} (h : tG X.K W (DE X.K) (eChain g g' fa fb fc) σ H Q) :
    tChain (rOp X (fun c d H => W c d σ H) (DE X.K) g) (rOp X (fun c d H => W c d σ H) (DE X.K) g') (tG X.K W (DB X.K) fa) (tG X.K W (DB X.K) fb) (tG X.K W (DB X.K) fc) σ H Q := by
  obtain ⟨N0, F, Ad, M, env, m, en, r⟩ := h
  refine tG_seq DE.ok m en r fun d M1 v F1 Ad1 H1 g1 m1 en1 x1 r1 => ?_
  refine tG_seq DE.ok m1 en1 r1 fun d2 M2 v2 F2 Ad2 H2 g2 m2 en2 x2 r2 => ?_
  refine ⟨F2, Ad2, M2, d, d2, m2, DB.gr g2 x1, x2, ?_⟩
  cases q : g d d2 M2 with
  | ok d3 M3 =>
    rw [q] at r2
    intro v3 F3 Ad3 H3 g3 m3 x3
    have r3 := RP.gr DE.ok r2 g3
    have en3 := en2.gr g3
    cases d3 with
    | bl k =>
      cases x3
      refine ⟨k, rfl, ?_⟩
      cases k with
      | true =>
        refine tG_seq DE.ok m3 en3 r3 fun d4 M4 v4 F4 Ad4 H4 g4 m4 en4 x4 r4 => ?_
        exact ⟨F4, Ad4, M4, d2, d4, m4, DB.gr g4 (DB.gr g3 x2 (H0' := H3)), x4, r4⟩
      | false => exact RP.here r3 m3 .bl
    | _ => exact r3.elim
  | exc x M3 => rw [q] at r2; exact r2
  | stuck => rw [q] at r2; exact r2
theorem se_ch {op op' : CmpOp} {g g' : D → D → List D → R} (ho : Op2 X (DE X.K) (compareOp op) g) (ho' : Op2 X (DE X.K) (compareOp op') g') (ha : SB X W a fa) (hb : SB X W b fb) (hc : SB X W c fc) (hm : lastMarks [op, op'] [b, c] = false := by rfl) :
    SE X W (.Compare a [op, op'] [b, c] pos) (eChain g g' fa fb fc) :=
  ⟨fun pins s σ H Q I h => (pe_chain (ho.opR (E := fun c d H => W c d σ H)) (ho'.opR (E := fun c d H => W c d σ H)) ha hb hc hm).run pins s σ H Q I (chain_read (op := op) (op' := op') h)⟩
theorem st_ch {op op' : CmpOp} {g g' : D → D → List D → R} (ho : Op2 X (DE X.K) (compareOp op) g) (ho' : Op2 X (DE X.K) (compareOp op') g') (ha : SB X W a fa) (hb : SB X W b fb) (hc : SB X W c fc) (hm : lastMarks [op, op'] [b, c] = false := by rfl) :
    ST X W (.Compare a [op, op'] [b, c] pos) (eChain g g' fa fb fc) :=
  ⟨fun pins s σ H Q I ⟨N0, F, Ad, M, env, m, en, r⟩ => (pt_chain (ho.opR (E := fun c d H => W c d σ H)) (ho'.opR (E := fun c d H => W c d σ H)) ha hb hc hm).run pins s σ H Q I (chain_read (op := op) (op' := op') ⟨N0, F, Ad, M, env, m, en, by
    cases q : eChain g g' fa fb fc env M with
    | ok d M1 =>
      rw [q] at r
      intro v F' Ad' H' g m' x
      cases d with
      | bl b => cases x; exact ⟨b, rfl, r F' Ad' H' g m'⟩
      | _ => exact r.elim
    | exc x M1 => rw [q] at r; exact r
    | stuck => rw [q] at r; exact r⟩)⟩
def bPar (i j : Nat) (fa fb : EF) : SF := fun env M => (fa env M).bindS env fun d M1 => (fb env M1).bindS env fun d2 M2 => match gAll [i, j] [d, d2] env with
  | some env1 => .next env1 M2
  | none => .stuck
theorem ss_par {i j : Nat} {x y : Str} {px py pt : Pos} {kt k2 pt2} (hc : X.calm = true) (hN : X.N.Nodup) (hi : X.N[i]? = some x) (hj : X.N[j]? = some y) (hij : i ≠ j)
    (hx : X.env.scope.names.lookup x = some .local) (hy : X.env.scope.names.lookup y = some .local) (ha : SE X W a fa) (hb : SE X W b fb)
    (hw : swappedStores [.Tuple [.Name x px, .Name y py] kt pt] (.Tuple [a, b] k2 pt2) X.env = pure (some [x, y]) := by rfl)
    (hs : swapsWithSole [.Tuple [.Name x px, .Name y py] kt pt] (.Tuple [a, b] k2 pt2) pos.line X.env = pure false := by rfl)
    (s1 : starEach [a, b] X.env = (false, eval a X.env) :: starEach [b] X.env := by rfl) (s2 : starEach [b] X.env = (false, eval b X.env) :: starEach [] X.env := by rfl) :
    SS X W DR (.Assign [.Tuple [.Name x px, .Name y py] kt pt] (.Tuple [a, b] k2 pt2) pos) (bPar i j fa fb) :=
  PS.imp (ps_par hc hN hi hj hij hx hy (pa_cons ha (pa_cons hb pa_nil s2) s1) hw hs) fun E σ H ⟨N0, F, Ad, M, env, ge0, m, en, r⟩ =>
    tE_of ge0 m en r fun d M1 v F1 Ad1 H1 g1 ge m1 en1 x1 r1 => tE_of ge m1 en1 r1 fun d2 M2 v2 F2 Ad2 H2 g2 ge2 m2 en2 x2 r2 => by
      refine ⟨v, v2, rfl, ?_⟩
      cases h : gAll [i, j] [d, d2] env with
      | none => rw [h] at r2; exact r2.elim
      | some env1 =>
        rw [h] at r2
        simp only [gAll, Option.bind_eq_some_iff] at h
        obtain ⟨e1, h1, e2, h2, h3⟩ := h
        cases h3
        exact r2 _ F2 Ad2 H2 ge2 (FLe.refl _) pre_refl m2 ((en2.set (x1.mono g2.fle g2.pre) h1).set x2 h2)
end
end MP
set_option maxRecDepth 100000
set_option maxHeartbeats 1000000
namespace MP
open PySem PySem.Spec PyProof.Rows L2
variable [TabsP] [ThkP]
section
variable {X : Cx} {W : WX} {x : Str} {pos : Pos}
theorem vE (i : Nat) (hN : X.N[i]? = some x := by rfl) (hv : Vis X.env.scope x := by first | exact Or.inl rfl | exact Or.inr (Or.inl rfl) | exact Or.inr (Or.inr rfl)) (hd : (x == ("__debug__" : Str)) = false := by decide) (hcd : (x == ("__classdict__" : Str)) = false := by decide) : SE X W (.Name x pos) (eV i) := se_var hN hv hd hcd
theorem vB (i : Nat) (hN : X.N[i]? = some x := by rfl) (hv : Vis X.env.scope x := by first | exact Or.inl rfl | exact Or.inr (Or.inl rfl) | exact Or.inr (Or.inr rfl)) (hd : (x == ("__debug__" : Str)) = false := by decide) (hcd : (x == ("__classdict__" : Str)) = false := by decide) : SB X W (.Name x pos) (eVB i) := sb_var hN hv hd hcd
theorem pgN (i : Nat) (hN : X.N.Nodup) (hi : X.N[i]? = some x := by rfl) (hx : Loc X.env.scope x := by first | exact Or.inl rfl | exact Or.inr rfl) (hf : X.fn x = true ∨ X.env.scope.names.lookup x = some .local := by first | exact .inl rfl | exact .inr rfl) : PG X (.Name x pos) (gName i) := pg_name hN hi hx hf
end
theorem u1 {k : Nat} {A : Around} (r : Room k A) : A.units + 1 < cLine := by have := r.units; omega
def clsB : Stmt → List Stmt
  | .ClassDef (body := b) .. => b
  | _ => []
end MP
set_option maxRecDepth 100000
set_option maxHeartbeats 1000000
namespace MP
open PySem L2
variable [TabsP] [ThkP]
@[simp] theorem R.bind_stuck {k} : R.stuck.bind k = .stuck := rfl
def RS.seq (r : RS) (k : SF) : RS := match r with
  | .next env M => k env M
  | r => r
@[simp] theorem RS.seq_next {env M k} : (RS.next env M).seq k = k env M := rfl
@[simp] theorem RS.seq_ret {d M k} : (RS.ret d M).seq k = .ret d M := rfl
@[simp] theorem RS.seq_cont {d M k} : (RS.cont d M).seq k = .cont d M := rfl
@[simp] theorem RS.seq_brk {d M k} : (RS.brk d M).seq k = .brk d M := rfl
@[simp] theorem RS.seq_stuck {k} : RS.stuck.seq k = .stuck := rfl
section
variable {f g fa fb fc fk fv a b c : EF} {l : LF} {env : EnvM} {M : List D} {p q : SF} {i j n : Nat} {d x y : D} {G : D → D → List D → R}
@[simp] theorem bSeq_eq : bSeq p q env M = (p env M).seq q := rfl
@[simp] theorem bNext_eq : bNext env M = .next env M := rfl
@[simp] theorem bPass_eq : bPass env M = .next env M := rfl
@[simp] theorem bBrk_eq : bBrk env M = .brk env M := rfl
@[simp] theorem bCont_eq : bCont env M = .cont env M := rfl
@[simp] theorem bRetN_eq : bRetN env M = .ret .non M := rfl
@[simp] theorem bRet_eq : bRet f env M = (f env M).bindS env fun d M1 => .ret d M1 := rfl
@[simp] theorem bExpr_eq : bExpr f env M = (f env M).bindS env fun _ M1 => .next env M1 := rfl
def setR (o : Option EnvM) (M : List D) : RS := match o with
  | some env1 => .next env1 M
  | none => .stuck
@[simp] theorem setR_some : setR (some env) M = .next env M := rfl
@[simp] theorem bSet_eq : bSet i f env M = (f env M).bindS env fun d M1 => setR (gN i d env) M1 := rfl
@[simp] theorem bSetT_eq {js} : bSetT js f env M = (f env M).bindS env fun d M1 => setR (gT js d env) M1 := rfl
@[simp] theorem bOwn_eq : bOwn i f env M = (f env M).bindS env fun d M1 => setR (oN i d env) M1 := rfl
@[simp] theorem bPar_eq : bPar i j fa fb env M = (fa env M).bindS env fun d M1 => (fb env M1).bindS env fun d2 M2 => setR (gAll [i, j] [d, d2] env) M2 := rfl
def gNb (o : Option B) (env : EnvM) (i : Nat) (b : B) : Option EnvM := match o with
  | some (.slf _) => none
  | some _ => some (env.set i b)
  | none => none
@[simp] theorem gNb_no {b} : gNb (some .no) env i b = some (env.set i b) := rfl
@[simp] theorem gNb_shr {b} : gNb (some (.shr d)) env i b = some (env.set i b) := rfl
@[simp] theorem gNb_own {b} : gNb (some (.own d)) env i b = some (env.set i b) := rfl
def B.free (b : B) : Prop := match b with | .slf _ => False | _ => True
@[simp] theorem gNb_free {b c : B} (h : c.free) : gNb (some c) env i b = some (env.set i b) := by
  cases c <;> first | rfl | exact h.elim
@[simp] theorem free_no : B.free .no := trivial
@[simp] theorem free_shr : B.free (.shr d) := trivial
@[simp] theorem free_own : B.free (.own d) := trivial
@[simp] theorem free_par : B.free (.par d) := trivial
@[simp] theorem gN_eq : gN i d env = gNb env[i]? env i (.shr d) := by unfold gN gNb; split <;> simp_all
@[simp] theorem oN_eq : oN i d env = gNb env[i]? env i (.own d) := by unfold oN gNb; split <;> simp_all
@[simp] theorem gAll_nil : gAll [] [] env = some env := rfl
@[simp] theorem gAll_cons {js ds} : gAll (j :: js) (d :: ds) env = (gN j d env).bind (gAll js ds) := rfl
@[simp] theorem gT_tup {js ds} : gT js (.tup ds) env = gAll js ds env := rfl
def iteS (d : D) (r s : RS) : RS := match d with
  | .bl true => r
  | .bl false => s
  | _ => .stuck
@[simp] theorem iteS_bl {b : Bool} {r s} : iteS (.bl b) r s = if b = true then r else s := by cases b <;> rfl
theorem bindS_fun {k k' : D → List D → RS} (h : ∀ d M, k d M = k' d M) {r : R} : r.bindS env k = r.bindS env k' := by
  have : k = k' := by funext d M; exact h d M
  rw [this]
@[simp] theorem bIf_eq : bIf f p q env M = (f env M).bindS env fun d M1 => iteS d (p env M1) (q env M1) := by
  unfold bIf
  exact bindS_fun fun d M1 => by cases d <;> first | rfl | (rename_i b; cases b <;> rfl)
def iteR (d : D) (r s : R) : R := match d with
  | .bl true => r
  | .bl false => s
  | _ => .stuck
@[simp] theorem iteR_bl {b : Bool} {r s} : iteR (.bl b) r s = if b = true then r else s := by cases b <;> rfl
theorem iteR_fun {k k' : D → List D → R} (h : ∀ d M, k d M = k' d M) {r : R} : r.bind k = r.bind k' := by
  have : k = k' := by funext d M; exact h d M
  rw [this]
@[simp] theorem eIf_eq : eIf c a b env M = (c env M).bind fun x M1 => iteR x (a env M1) (b env M1) := by
  unfold eIf
  exact iteR_fun fun d M1 => by cases d <;> first | rfl | (rename_i b; cases b <;> rfl)
@[simp] theorem eAnd_eq : eAnd a b env M = (a env M).bind fun x M1 => iteR x (b env M1) (.ok (.bl false) M1) := by
  unfold eAnd
  exact iteR_fun fun d M1 => by cases d <;> first | rfl | (rename_i b; cases b <;> rfl)
@[simp] theorem eOr_eq : eOr a b env M = (a env M).bind fun x M1 => iteR x (.ok (.bl true) M1) (b env M1) := by
  unfold eOr
  exact iteR_fun fun d M1 => by cases d <;> first | rfl | (rename_i b; cases b <;> rfl)
def notR (d : D) (M : List D) : R := match d with | .bl c => .ok (.bl !c) M | _ => .stuck
@[simp] theorem notR_bl {b : Bool} : notR (.bl b) M = .ok (.bl !b) M := rfl
@[simp] theorem eNot_eq : eNot a env M = (a env M).bind notR := by
  unfold eNot
  exact iteR_fun fun d M1 => by cases d <;> rfl
@[simp] theorem eChain_eq {G G'} : eChain G G' a b c env M = (a env M).bind fun x M1 => (b env M1).bind fun y M2 => (G x y M2).bind fun r M3 => iteR r ((c env M3).bind fun z M4 => G' y z M4) (.ok (.bl false) M3) := by
  unfold eChain
  refine iteR_fun fun x M1 => iteR_fun fun y M2 => iteR_fun fun r M3 => ?_
  cases r <;> first | rfl | (rename_i b; cases b <;> rfl)
@[simp] theorem eC_eq : eC d env M = .ok d M := rfl
@[simp] theorem eNew_eq : eNew d env M = .ok d M := rfl
@[simp] theorem e2_eq : e2 G a b env M = (a env M).bind fun x M1 => (b env M1).bind fun y M2 => G x y M2 := rfl
@[simp] theorem e1_eq {g : D → List D → R} : e1 g a env M = (a env M).bind g := rfl
def getE (o : Option B) (M : List D) : R := match o with | some (.shr d) => .ok d M | _ => .stuck
def getB (o : Option B) (M : List D) : R := match o with | some (.shr d) => .ok d M | some (.own d) => .ok d M | some (.slf d) => .ok d M | _ => .stuck
@[simp] theorem getE_shr : getE (some (.shr d)) M = .ok d M := rfl
@[simp] theorem getB_shr : getB (some (.shr d)) M = .ok d M := rfl
@[simp] theorem getB_own : getB (some (.own d)) M = .ok d M := rfl
@[simp] theorem getB_slf : getB (some (.slf d)) M = .ok d M := rfl
@[simp] theorem eV_eq : eV i env M = getE env[i]? M := by unfold eV getE; split <;> simp_all
@[simp] theorem eVB_eq : eVB i env M = getB env[i]? M := by unfold eVB getB; split <;> simp_all
@[simp] theorem lNil_eq : lNil env M = .ok [] M := rfl
@[simp] theorem lCons_eq : lCons a l env M = (a env M).bindL fun x M1 => (l env M1).bindL fun xs M2 => .ok (x :: xs) M2 := rfl
@[simp] theorem eCall_eq {g} : eCall g l env M = (l env M).bind g := rfl
def lenR (f : List D → D) (xs : List D) (M : List D) : R := if xs.length ≤ sizeLine then .ok (f xs) M else .stuck
@[simp] theorem lenR_le {f xs} (h : xs.length ≤ sizeLine) : lenR f xs M = .ok (f xs) M := by unfold lenR; rw [if_pos h]
@[simp] theorem lenR0 {f} : lenR f [] M = .ok (f []) M := lenR_le (Nat.zero_le _)
@[simp] theorem lenR1 {f a1} : lenR f [a1] M = .ok (f [a1]) M := lenR_le (show 1 ≤ sizeLine by decide)
@[simp] theorem lenR2 {f a1 a2} : lenR f [a1, a2] M = .ok (f [a1, a2]) M := lenR_le (show 2 ≤ sizeLine by decide)
@[simp] theorem lenR3 {f a1 a2 a3} : lenR f [a1, a2, a3] M = .ok (f [a1, a2, a3]) M := lenR_le (show 3 ≤ sizeLine by decide)
@[simp] theorem lenR4 {f a1 a2 a3 a4} : lenR f [a1, a2, a3, a4] M = .ok (f [a1, a2, a3, a4]) M := lenR_le (show 4 ≤ sizeLine by decide)
@[simp] theorem eTup_eq : eTup l env M = (l env M).bind (lenR .tup) := rfl
@[simp] theorem eLst_eq : eLst l env M = (l env M).bind (lenR .lst) := rfl
@[simp] theorem eCell_eq : eCell f env M = (f env M).bind fun d M1 => .ok (.cel M1.length) (M1 ++ [d]) := rfl
@[simp] theorem apC_eq {c n dd xs} : apC c n dd xs M = if (xs ++ dd).length = n then c (xs ++ dd) M else .stuck := rfl
@[simp] theorem oAdd_int {i j : Int} : oAdd (.int i) (.int j) M = .ok (.int (i + j)) M := rfl
@[simp] theorem oSub_int {i j : Int} : oSub (.int i) (.int j) M = .ok (.int (i - j)) M := rfl
@[simp] theorem oMul_int {i j : Int} : oMul (.int i) (.int j) M = if CMulB i j then .ok (.int (i * j)) M else .stuck := rfl
@[simp] theorem oDiv_int {i j : Int} : oDiv (.int i) (.int j) M = if CDivW i j then .ok (.int (i / j)) M else .stuck := rfl
@[simp] theorem oMod_int {i j : Int} : oMod (.int i) (.int j) M = if 0 < j then .ok (.int (i % j)) M else .stuck := rfl
@[simp] theorem oPow_int {i j : Int} : oPow (.int i) (.int j) M = if CPow i j then .ok (.int (i ^ j.toNat)) M else .stuck := rfl
@[simp] theorem oNeg_int {i : Int} : oNeg (.int i) M = .ok (.int (-i)) M := rfl
@[simp] theorem oLt_int {i j : Int} : oLt (.int i) (.int j) M = .ok (.bl (decide (i < j))) M := rfl
@[simp] theorem oLe_int {i j : Int} : oLe (.int i) (.int j) M = .ok (.bl (decide (i ≤ j))) M := rfl
@[simp] theorem oGt_int {i j : Int} : oGt (.int i) (.int j) M = .ok (.bl (decide (j < i))) M := rfl
@[simp] theorem oGe_int {i j : Int} : oGe (.int i) (.int j) M = .ok (.bl (decide (j ≤ i))) M := rfl
@[simp] theorem oEq_int {i j : Int} : oEq (.int i) (.int j) M = .ok (.bl (i == j)) M := rfl
@[simp] theorem oNe_int {i j : Int} : oNe (.int i) (.int j) M = .ok (.bl (!(i == j))) M := rfl
@[simp] theorem oIs_non : oIs x .non M = .ok (.bl x.isN) M := rfl
@[simp] theorem oIsnt_non : oIsnt x .non M = .ok (.bl !x.isN) M := rfl
@[simp] theorem isN_int {i : Int} : (D.int i).isN = false := rfl
@[simp] theorem isN_non : D.non.isN = true := rfl
@[simp] theorem isN_tup {xs} : (D.tup xs).isN = false := rfl
def ixR (o : Option D) (M : List D) : R := match o with | some d => .ok d M | none => .stuck
@[simp] theorem ixR_some : ixR (some d) M = .ok d M := rfl
@[simp] theorem oIx_lst {xs} {i : Int} : oIx (.lst xs) (.int i) M = ixR (atI xs i) M := by
  unfold oIx view ixR; rfl
@[simp] theorem oIx_tup {xs} {i : Int} : oIx (.tup xs) (.int i) M = ixR (atI xs i) M := by
  unfold oIx view ixR; rfl
@[simp] theorem oIx_ktp {xs} {i : Int} : oIx (.ktp xs) (.int i) M = ixR (atI xs i) M := by
  unfold oIx view ixR; rfl
@[simp] theorem oIx_dKi {kvs} {i : Int} : oIx (.dK kvs) (.int i) M = ixR (valK kvs (.inl i)) M := by
  unfold oIx view ixR keyD; rfl
@[simp] theorem oIx_dKs {kvs} {z : Str} : oIx (.dK kvs) (.str z) M = ixR (valK kvs (.inr z)) M := by
  unfold oIx view ixR keyD; rfl
theorem oIx_scr {ns : List Int} {i v : Int} (h : atI ns i = some v) : oIx (.scr ns) (.int i) M = .ok (.int v) M := by
  show (match atI ns i with | some d => R.ok (D.int d) M | none => R.stuck) = _
  rw [h]
theorem oIx_celL {xs} {i : Int} (h : M[n]? = some (.lst xs)) : oIx (.cel n) (.int i) M = ixR (atI xs i) M := by
  have e : view M (.cel n) = .lst xs := by show (M[n]?).getD (.cel n) = _; rw [h]; rfl
  unfold oIx; rw [e]; rfl
@[simp] theorem bInt_int {i : Int} : bInt [.int i] M = .ok (.int i) M := rfl
@[simp] theorem bAbs_int {i : Int} : bAbs [.int i] M = .ok (.int (if i < 0 then -i else i)) M := rfl
@[simp] theorem bMax_int {i j : Int} : bMax [.int i, .int j] M = .ok (.int (mx2 i j)) M := rfl
@[simp] theorem bMin_int {i j : Int} : bMin [.int i, .int j] M = .ok (.int (mn2 i j)) M := rfl
@[simp] theorem bLen_lst {xs} : bLen [.lst xs] M = .ok (.int xs.length) M := rfl
@[simp] theorem bLen_tup {xs} : bLen [.tup xs] M = .ok (.int xs.length) M := rfl
@[simp] theorem bLen_ktp {xs} : bLen [.ktp xs] M = .ok (.int xs.length) M := rfl
@[simp] theorem bLen_scr {xs : List Int} : bLen [.scr xs] M = .ok (.int xs.length) M := rfl
@[simp] theorem bTup_lst {xs} : bTup [.lst xs] M = .ok (.tup xs) M := rfl
@[simp] theorem bTup_tup {xs} : bTup [.tup xs] M = .ok (.tup xs) M := rfl
@[simp] theorem store_own {u d d'} (h : env[i]? = some (.own d)) (hu : u d = some d') : store i u env M = .next (env.set i (.own d')) M := by
  unfold store; rw [h]; dsimp only; rw [hu]
theorem store_cel {u d d'} (h : env[i]? = some (.shr (.cel n))) (hm : M[n]? = some d) (hu : u d = some d') : store i u env M = .next env (M.set n d') := by
  unfold store; rw [h]; dsimp only; rw [hm]; dsimp only; rw [hu]
theorem store_slf {u d d'} (h : env[i]? = some (.slf d)) (hu : u d = some d') : store i u env M = .next (env.set i (.slf d')) M := by
  unfold store; rw [h]; dsimp only; rw [hu]
def guS (b : Bool) (r : RS) : RS := if b = true then r else .stuck
@[simp] theorem guS_true {r} : guS true r = r := rfl
@[simp] theorem bSub_eq : bSub i fk fv env M = (fv env M).bindS env fun dv M1 => guS (has i env) ((fk env M1).bindS env fun dk M2 => store i (stSub dk dv) env M2) := rfl
@[simp] theorem bApp_eq : bApp i fv env M = guS (isLst (cont i env M)) ((fv env M).bindS env fun dv M1 => store i (stApp dv) env M1) := rfl
@[simp] theorem bFld_eq {c g} : bFld i c g fv env M = (fv env M).bindS env fun dv M1 => store i (stFld c g dv) env M1 := rfl
theorem isLst_own {xs} (h : env[i]? = some (.own (.lst xs))) : isLst (cont i env M) = true := by unfold cont; rw [h]; rfl
theorem bShare_own (h : env[i]? = some (.own d)) : bShare i env M = .next (env.set i (.shr d)) M := by unfold bShare; rw [h]
def forR (gd : D → EnvM → Option EnvM) (b : SF) (env : EnvM) (r : RL) : RS := match r with
  | .ok ds M1 => forL gd b ds env M1
  | .exc x M1 => .exc x env M1
  | .stuck => .stuck
@[simp] theorem forR_ok {gd b ds} : forR gd b env (.ok ds M) = forL gd b ds env M := rfl
@[simp] theorem bFor_eq {gd b} : bFor l gd b env M = forR gd b env (l env M) := by unfold bFor forR; split <;> simp_all
@[simp] theorem forL_nil {gd b} : forL gd b [] env M = .next env M := rfl
def forK (gd : D → EnvM → Option EnvM) (b : SF) (ds : List D) (r : RS) : RS := match r with
  | .next env2 M2 => forL gd b ds env2 M2
  | .cont env2 M2 => forL gd b ds env2 M2
  | .brk env2 M2 => .next env2 M2
  | r => r
@[simp] theorem forK_next {gd b ds} : forK gd b ds (.next env M) = forL gd b ds env M := rfl
@[simp] theorem forK_ret {gd b ds} : forK gd b ds (.ret d M) = .ret d M := rfl
theorem forL_cons {gd b d ds env1} (h : gd d env = some env1) : forL gd b (d :: ds) env M = forK gd b ds (b env1 M) := by
  show (match gd d env with | none => RS.stuck | some env1 => _) = _
  rw [h]
  show (match b env1 M with | .next env2 M2 => forL gd b ds env2 M2 | .cont env2 M2 => forL gd b ds env2 M2 | .brk env2 M2 => .next env2 M2 | r => r) = _
  unfold forK; split <;> simp_all
theorem forL_inv {gd : D → EnvM → Option EnvM} {b : SF} {ds : List D} (I : Nat → EnvM → List D → Prop) (hs : ∀ i d env M, ds[i]? = some d → I i env M → ∃ env1, gd d env = some env1 ∧ ∃ env2 M2, b env1 M = .next env2 M2 ∧ I (i + 1) env2 M2) {env : EnvM} {M : List D} (h0 : I 0 env M) :
    ∃ env2 M2, forL gd b ds env M = .next env2 M2 ∧ I ds.length env2 M2 := by
  have key : ∀ (k i : Nat) (env : EnvM) (M : List D), i + k = ds.length → I i env M → ∃ env2 M2, forL gd b (ds.drop i) env M = .next env2 M2 ∧ I ds.length env2 M2 := by
    intro k
    induction k with
    | zero => intro i env M hk h; have : i = ds.length := by omega
              subst this; exact ⟨env, M, by rw [List.drop_length]; rfl, h⟩
    | succ k ih =>
      intro i env M hk h
      have hlt : i < ds.length := by omega
      obtain ⟨env1, h1, env2, M2, h2, h3⟩ := hs i ds[i] env M (List.getElem?_eq_getElem hlt) h
      obtain ⟨env3, M3, h4, h5⟩ := ih (i + 1) env2 M2 (by omega) h3
      refine ⟨env3, M3, ?_, h5⟩
      rw [List.drop_eq_getElem_cons hlt, forL_cons h1, h2]
      exact h4
  simpa using key ds.length 0 env M (by omega) h0
theorem comp_inv {gd : D → EnvM → Option EnvM} {ft fe : EF} {env0 : EnvM} {ds : List D} (I : Nat → List D → List D → Prop) (hs : ∀ i d acc M, ds[i]? = some d → I i acc M → ∃ env1, gd d env0 = some env1 ∧
      ((∃ M1 y M2, ft env1 M = .ok (.bl true) M1 ∧ fe env1 M1 = .ok y M2 ∧ acc.length < sizeLine ∧ I (i + 1) (acc ++ [y]) M2) ∨ (∃ M1, ft env1 M = .ok (.bl false) M1 ∧ I (i + 1) acc M1))) {M : List D} (h0 : I 0 [] M) :
    ∃ acc M2, compL gd ft fe env0 ds [] M = .ok (.lst acc) M2 ∧ I ds.length acc M2 := by
  have key : ∀ (k i : Nat) (acc M : List D), i + k = ds.length → I i acc M → ∃ acc2 M2, compL gd ft fe env0 (ds.drop i) acc M = .ok (.lst acc2) M2 ∧ I ds.length acc2 M2 := by
    intro k
    induction k with
    | zero => intro i acc M hk h; have : i = ds.length := by omega
              subst this; exact ⟨acc, M, by rw [List.drop_length]; rfl, h⟩
    | succ k ih =>
      intro i acc M hk h
      have hlt : i < ds.length := by omega
      obtain ⟨env1, h1, h2⟩ := hs i ds[i] acc M (List.getElem?_eq_getElem hlt) h
      rw [List.drop_eq_getElem_cons hlt]
      rcases h2 with ⟨M1, y, M2, h2, h3, h4, h5⟩ | ⟨M1, h2, h3⟩
      · obtain ⟨acc2, M3, g1, g2⟩ := ih (i + 1) (acc ++ [y]) M2 (by omega) h5
        exact ⟨acc2, M3, by unfold compL; rw [h1]; dsimp only; rw [h2]; dsimp only; rw [h3]; dsimp only; rw [if_pos h4]; exact g1, g2⟩
      · obtain ⟨acc2, M3, g1, g2⟩ := ih (i + 1) acc M1 (by omega) h3
        exact ⟨acc2, M3, by unfold compL; rw [h1]; dsimp only; rw [h2]; dsimp only; exact g1, g2⟩
  simpa using key ds.length 0 [] M (by omega) h0
@[simp] theorem eComp_eq {gd ft fe vs} : eComp l gd ft fe vs env M = (l env M).bind fun ds M1 => compL gd ft fe (wipeE env vs) ds [] M1 := rfl
@[simp] theorem wipeE_nil : wipeE env [] = env := rfl
@[simp] theorem wipeE_cons {v vs} : wipeE env (v :: vs) = (wipeE env vs).set v .no := rfl
def seqL (d : D) (M : List D) : RL := match d with
  | .lst xs => .ok xs M
  | .tup xs => .ok xs M
  | .ktp xs => .ok xs M
  | .scr ns => .ok (ns.map .int) M
  | .dT kvs => .ok (keysT kvs) M
  | .dK kvs => .ok (keysK kvs) M
  | _ => .stuck
@[simp] theorem seqL_lst {xs} : seqL (.lst xs) M = .ok xs M := rfl
@[simp] theorem seqL_tup {xs} : seqL (.tup xs) M = .ok xs M := rfl
@[simp] theorem seqL_ktp {xs} : seqL (.ktp xs) M = .ok xs M := rfl
@[simp] theorem seqL_scr {xs} : seqL (.scr xs) M = .ok (xs.map .int) M := rfl
@[simp] theorem seqL_dT {xs} : seqL (.dT xs) M = .ok (keysT xs) M := rfl
@[simp] theorem seqL_dK {xs} : seqL (.dK xs) M = .ok (keysK xs) M := rfl
@[simp] theorem iSeq_eq : iSeq f env M = (f env M).bindL seqL := rfl
def seqLB (d : D) (M : List D) : RL := match d with
  | .lst xs => .ok xs M
  | .tup xs => .ok xs M
  | .ktp xs => .ok xs M
  | .scr ns => .ok (ns.map .int) M
  | _ => .stuck
@[simp] theorem seqLB_lst {xs} : seqLB (.lst xs) M = .ok xs M := rfl
@[simp] theorem iSeqB_eq : iSeqB f env M = (f env M).bindL seqLB := rfl
def itmL (d : D) (M : List D) : RL := match d with
  | .dT kvs => .ok (itemsT kvs) M
  | .dK kvs => .ok (itemsK kvs) M
  | _ => .stuck
@[simp] theorem itmL_dT {xs} : itmL (.dT xs) M = .ok (itemsT xs) M := rfl
@[simp] theorem itmL_dK {xs} : itmL (.dK xs) M = .ok (itemsK xs) M := rfl
@[simp] theorem iItm_eq : iItm f env M = (f env M).bindL itmL := rfl
def enuL (d : D) (M : List D) : RL := match d with
  | .lst xs => .ok (enumD xs) M
  | .tup xs => .ok (enumD xs) M
  | .ktp xs => .ok (enumD xs) M
  | _ => .stuck
@[simp] theorem enuL_lst {xs} : enuL (.lst xs) M = .ok (enumD xs) M := rfl
@[simp] theorem enuL_tup {xs} : enuL (.tup xs) M = .ok (enumD xs) M := rfl
@[simp] theorem iEnu_eq : iEnu f env M = (f env M).bindL enuL := rfl
def rngL1 (d : D) (M : List D) : RL := match d with
  | .int j => if inR j then .ok (rngD 0 j.toNat) M else .stuck
  | _ => .stuck
@[simp] theorem rngL1_int {j : Int} (h : inR j) : rngL1 (.int j) M = .ok (rngD 0 j.toNat) M := by unfold rngL1; dsimp only; rw [if_pos h]
@[simp] theorem iRng1_eq : iRng1 f env M = (f env M).bindL rngL1 := by cases M <;> rfl
def rngL2 (d d2 : D) (M : List D) : RL := match d, d2 with
  | .int i, .int j => if inR i ∧ inR j then .ok (rngD i (j - i).toNat) M else .stuck
  | _, _ => .stuck
@[simp] theorem rngL2_int {i j : Int} (h : inR i) (h2 : inR j) : rngL2 (.int i) (.int j) M = .ok (rngD i (j - i).toNat) M := by unfold rngL2; dsimp only; rw [if_pos ⟨h, h2⟩]
@[simp] theorem iRng2_eq : iRng2 f g env M = (f env M).bindL fun d M1 => (g env M1).bindL fun d2 M2 => rngL2 d d2 M2 := by cases M <;> rfl
theorem rngD_get {lo : Int} {n i : Nat} (h : i < n) : (rngD lo n)[i]? = some (.int (lo + (i : Nat))) := by simp [rngD, h]
@[simp] theorem rngD_len {lo : Int} {n : Nat} : (rngD lo n).length = n := by simp [rngD]
theorem rngD_of {lo : Int} {n i : Nat} {d : D} (h : (rngD lo n)[i]? = some d) : i < n ∧ d = .int (lo + (i : Nat)) := by
  have hi : i < n := by
    have := (List.getElem?_eq_some_iff.mp h).1
    simpa using this
  rw [rngD_get hi] at h
  exact ⟨hi, (Option.some.inj h).symm⟩
def methR (cn m : Str) (d : D) (r : R) : R := match d with
  | .ins c' fs => if c' = cn ∧ fs.lookup m = none then r else .stuck
  | _ => .stuck
theorem methR_ins {cn m : Str} {fs} {r : R} (h : fs.lookup m = none) : methR cn m (.ins cn fs) r = r := by unfold methR; dsimp only; rw [if_pos ⟨rfl, h⟩]
@[simp] theorem eMeth_eq {cn m c n dd} : eMeth cn m c n dd f l env M = (f env M).bind fun x M1 => methR cn m (view M1 x) ((l env M1).bind fun xs M2 => apC c n dd (x :: xs) M2) := by
  unfold eMeth
  refine iteR_fun fun x M1 => ?_
  unfold methR; split <;> simp_all
@[simp] theorem view_ins {c fs} : view M (.ins c fs) = .ins c fs := rfl
theorem fldR_ins {c g fs} (h : List.lookup g fs = some d) : fldR c g (.ins c fs) M = .ok d M := by
  unfold fldR; rw [view_ins]; dsimp only; rw [if_pos rfl, h]
theorem propR_ins {cn c fs d M1} (h : c [.ins cn fs] M = .ok d M1) : propR cn c (.ins cn fs) M = .ok d M1 := by
  unfold propR; rw [view_ins]; dsimp only; rw [if_pos rfl]
  unfold apC noX
  simp [h]
@[simp] theorem oIsi_int {k : D → Option Bool} {i : Int} : oIsi k (.int i) M = (match k (.int i) with | some b => .ok (.bl b) M | none => .stuck) := rfl
@[simp] theorem oIsi_non {k : D → Option Bool} : oIsi k .non M = (match k .non with | some b => .ok (.bl b) M | none => .stuck) := rfl
@[simp] theorem oIsi_tup {k : D → Option Bool} {xs} : oIsi k (.tup xs) M = (match k (.tup xs) with | some b => .ok (.bl b) M | none => .stuck) := rfl
@[simp] theorem endE_ret : endE (.ret d M) = .ok d M := rfl
@[simp] theorem endE_next : endE (.next env M) = .ok .non M := rfl
end
theorem inR_of {i : Int} (h1 : -1000000000 ≤ i) (h2 : i ≤ 1000000000) : inR i := Nat.div_eq_of_lt (by omega)
theorem cmul_r {i j : Int} (h : -1000000000000000000 ≤ j ∧ j ≤ 1000000000000000000) : CMulB i j := .inr (Nat.div_eq_of_lt (by omega))
theorem cmul_l {i j : Int} (h : -1000000000000000000 ≤ i ∧ i ≤ 1000000000000000000) : CMulB i j := .inl (Nat.div_eq_of_lt (by omega))
theorem cdiv_s {i j : Int} (h : 0 < j) (h2 : j < 2 ^ 200) : CDivW i j := by
  refine ⟨h, ?_⟩
  have e : j.natAbs < 2 ^ 200 := by omega
  by_cases z : j.natAbs = 0
  · rw [z]; decide
  · have := (Nat.log2_lt z).mpr e
    omega
theorem bools_map : ∀ ns : List Bool, boolsOf (ns.map D.bl) = some ns
  | [] => rfl
  | n :: ns => by simp [boolsOf, bools_map ns]
theorem bAll_bools {ns : List Bool} {M : List D} : bAll [.lst (ns.map D.bl)] M = .ok (.bl (ns.all id)) M := by
  show (match boolsOf (ns.map D.bl) with | some bs => R.ok (D.bl (bs.all id)) M | _ => .stuck) = _
  rw [bools_map]
end MP
set_option maxRecDepth 100000
set_option maxHeartbeats 4000000
namespace MP
open PySem PySem.Spec PyProof.Rows L2
variable [TabsP] [ThkP]
instance neDec {xs : List D} : Decidable (xs ≠ []) := match xs with
  | [] => isFalse (by simp)
  | _ :: _ => isTrue (by simp)
section
variable {X : Cx} {W : WX} {K : PySem.W.Frag} {E : Ends} {DR : DRel} {N0 : Ent} {F H : Hp} {Ad : List Addr} {M : List D} {env : EnvM} {σ : St} {Q : VK} {x : V} {e c : Expr} {f : EF} {b : SF} {body : List Stmt} {pos p pc : Pos}
def whL (f : EF) (b : SF) : Nat → SF
  | 0, _, _ => .stuck
  | n + 1, env, M => (f env M).bindS env fun d M1 => match d with
    | .bl true => (match b env M1 with
      | .next env2 M2 => whL f b n env2 M2
      | .cont env2 M2 => whL f b n env2 M2
      | .brk env2 M2 => .next env2 M2
      | r => r)
    | .bl false => .next env M1
    | _ => .stuck
def isC (cn : Str) (cs : List Str) (d : D) : Option Bool := match d with
  | .dT _ => none
  | .ins c _ => if c = cn then some true else if cs.contains c = true then some false else none
  | d => d.tyN.map fun _ => false
theorem isK_C {cn : Str} {cs : List Str} (hT : ∀ n ∈ tyNs, PySem.W.kitOne K (.type n) (.ref (He.ga K cn)) = some false) (h0 : ClsT K cn) (hc : ∀ c ∈ cs, ClsT K c ∧ PySem.W.kitOne K (.ref (He.ga K c)) (.ref (He.ga K cn)) = some false) : IsK K (.ref (He.ga K cn)) (isC cn cs) := by
  intro F Ad M H x d b m h e
  have gen : ∀ d' : D, (∀ k, d' ≠ .dT k) → d'.tyN.map (fun _ => false) = some b → DV K F Ad H x d' → ∃ t, TyX K H x t ∧ PySem.W.kitOne K t (.ref (He.ga K cn)) = some b := fun d' hn e' h' => by
    rw [Option.map_eq_some_iff] at e'
    obtain ⟨n, e1, e2⟩ := e'
    exact ⟨_, h'.ty m e1 hn, by rw [← e2]; exact hT n (D.tyN_mem e1)⟩
  cases d with
  | dT k => cases e
  | ins c fs =>
    dsimp only [isC] at e
    obtain ⟨a, dx, vs, rfl, h1, _⟩ := h.ins m
    split at e
    · rename_i ec
      subst ec
      cases e
      refine ⟨_, .base (.ins h1 h0.cl h0.ha h0.hn h0.htk h0.hm), ?_⟩
      unfold PySem.W.kitOne
      rw [if_pos (beq_self_eq_true _)]
    · split at e
      · rename_i hcs
        cases e
        obtain ⟨z, hk⟩ := hc c (by simpa using hcs)
        exact ⟨_, .base (.ins h1 z.cl z.ha z.hn z.htk z.hm), hk⟩
      · cases e
  | non => exact gen .non (fun _ z => nomatch z) e h
  | bl y => exact gen (.bl y) (fun _ z => nomatch z) e h
  | int y => exact gen (.int y) (fun _ z => nomatch z) e h
  | str y => exact gen (.str y) (fun _ z => nomatch z) e h
  | tup y => exact gen (.tup y) (fun _ z => nomatch z) e h
  | ktp y => exact gen (.ktp y) (fun _ z => nomatch z) e h
  | lst y => exact gen (.lst y) (fun _ z => nomatch z) e h
  | scr y => exact gen (.scr y) (fun _ z => nomatch z) e h
  | dK y => exact gen (.dK y) (fun _ z => nomatch z) e h
  | cel _ => cases e
  | cls _ => cases e
theorem pe_own {y : Str} {a : Addr} (hm : X.mg y = some (.ref a)) (hg : Gl X y := by rfl) (hd : (y == ("__debug__" : Str)) = false := by decide) : PE X (.Name y pos) (fun _ H Q => Q (.ref a) H) :=
  pe_glob (v := .ref a) hg hm rfl hd
end
section
variable {f : EF} {b : SF} {n : Nat} {env : EnvM} {M : List D}
theorem oIsi_ins {k : D → Option Bool} {c fs b} (h : k (.ins c fs) = some b) : oIsi k (.ins c fs) M = .ok (.bl b) M := by
  show (match k (.ins c fs) with | some b => R.ok (.bl b) M | none => .stuck) = _
  rw [h]
theorem isC_ins {c : Str} {cs fs} : isC c cs (.ins c fs) = some true := by unfold isC; dsimp only; rw [if_pos rfl]
theorem oAdd_lst {xs ys : List D} (h : xs.length + ys.length ≤ 100000) : oAdd (.lst xs) (.lst ys) M = .ok (.lst (xs ++ ys)) M := by
  show (if xs.length + ys.length ≤ sizeLine then R.ok (D.lst (xs ++ ys)) M else R.stuck) = _
  rw [if_pos (Nat.le_trans h (by decide))]
def whK (f : EF) (b : SF) (n : Nat) (r : RS) : RS := match r with
  | .next env2 M2 => whL f b n env2 M2
  | .cont env2 M2 => whL f b n env2 M2
  | .brk env2 M2 => .next env2 M2
  | r => r
@[simp] theorem whK_next : whK f b n (.next env M) = whL f b n env M := rfl
end
end MP
set_option maxRecDepth 100000
set_option maxHeartbeats 4000000
namespace MP
open PySem PySem.Spec PyProof.Rows L2
variable [TabsP] [ThkP]
def pickL {α : Type} (ix : List Nat) (l : List α) : List α := ix.filterMap (l[·]?)
theorem vals_pick {vs : List V} {us : List Value} (r : Vals vs us) : ∀ ix : List Nat, Vals (pickL ix vs) (pickL ix us)
  | [] => .nil
  | i :: ix => by
    have t := vals_pick r ix
    unfold pickL at t ⊢
    rw [List.filterMap_cons, List.filterMap_cons]
    cases h : vs[i]? with
    | some v =>
      obtain ⟨u, hu, ru⟩ := r.get h
      rw [hu]
      exact .cons ru t
    | none =>
      have : us[i]? = none := by rw [List.getElem?_eq_none_iff] at h ⊢; rw [← r.length]; exact h
      rw [this]; exact t
theorem denL_pick {K : PySem.W.Frag} {F : Hp} {Ad : List Addr} {vs : List V} {ds : List D} (r : DenL K F Ad vs ds) : ∀ ix : List Nat, DenL K F Ad (pickL ix vs) (pickL ix ds)
  | [] => .nil
  | i :: ix => by
    have t := denL_pick r ix
    unfold pickL at t ⊢
    rw [List.filterMap_cons, List.filterMap_cons]
    cases h : ds[i]? with
    | some d =>
      obtain ⟨v, hv, rv⟩ := r.get h
      rw [hv]
      exact .cons rv t
    | none =>
      have : vs[i]? = none := by rw [List.getElem?_eq_none_iff] at h ⊢; rw [r.length]; exact h
      rw [this]; exact t
structure FnQ (P : Program) (w : World) (K : PySem.W.Frag) (mg : Str → Option Value) (base : Heap) (DR : DRel) (k n np : Nat) (ks : List Str) (ix : List Nat) (g : Addr) (dd : List D) (c : List D → List D → R) : Prop where
  ex : ∃ (fd : FuncData) (ps : List Str) (dvs : List V) (dds : List Value), MP.FnOk P w K mg base (L2.CX P w) k g fd ps (spD K DR n c) ∧
    (∀ (s : Shared) (us ws : List Value), K.In s.heap → us.length = np → ws.length = ks.length → BindsTo s fd ⟨us, ks.zip ws⟩ (ps.zip (pickL ix (us ++ ws ++ dds)))) ∧ Vals dvs dds ∧ (∀ F Ad, DenL K F Ad dvs dd) ∧ PySem.W.keepIn K (.ref g) = true
theorem fnq_of {P : Program} {w : World} {K : PySem.W.Frag} {mg : Str → Option Value} {base : Heap} {DR : DRel} {k n np : Nat} {ks ps : List Str} {ix : List Nat} {g : Addr} {c : List D → List D → R} {x qual : Str} {params : Arguments} {body : List Stmt} {scope : Scope} {kws : List (Str × V)} {fd : FuncData}
    (Fd : FunD K x qual params body scope [] kws g fd) (Fo : MP.FnOk P w K mg base (L2.CX P w) k g fd ps (spD K DR n c))
    (h : ∀ (kV doc pm : Value) (an : Option Addr) (cdv ct : Value) (us ws : List Value), us.length = np → ws.length = ks.length → bindArgs (PySem.W.fnOf x qual params body scope .none kV doc pm an cdv ct) ⟨us, ks.zip ws⟩ = pure (ps.zip (pickL ix (us ++ ws)))) :
    FnQ P w K mg base DR k n np ks ix g [] c := by
  have kp := Fd.kp
  obtain ⟨oc, od, dV, kV, doc, pm, an, cdv, ct, osl, rfl, lk, hcd, hD, hK⟩ := Fd.ex
  rcases hD with ⟨_, rfl⟩ | ⟨e, _⟩
  · exact ⟨_, ps, [], [], Fo, fun s us ws _ h1 h2 => by rw [List.append_nil]; exact .of_eq (h kV doc pm an cdv ct us ws h1 h2), .nil, fun _ _ => .nil, kp⟩
  · exact absurd rfl e
def apQ (c : List D → List D → R) (n np nk : Nat) (ix : List Nat) (dd xs ys M : List D) : R := if xs.length = np ∧ ys.length = nk ∧ (pickL ix (xs ++ ys ++ dd)).length = n then c (pickL ix (xs ++ ys ++ dd)) M else .stuck
def eCallQ (c : List D → List D → R) (n np nk : Nat) (ix : List Nat) (dd : List D) (l1 l2 : LF) : EF := fun env M => (l1 env M).bind fun xs M1 => (l2 env M1).bind fun ys M2 => apQ c n np nk ix dd xs ys M2
section
variable {X : Cx} {W : WX} {DR : DRel} {N0 : Ent} {F H : Hp} {Ad : List Addr} {M : List D} {env : EnvM} {σ : St} {Q : VK} {k n np : Nat} {ks : List Str} {ix : List Nat} {g : Addr} {dd : List D} {c : List D → List D → R} {es : List Expr} {e : Expr} {l l1 l2 : LF} {f : EF} {y m : Str} {p pos kpos : Pos} {kws : List Keyword} {nm : Option Str}
abbrev SK (X : Cx) (W : WX) (kws : List Keyword) (f : LF) : Prop := PK X kws (tL X.K W (DLE X.K) f)
theorem PK.imp {t t' : TA} (h : PK X kws t) (i : ∀ σ H Q, t' σ H Q → t σ H Q) : PK X kws t' := ⟨fun pos pins s σ H Q I q => h.run pos pins s σ H Q I (i σ H Q q)⟩
theorem run_fnQ {pins : List (Addr × Obj)} {s : Shared} {us ws : List Value} {vs zs : List V} {ds es : List D} (Fk : FnQ X.prog X.w X.K X.mg X.base DR k n np ks ix g dd c) (hr : MP.Room k X.A) (hx : Pas X W) (I : Inv X pins σ H s) (mm : MemOk X.K F Ad M H)
    (r : Vals vs us) (x : DenL X.K F Ad vs ds) (r2 : Vals zs ws) (x2 : DenL X.K F Ad zs es)
    (h : RP X.K (fun c d H => W c d σ H) DR F Ad H Q (apQ c n np ks.length ix dd ds es M)) : wpAny (model X.prog X.w) X.A (call (.ref g) us (ks.zip ws)) (EP X pins σ Q) X.xe s := by
  obtain ⟨fd, ps, dvs, dds, Fo, hb, hv, hd, hk⟩ := Fk.ex
  unfold apQ at h
  split at h
  · rename_i hn
    obtain ⟨h1, h2, h3⟩ := hn
    have xx := denL_pick ((x.append x2).append (hd F Ad)) ix
    have rr := vals_pick ((r.append r2).append hv) ix
    refine run_any Fo hr (hx σ) I (fun _ => hb s us ws I.kIn (by rw [← r.length, x.length, h1]) (by rw [← r2.length, x2.length, h2])) rr ⟨by rw [xx.length]; exact h3, F, Ad, M, _, mm, xx, h⟩
  · exact h.elim
theorem sk_nil : SK X W [] lNil := PK.imp pk_nil fun σ H Q ⟨N0, F, Ad, M, env, m, en, r⟩ => r [] F Ad H Gr.refl m .nil
theorem sk_cons (ha : SE X W e f) (hr : SK X W kws l) : SK X W (⟨nm, e, kpos⟩ :: kws) (lCons f l) :=
  PK.imp (pk_cons ha hr) fun σ H Q ⟨N0, F, Ad, M, env, m, en, r⟩ => tG_seqL m en r fun d M1 v F1 Ad1 H1 g1 m1 en1 x1 r1 => tL_seqL m1 en1 r1 fun ds M2 vs F2 Ad2 H2 g2 m2 en2 x2 r2 =>
    r2 (v :: vs) F2 Ad2 H2 Gr.refl m2 (.cons (x1.mono g2.fle g2.pre) x2)
end
end MP
set_option maxRecDepth 100000
set_option maxHeartbeats 4000000
namespace MP
open PySem PySem.Spec PyProof.Rows L2
variable [TabsP] [ThkP]
mutual
def toPy : D → Option PyData
  | .non => some .none
  | .bl b => some (.bool b)
  | .int i => some (.int i)
  | .str s => some (.str s)
  | .tup xs => match toPyL xs with | some ps => some (.tuple ps) | none => none
  | .ktp xs => match toPyL xs with | some ps => some (.tuple ps) | none => none
  | .lst xs => match toPyL xs with | some ps => some (.list ps) | none => none
  | _ => none
def toPyL : List D → Option (List PyData)
  | [] => some []
  | d :: ds => match toPy d, toPyL ds with | some p, some ps => some (p :: ps) | _, _ => none
end
mutual
def rsz : PyData → Nat
  | .none => 4 | .bool _ => 5 | .int _ => 1921 | .str x => (reprText x).length
  | .list xs => rszL xs + 2 * xs.length + 3
  | .tuple xs => rszL xs + 2 * xs.length + 3
  | .dict _ => 0
def rszL : List PyData → Nat
  | [] => 0
  | x :: xs => rsz x + rszL xs
end
section
variable {X : Cx} {K : PySem.W.Frag} {F H : Hp} {Ad : List Addr} {M : List D} {σ : St} {pins : List (Addr × Obj)} {s : Shared}
mutual
theorem reads_of (I : Inv X pins σ H s) (m : MemOk X.K F Ad M H) : ∀ (d : D) {v : V} {u : Value} {p : PyData}, Den X.K F Ad v d → RelV v u → toPy d = some p → ∃ as, Reads s.heap u p as
  | .non, _, u, p, .non, r, e => by cases e; obtain rfl : u = Value.none := r; exact ⟨_, .none⟩
  | .bl b, _, u, p, .bl, r, e => by cases e; obtain rfl : u = Value.bool b := r; exact ⟨_, .bool b⟩
  | .int i, _, u, p, .int, r, e => by cases e; obtain ⟨t, rfl⟩ := (show ∃ t, u = Value.int i t from r); exact ⟨_, .int i t⟩
  | .str x, _, u, p, .str, r, e => by cases e; obtain ⟨t, rfl⟩ := (show ∃ t, u = Value.str x t from r); exact ⟨_, .str x t⟩
  | .tup xs, _, u, p, .tup (a := a) h d1, r, e => by
    obtain rfl : u = Value.ref a := r
    unfold toPy at e
    split at e
    · rename_i ps ep; cases e
      obtain ⟨its, rv, ⟨o, ho, hc, n, hd⟩, _⟩ := I.tuple (sqT_sub m h.sq)
      obtain ⟨as, ra⟩ := readsL_of I m xs d1 rv ep
      exact ⟨_, .tuple ho hc hd (by simpa using ra)⟩
    · cases e
  | .ktp xs, _, u, p, .ktp (a := a) h d1, r, e => by
    obtain rfl : u = Value.ref a := r
    unfold toPy at e
    split at e
    · rename_i ps ep; cases e
      obtain ⟨its, rv, ⟨o, ho, hc, n, hd⟩, _⟩ := I.tuple (sqT_sub m h)
      obtain ⟨as, ra⟩ := readsL_of I m xs d1 rv ep
      exact ⟨_, .tuple ho hc hd (by simpa using ra)⟩
    · cases e
  | .lst xs, _, u, p, .lst (a := a) h d1, r, e => by
    obtain rfl : u = Value.ref a := r
    unfold toPy at e
    split at e
    · rename_i ps ep; cases e
      obtain ⟨its, n, rv, ho, _⟩ := I.lst (m.sub _ _ h)
      obtain ⟨as, ra⟩ := readsL_of I m xs d1 rv ep
      exact ⟨_, .list ho rfl rfl (by simpa using ra)⟩
    · cases e
theorem readsL_of (I : Inv X pins σ H s) (m : MemOk X.K F Ad M H) : ∀ (ds : List D) {vs : List V} {us : List Value} {ps : List PyData}, DenL X.K F Ad vs ds → Vals vs us → toPyL ds = some ps → ∃ as, ReadsAll s.heap us ps as
  | [], _, us, ps, .nil, r, e => by cases e; cases r; exact ⟨_, .nil⟩
  | d :: ds, _, us, ps, .cons h1 h2, r, e => by
    cases r with
    | cons r1 r2 =>
      unfold toPyL at e
      split at e
      · rename_i p ps e1 e2; cases e
        obtain ⟨a1, q1⟩ := reads_of I m d h1 r1 e1
        obtain ⟨a2, q2⟩ := readsL_of I m ds h2 r2 e2
        exact ⟨_, .cons q1 q2⟩
      · cases e
end
end
end MP
set_option maxRecDepth 100000
set_option maxHeartbeats 4000000
namespace MP
open PySem PySem.Spec PyProof.Rows L2
variable [TabsP] [ThkP]
mutual
theorem shown_rsz : ∀ p : PyData, p.showable = true → p.hasDict = false → p.shown.length ≤ rsz p
  | .none, _, _ => by decide
  | .bool b, _, _ => by cases b <;> decide
  | .int i, h, _ => by
    have h' : i.natAbs.log2 < 1920 := by simpa [PyData.showable] using h
    show (Str.ofString (toString i)).length ≤ 1921
    exact PyProof.Rows.int_text_len_1921 h'
  | .str x, _, _ => by show (reprText x).length ≤ _; exact Nat.le_refl _
  | .list xs, h, g => by
    have t := shownL_rsz xs (by simpa [PyData.showable] using h) (by simpa [PyData.hasDict] using g)
    have e := listText_len_le (PyData.shownAll xs)
    show (listText (PyData.shownAll xs)).length ≤ rszL xs + 2 * xs.length + 3
    omega
  | .tuple xs, h, g => by
    have t := shownL_rsz xs (by simpa [PyData.showable] using h) (by simpa [PyData.hasDict] using g)
    have e := tupleText_len_le (PyData.shownAll xs)
    show (tupleText (PyData.shownAll xs)).length ≤ rszL xs + 2 * xs.length + 3
    omega
  | .dict _, _, g => by simp [PyData.hasDict] at g
theorem shownL_rsz : ∀ xs : List PyData, PyData.showableAll xs = true → PyData.hasDictAll xs = false → ((PyData.shownAll xs).map (·.length)).sum ≤ rszL xs ∧ (PyData.shownAll xs).length = xs.length
  | [], _, _ => ⟨Nat.le_refl _, rfl⟩
  | x :: xs, h, g => by
    simp only [PyData.showableAll, Bool.and_eq_true] at h
    simp only [PyData.hasDictAll, Bool.or_eq_false_iff] at g
    have a := shown_rsz x h.1 g.1
    have b := shownL_rsz xs h.2 g.2
    show ((PyData.shown x :: PyData.shownAll xs).map (·.length)).sum ≤ rsz x + rszL xs ∧ (PyData.shown x :: PyData.shownAll xs).length = _
    simp only [List.map_cons, List.sum_cons, List.length_cons]
    omega
end
def rOk (p : PyData) : Bool := p.showable && !p.hasDict && decide (p.depth ≤ 60) && decide (rsz p ≤ sizeLine)
def isRef : D → Bool
  | .tup _ => true | .ktp _ => true | .lst _ => true | _ => false
def bRepr (ds : List D) (M : List D) : R := match ds with
  | [d] => if isRef (view M d) = true then (match toPy (view M d) with
    | some p => if rOk p = true then .ok (.str p.shown) M else .stuck
    | none => .stuck) else .stuck
  | _ => .stuck
theorem call_reprU {X : Cx} (gd : X.A.guards = some []) (hu : X.A.units + 64 < cLine) : CallS X (DE X.K) (.builtin "repr") bRepr := by
  intro pins s σ H F Ad M E xs us ds Q I m rv x r
  unfold bRepr at r
  split at r
  · rename_i d
    obtain ⟨v, rfl, hx⟩ := x.one
    have ax := DB.view m hx
    split at r
    · rename_i hi
      split at r
      · rename_i p hp
        split at r
        · rename_i ho
          cases rv with
          | cons r1 r2 =>
            cases r2
            rename_i u
            have rd : ∃ a as, u = Value.ref a ∧ Reads s.heap (.ref a) p as := by
              revert hp ax hi
              generalize view M d = d'
              intro ax hi hp
              cases d' with
              | tup ys =>
                obtain ⟨a, vs, rfl, h1, h2⟩ := ax.tup m
                obtain rfl : u = Value.ref a := r1
                simp only [toPy] at hp
                split at hp
                · rename_i ps ep; cases hp
                  obtain ⟨its, rv, ⟨o, ho, hc, n, hd⟩, _⟩ := I.tuple (h1)
                  obtain ⟨as, ra⟩ := readsL_of I m ys h2 rv ep
                  exact ⟨a, _, rfl, .tuple ho hc hd (by simpa using ra)⟩
                · cases hp
              | ktp ys =>
                obtain ⟨a, vs, rfl, h1, h2⟩ := ax.ktp m
                obtain rfl : u = Value.ref a := r1
                simp only [toPy] at hp
                split at hp
                · rename_i ps ep; cases hp
                  obtain ⟨its, rv, ⟨o, ho, hc, n, hd⟩, _⟩ := I.tuple h1
                  obtain ⟨as, ra⟩ := readsL_of I m ys h2 rv ep
                  exact ⟨a, _, rfl, .tuple ho hc hd (by simpa using ra)⟩
                · cases hp
              | lst ys =>
                obtain ⟨a, vs, rfl, h1, h2⟩ := ax.lst m
                obtain rfl : u = Value.ref a := r1
                simp only [toPy] at hp
                split at hp
                · rename_i ps ep; cases hp
                  obtain ⟨its, n, rv, ho, _⟩ := I.lst h1
                  obtain ⟨as, ra⟩ := readsL_of I m ys h2 rv ep
                  exact ⟨a, _, rfl, .list ho rfl rfl (by simpa using ra)⟩
                · cases hp
              | _ => cases hi
            obtain ⟨a, as, rfl, rd⟩ := rd
            simp only [rOk, Bool.and_eq_true, Bool.not_eq_true', decide_eq_true_eq] at ho
            obtain ⟨⟨⟨o1, o2⟩, o3⟩, o4⟩ := ho
            refine repr_of_reads' rd o1 (PyData.noDict_hsm o2) gd (by omega) (fun _ _ e => e) (fun h' tk tk' hk => ?_) (Nat.le_trans (shown_rsz p o1 o2) o4)
            exact ⟨.str p.shown, H, I.kept hk, ⟨_, rfl⟩, RP.here r m .str⟩
        · exact r.elim
      · exact r.elim
    · exact r.elim
  · exact r.elim
end MP
set_option maxRecDepth 100000
set_option maxHeartbeats 4000000
namespace MP
open PySem PySem.Spec PyProof.Rows L2
variable [TabsP] [ThkP]
section
variable {X : Cx} {K : PySem.W.Frag} {F H : Hp} {Ad : List Addr} {M : List D}
end
end MP
set_option maxRecDepth 100000
set_option maxHeartbeats 4000000
namespace MP
open PySem PySem.Spec PyProof.Rows L2
variable [TabsP] [ThkP]
structure InQ (P : Program) (w : World) (K : PySem.W.Frag) (mg : Str → Option Value) (base : Heap) (k n np : Nat) (ks : List Str) (ix : List Nat) (cn : Str) (g : Addr) (dd : List D) (c : List D → List D → R) : Prop where
  mak : Mk K (He.ga K cn) g
  ex : ∃ (fd : FuncData) (ps : List Str) (dvs : List V) (dds : List Value), MP.FnOk P w K mg base (L2.CX P w) k g fd ps (spI K cn n c) ∧
    (∀ (s : Shared) (self : Value) (us ws : List Value), K.In s.heap → us.length = np → ws.length = ks.length → BindsTo s fd ⟨self :: us, ks.zip ws⟩ (ps.zip (self :: pickL ix (us ++ ws ++ dds)))) ∧ Vals dvs dds ∧ (∀ F Ad, DenL K F Ad dvs dd)
section
variable {X : Cx} {W : WX} {N0 : Ent} {F H : Hp} {Ad : List Addr} {M : List D} {env : EnvM} {σ : St} {Q : VK} {k n np : Nat} {ks : List Str} {ix : List Nat} {g : Addr} {dd : List D} {c : List D → List D → R} {es : List Expr} {e : Expr} {l1 l2 : LF} {y cn : Str} {p pos kpos : Pos} {kws : List Keyword}
theorem run_makeQ {pins : List (Addr × Obj)} {s : Shared} {us ws : List Value} {vs zs : List V} {ds es : List D} (Ik : InQ X.prog X.w X.K X.mg X.base k n np ks ix cn g dd c) (hr : MP.Room (k + 1) X.A) (hx : Pas X W) (I : Inv X pins σ H s) (mm : MemOk X.K F Ad M H)
    (r : Vals vs us) (x1 : DenL X.K F Ad vs ds) (rz : Vals zs ws) (x2 : DenL X.K F Ad zs es)
    (h : RP X.K (fun c d H => W c d σ H) (DO X.K) F Ad H Q (apQ c n np ks.length ix dd ds es M)) : wpAny (model X.prog X.w) X.A (call (.ref (He.ga X.K cn)) us (ks.zip ws)) (EP X pins σ Q) X.xe s := by
  obtain ⟨fd, ps, dvs, dds, Fo, hb, hv, hd⟩ := Ik.ex
  unfold apQ at h
  split at h
  · rename_i hn
    obtain ⟨h1, h2, h3⟩ := hn
    have xx := denL_pick ((x1.append x2).append (hd F Ad)) ix
    have rr := vals_pick ((r.append rz).append hv) ix
    have fresh1 := I.hok.fresh (Nat.le_succ s.heap.objs.size)
    have fresh0 := I.hok.fresh (Nat.le_refl s.heap.objs.size)
    have ne : s.heap.objs.size ≠ s.heap.objs.size + 1 := Nat.ne_of_lt (Nat.lt_succ_self _)
    have J := Inv.made (C := He.ga X.K cn) I
    have rs : Vals (V.ref (s.heap.objs.size + 1) :: pickL ix (vs ++ zs ++ dvs)) (Value.ref (s.heap.objs.size + 1) :: pickL ix (us ++ ws ++ dds)) := Paired.cons rfl rr
    have bb := hb { s with heap := (s.heap.push PySem.W.emptyDict).push (PySem.W.instObj (He.ga X.K cn) s.heap.objs.size) } (Value.ref (s.heap.objs.size + 1)) us ws J.kIn (by rw [← r.length, x1.length, h1]) (by rw [← rz.length, x2.length, h2])
    have sp1 : spI X.K cn n c (V.ref (s.heap.objs.size + 1) :: pickL ix (vs ++ zs ++ dvs)) (upd (upd H s.heap.objs.size (.own (s.heap.objs.size + 1))) (s.heap.objs.size + 1) (.ins (He.ga X.K cn) s.heap.objs.size [])) (fun v H2 => v = .non ∧ Q (.ref (s.heap.objs.size + 1)) H2) (fun c d H => W c d σ H) := by
      refine ⟨by show (pickL ix (vs ++ zs ++ dvs)).length + 1 = n + 1; rw [xx.length, h3], _, _, _, H, F, Ad, M, _, rfl, rfl, fresh1, fresh0, ne, mm, xx, ?_⟩
      cases hq : c (pickL ix (ds ++ es ++ dd)) M with
      | ok d M3 =>
        rw [hq] at h
        intro v F' Ad' H' g' m' z ev
        subst ev
        exact ⟨rfl, h _ F' Ad' H' g' m' z⟩
      | exc z M3 => rw [hq] at h; exact h
      | stuck => rw [hq] at h; exact h.elim
    apply wpAny_call
    apply make_map (f := g) I.kIn Ik.mak.makes Ik.mak.init (beq_iff_eq.mp Ik.mak.fn)
    refine codeAny_mono (Fo.run _ X.stack _ _ _ _ _ _ _ (hr.make (He.ga X.K cn) us (ks.zip ws)) (J.env0.make (He.ga X.K cn) us (ks.zip ws)) bb rs sp1) ?_
    intro res s' done
    cases res with
    | error e => exact hx σ pins _ _ e s' J done
    | ok fl =>
      cases fl with
      | ret u =>
        obtain ⟨v, H', J', rv, ev, q⟩ := J.after done
        cases ev
        exact ⟨rv, V.ref (s.heap.objs.size + 1), H', J', rfl, q⟩
      | next => exact done.elim
      | brk => exact done.elim
      | cont => exact done.elim
  · exact h.elim
end
end MP
set_option maxRecDepth 100000
set_option maxHeartbeats 4000000
namespace MP
open PySem PySem.Spec PyProof.Rows L2
variable [TabsP] [ThkP]
def starD : D → Option (List D)
  | .tup ds => some ds
  | .ktp ds => some ds
  | .lst ds => some ds
  | _ => none
def lStar (f : EF) (l : LF) : LF := fun env M => (f env M).bindL fun x M1 => match starD (view M1 x) with
  | some ds => (l env M1).bindL fun ys M2 => .ok (ds ++ ys) M2
  | none => .stuck
section
variable {X : Cx} {W : WX} {N0 : Ent} {F H : Hp} {Ad : List Addr} {M : List D} {env : EnvM} {σ : St} {e : Expr} {es : List Expr} {f : EF} {l : LF} {p : Pos} {x : V}
end
end MP
set_option maxRecDepth 100000
set_option maxHeartbeats 1000000
namespace MP
open PySem PySem.Spec PyProof.Rows L2
variable [TabsP] [ThkP]
section
variable {X : Cx} {W : WX} {K : PySem.W.Frag} {E : XK} {DR : DRel} {N0 : Ent} {H0 F H : Hp} {Ad : List Addr} {M : List D} {env : EnvM} {σ : St} {Q : VK} {x : V}
end
end MP
set_option maxRecDepth 100000
set_option maxHeartbeats 1000000
namespace MP
open PySem PySem.Spec PyProof.Rows L2
variable [TabsP] [ThkP]
section
variable {X : Cx} {W : WX} {K : PySem.W.Frag} {E : XK} {DR : DRel} {N0 : Ent} {H0 F H : Hp} {Ad : List Addr} {M : List D} {env : EnvM} {σ : St} {Q : VK} {x y : V} {o k e a b c : Expr} {fo fk fd fa fb fc fv : EF} {apos cpos pos : Pos}
def dictD : D → Bool
  | .dK _ => true
  | .dT _ => true
  | _ => false
def getD (dx dy : D) : Option (Option D) := match dx with
  | .dT kvs => (match dy with | .tup ks => (keysD ks).map fun k => valK kvs k | _ => none)
  | .dK kvs => (keyD dy).map fun k => valK kvs k
  | _ => none
theorem isD_of (m : MemOk K F Ad M H) {dx : D} (ax : DV K F Ad H x dx) (h : dictD dx = true) : ∃ a, x = .ref a ∧ IsD H a := by
  cases dx with
  | dK kvs => obtain ⟨a, vs, e, r, _⟩ := ax.dK m; exact ⟨a, e, .inl ⟨vs, r⟩⟩
  | dT kvs => obtain ⟨a, vs, e, r, _⟩ := ax.dT m; exact ⟨a, e, .inr ⟨vs, r⟩⟩
  | _ => cases h
theorem dget_of (m : MemOk K F Ad M H) {dx dy : D} {od : Option D} (ax : DV K F Ad H x dx) (hy : Den K F Ad y dy) (e : getD dx dy = some od) :
    ∃ a ov, x = .ref a ∧ DGet H a y ov ∧ ((od = none ∧ ov = none) ∨ ∃ d v, od = some d ∧ ov = some v ∧ Den K F Ad v d) := by
  have fin : ∀ {od : Option D} {ov : Option V}, (∀ d, od = some d → ∃ v, ov = some v ∧ Den K F Ad v d) → (od = none → ov = none) → (od = none ∧ ov = none) ∨ ∃ d v, od = some d ∧ ov = some v ∧ Den K F Ad v d := fun {od ov} h1 h2 => by
    cases od with
    | none => exact .inl ⟨rfl, h2 rfl⟩
    | some d => obtain ⟨v, v1, v2⟩ := h1 d rfl; exact .inr ⟨d, v, rfl, v1, v2⟩
  cases dx with
  | dK kvs =>
    obtain ⟨a, vs, ex, r, dd⟩ := ax.dK m
    unfold getD at e
    cases q : keyD dy with
    | none => rw [q] at e; cases e
    | some k =>
      rw [q] at e
      cases e
      have z := DenK.val k dd
      exact ⟨a, valV vs k, ex, .inl ⟨vs, k, r, keyD_v hy q, rfl⟩, fin z.1 z.2⟩
  | dT kvs =>
    obtain ⟨a, vs, ex, r, dd⟩ := ax.dT m
    unfold getD at e
    cases dy with
    | tup ks =>
      dsimp only at e
      cases q : keysD ks with
      | none => rw [q] at e; cases e
      | some kk =>
        rw [q] at e
        cases e
        obtain ⟨c, c1, c2, _⟩ := tup_of m hy q
        have z := DenT.val kk dd
        exact ⟨a, valV vs kk, ex, .inr ⟨vs, kk, c, r, c1, c2, rfl⟩, fin z.1 z.2⟩
    | _ => cases e
  | _ => cases e
def getR (d : D) (r : Option (Option D)) (M : List D) : R := match r with
  | some (some v) => .ok v M
  | some none => .ok d M
  | none => .stuck
def guD (b : Bool) (r : R) : R := if b = true then r else .stuck
def eGet1 (fo fk : EF) : EF := fun env M => (fo env M).bind fun x M1 => guD (dictD (view M1 x)) ((fk env M1).bind fun y M2 => getR .non (getD (view M2 x) y) M2)
def eGet2 (fo fk fd : EF) : EF := fun env M => (fo env M).bind fun x M1 => guD (dictD (view M1 x)) ((fk env M1).bind fun y M2 => (fd env M2).bind fun z M3 => getR z (getD (view M3 x) y) M3)
theorem se_get1 (hu : X.A.units + 1 < cLine) (ho : SB X W o fo) (hk : SE X W k fk) (mm : M1 X o "get" apos k cpos) : SE X W (.Call (.Attribute o "get" apos) [k] [] cpos) (eGet1 fo fk) :=
  PE.imp (pe_dget1 hu ho hk mm) fun σ H Q ⟨N0, F, Ad, M, env, m, en, r⟩ => tG_seq DE.ok m en r fun d M1 v F1 Ad1 H1 g1 m1 en1 x1 r1 => by
    unfold guD at r1
    split at r1
    · rename_i hd
      obtain ⟨a, ea, ia⟩ := isD_of m1 (DB.view m1 x1) hd
      refine ⟨a, ea, ia, tG_seq DE.ok m1 en1 r1 fun d2 M2 v2 F2 Ad2 H2 g2 m2 en2 x2 r2 => ?_⟩
      unfold getR at r2
      split at r2
      · rename_i z q
        obtain ⟨a', ov, e1, e2, e3⟩ := dget_of m2 (DB.view m2 (DB.gr g2 x1 (H0' := H2))) x2 q
        rcases e3 with ⟨e3, _⟩ | ⟨d3, v3, e3, rfl, x3⟩
        · cases e3
        · cases e3
          rw [ea] at e1
          cases e1
          exact ⟨_, e2, RP.here r2 m2 x3⟩
      · rename_i q
        obtain ⟨a', ov, e1, e2, e3⟩ := dget_of m2 (DB.view m2 (DB.gr g2 x1 (H0' := H2))) x2 q
        rcases e3 with ⟨_, rfl⟩ | ⟨d3, v3, e3, _⟩
        · rw [ea] at e1
          cases e1
          exact ⟨_, e2, RP.here r2 m2 .non⟩
        · cases e3
      · exact r2.elim
    · exact r1.elim
theorem se_get2 (hu : X.A.units + 1 < cLine) (ho : SB X W o fo) (hk : SE X W k fk) (hd : SE X W e fd) (mm : M2 X o "get" apos k e cpos) : SE X W (.Call (.Attribute o "get" apos) [k, e] [] cpos) (eGet2 fo fk fd) :=
  PE.imp (pe_dget2 hu ho hk hd mm) fun σ H Q ⟨N0, F, Ad, M, env, m, en, r⟩ => tG_seq DE.ok m en r fun d M1 v F1 Ad1 H1 g1 m1 en1 x1 r1 => by
    unfold guD at r1
    split at r1
    · rename_i hd
      obtain ⟨a, ea, ia⟩ := isD_of m1 (DB.view m1 x1) hd
      refine ⟨a, ea, ia, tG_seq DE.ok m1 en1 r1 fun d2 M2 v2 F2 Ad2 H2 g2 m2 en2 x2 r2 => tG_seq DE.ok m2 en2 r2 fun d3 M3 v3 F3 Ad3 H3 g3 m3 en3 x3 r3 => ?_⟩
      have x13 : DB X.K H3 F3 Ad3 H3 v d := DB.gr (g2.trans g3) x1
      have x23 := x2.mono g3.fle g3.pre
      unfold getR at r3
      split at r3
      · rename_i z q
        obtain ⟨a', ov, e1, e2, e3⟩ := dget_of m3 (DB.view m3 x13) x23 q
        rcases e3 with ⟨e3, _⟩ | ⟨d4, v4, e3, rfl, x4⟩
        · cases e3
        · cases e3
          rw [ea] at e1
          cases e1
          exact ⟨_, e2, RP.here r3 m3 x4⟩
      · rename_i q
        obtain ⟨a', ov, e1, e2, e3⟩ := dget_of m3 (DB.view m3 x13) x23 q
        rcases e3 with ⟨_, rfl⟩ | ⟨d4, v4, e3, _⟩
        · rw [ea] at e1
          cases e1
          exact ⟨_, e2, RP.here r3 m3 x3⟩
        · cases e3
      · exact r3.elim
    · exact r1.elim
def eDisp1 (fk fv : EF) : EF := fun env M => (fk env M).bind fun x M1 => (fv env M1).bind fun y M2 => match keyD x with
  | some k => .ok (.dK [(k, y)]) M2
  | none => .stuck
def bParO (i j : Nat) (fa fb : EF) : SF := fun env M => (fa env M).bindS env fun d M1 => (fb env M1).bindS env fun d2 M2 => match (gN i d env).bind (oN j d2) with
  | some env1 => .next env1 M2
  | none => .stuck
def bPar3 (i j l : Nat) (fa fb fc : EF) : SF := fun env M => (fa env M).bindS env fun d M1 => (fb env M1).bindS env fun d2 M2 => (fc env M2).bindS env fun d3 M3 => match gAll [i, j, l] [d, d2, d3] env with
  | some env1 => .next env1 M3
  | none => .stuck
end
end MP
set_option maxRecDepth 100000
set_option maxHeartbeats 1000000
namespace MP
open PySem PySem.Spec PyProof.Rows L2
variable [TabsP] [ThkP]
section
variable {P : Program} {w : World} {A : Around} {E : Value → Shared → Prop} {s : Shared}
end
section
variable {X : Cx} {W : WX} {K : PySem.W.Frag} {DR : DRel} {F H : Hp} {Ad : List Addr} {M : List D} {σ : St} {x : V}
def Op2E (X : Cx) (W : WX) (DR : DRel) (f : Value → Value → Sem Value) (g : D → D → List D → R) : Prop :=
  ∀ (pins : List (Addr × Obj)) (s : Shared) (σ : St) (H F : Hp) (Ad : List Addr) (M : List D) (x y : V) (v u : Value) (dx dy : D) (Q : VK), Inv X pins σ H s → MemOk X.K F Ad M H → RelV x v → RelV y u → Den X.K F Ad x dx → Den X.K F Ad y dy →
    RP X.K (fun c d H => W c d σ H) DR F Ad H Q (g dx dy M) → wpAny (model X.prog X.w) X.A (f v u) (EP X pins σ Q) X.xe s
theorem s_pcE {DR : DRel} (dr : DRok DR) {op : CmpOp} {g : D → D → List D → R} {a b : Expr} {fa fb : EF} (ho : Op2E X W DR (compareOp op) g) (ha : SE X W a fa) (hb : SE X W b fb) : PC X op a b (tG X.K W DR (e2 g fa fb)) := by
  refine ⟨fun pins s σ H Q I ⟨N0, F, Ad, M, env, m, en, r⟩ => ?_⟩
  refine binT (R := fun x y H2 => ∃ F2 Ad2 M2 dx dy, MemOk X.K F2 Ad2 M2 H2 ∧ Den X.K F2 Ad2 x dx ∧ Den X.K F2 Ad2 y dy ∧ RP X.K (fun c d H => W c d σ H) DR F2 Ad2 H2 Q (g dx dy M2)) ha hb I ?_ ?_
  · refine tG_seq dr m en r fun d M1 v F1 Ad1 H1 g1 m1 en1 x1 r1 => ?_
    refine tG_seq dr m1 en1 r1 fun d2 M2 v2 F2 Ad2 H2 g2 m2 en2 x2 r2 => ?_
    exact ⟨F2, Ad2, M2, d, d2, m2, x1.mono g2.fle g2.pre, x2, r2⟩
  · rintro v u s2 x y H2 I2 rx ry ⟨F2, Ad2, M2, dx, dy, m2, x1, x2, r2⟩
    exact ho pins s2 σ H2 F2 Ad2 M2 x y v u dx dy Q I2 m2 rx ry x1 x2 r2
theorem s_cmpE {DR : DRel} (dr : DRok DR) {op : CmpOp} {g : D → D → List D → R} {a b : Expr} {fa fb : EF} {pos : Pos} (ho : Op2E X W DR (compareOp op) g) (ha : SE X W a fa) (hb : SE X W b fb) (hm : behindInMarks op b = false) : PE X (.Compare a [op] [b] pos) (tG X.K W DR (e2 g fa fb)) :=
  pe_cmp (s_pcE dr ho ha hb) hm
def insOf (cn : Str) (d : D) : Bool := match d with
  | .ins c _ => decide (c = cn)
  | _ => false
def oEqI (cn : Str) (c : List D → List D → R) (x y : D) (M : List D) : R := if insOf cn (view M x) = true ∧ insOf cn (view M y) = true then (match apC c 2 [] [x, y] M with
  | .ok (.bl b) M' => .ok (.bl b) M'
  | .exc e M' => .exc e M'
  | _ => .stuck) else .stuck
theorem insOf_ok {cn : Str} {d : D} (h : insOf cn d = true) : ∃ fs, d = .ins cn fs := by
  cases d with
  | ins c fs => exact ⟨fs, by rw [of_decide_eq_true h]⟩
  | _ => cases h
theorem op2e_eqI {cn : Str} {g : Addr} {k : Nat} {c : List D → List D → R} (hm : Meth X.K (He.ga X.K cn) "__eq__" g) (Fk : FnX X (DE X.K) k 2 g [] c) (hr : MP.Room k X.A) (hx : Pas X W) : Op2E X W (DE X.K) (compareOp .Eq) (oEqI cn c) := by
  intro pins s σ H F Ad M x y v u dx dy Q I m rx ry x1 x2 r
  unfold oEqI at r
  split at r
  · rename_i hh
    obtain ⟨fs, e1⟩ := insOf_ok hh.1
    obtain ⟨gs, e2⟩ := insOf_ok hh.2
    have ax := DB.view (H0 := H) m (.inl x1)
    have ay := DB.view (H0 := H) m (.inl x2)
    rw [e1] at ax
    rw [e2] at ay
    obtain ⟨a, da, va, rfl, ha, _⟩ := ax.ins m
    obtain ⟨b, db, vb, rfl, hb, _⟩ := ay.ins m
    cases rx
    cases ry
    obtain ⟨mA, J, _⟩ := ins_get I.hok ha
    obtain ⟨mB, J', _⟩ := ins_get I.hok hb
    obtain ⟨od, J, _⟩ := J.look
    obtain ⟨od', J', _⟩ := J'.look
    obtain ⟨mm, hF⟩ := I.fr
    show wpAny (model X.prog X.w) X.A (richCompare .Eq (.ref a) (.ref b)) (EP X pins σ Q) X.xe s
    refine PySem.W.cmp_K (op := .Eq) (tb := .ref (He.ga X.K cn)) hr.units0 hF I.ok.mod.kin J J'.type (by simp [PySem.W.notFirst]) hm.at_ hm.fn ?_
    have rr : RP X.K (fun c d H => W c d σ H) (DE X.K) F Ad H (fun z H' => (∃ q, z = .bl q) ∧ Q z H') (apC c 2 [] [dx, dy] M) := by
      cases q : apC c 2 [] [dx, dy] M with
      | ok d M' =>
        rw [q] at r
        cases d with
        | bl bb => exact fun z F' Ad' H' g' m' xx => ⟨⟨bb, by cases xx; rfl⟩, r z F' Ad' H' g' m' xx⟩
        | _ => exact r.elim
      | exc e M' => rw [q] at r; exact r
      | stuck => rw [q] at r; exact r
    refine wpAny_mono (run_fnK Fk hr hx I m (.cons (show L2.RelV (.ref a) (.ref a) from rfl) (.cons (show L2.RelV (.ref b) (.ref b) from rfl) .nil)) (.cons x1 (.cons x2 .nil)) rr) (fun z s' ⟨zv, H', I', rz, ⟨q, eq⟩, hq⟩ => ?_) fun _ _ h => h
    subst eq
    cases rz
    exact ⟨.bl q, H', I', rfl, hq⟩
  · exact r.elim
theorem st_cmpE {op : CmpOp} {g : D → D → List D → R} {a b : Expr} {fa fb : EF} {pos : Pos} (ho : Op2E X W (DE X.K) (compareOp op) g) (ha : SE X W a fa) (hb : SE X W b fb) (hm : behindInMarks op b = false) : ST X W (.Compare a [op] [b] pos) (e2 g fa fb) :=
  PT.imp (pt_cmp (s_pcE DE.ok ho ha hb) hm) fun σ H Q ⟨N0, F, Ad, M, env, m, en, r⟩ => ⟨N0, F, Ad, M, env, m, en, by
    cases q : e2 g fa fb env M with
    | ok d M1 =>
      rw [q] at r
      intro v F' Ad' H' g m' x
      cases d with
      | bl b => cases x; exact ⟨b, rfl, r F' Ad' H' g m'⟩
      | _ => exact r.elim
    | exc x M1 => rw [q] at r; exact r
    | stuck => rw [q] at r; exact r⟩
theorem u2 {k : Nat} {A : Around} (r : MP.Room k A) : A.units + 2 < cLine := by have := r.units; omega
end
end MP
set_option maxRecDepth 100000
set_option maxHeartbeats 4000000
namespace MP
open PySem PySem.Spec PyProof.Rows L2
variable [TabsP] [ThkP]
def eMethQ (cn m : Str) (c : List D → List D → R) (n np nk : Nat) (ix : List Nat) (dd : List D) (o : EF) (l1 l2 : LF) : EF := fun env M => (o env M).bind fun x M1 => match view M1 x with
  | .ins c' fs => if c' = cn ∧ fs.lookup m = none then (l1 env M1).bind fun xs M2 => (l2 env M2).bind fun ys M3 => apQ c n np nk ix dd (x :: xs) ys M3 else .stuck
  | _ => .stuck
section
variable {X : Cx} {W : WX} {DR : DRel} {N0 : Ent} {F H : Hp} {Ad : List Addr} {M : List D} {env : EnvM} {σ : St} {Q : VK} {k n np : Nat} {ks : List Str} {ix : List Nat} {g : Addr} {dd : List D} {c : List D → List D → R} {es : List Expr} {e : Expr} {l l1 l2 : LF} {f : EF} {y m : Str} {p pos kpos : Pos} {kws : List Keyword} {nm : Option Str}
theorem s_methQ0 (dr : DRok DR) {cn m : Str} {pl : Sem Bool} {o : Expr} {fo : EF} {apos : Pos} (hc : Cls X.K (He.ga X.K cn)) (hmt : Meth X.K (He.ga X.K cn) m g) (Fk : FnQ X.prog X.w X.K X.mg X.base DR k n np ks ix g dd c) (hr : MP.Room k X.A) (hx : Pas X W) (ho : SE X W o fo) (hkw : SK X W kws l2)
    (hall : (backToKw pos (keywordEach kws X.env)).all (·.1.isSome) = true := by rfl) (hks : (backToKw pos (keywordEach kws X.env)).filterMap (·.1) = ks := by rfl)
    (hpl : ((backTo pos (starEach [] X.env)).any (·.1) || (backToKw pos (keywordEach kws X.env)).any (·.1.isNone)) = false := by rfl)
    (ht : eval (.Call (.Attribute o m apos) [] kws pos) X.env = (do
      let ov ← eval o X.env
      standAt apos.atName
      let (f, first) ← holding [ov] (getMethod ov m pl)
      callWith pos f first (backTo pos (starEach [] X.env)) (backToKw pos (keywordEach kws X.env))) := by rfl) :
    PE X (.Call (.Attribute o m apos) [] kws pos) (tG X.K W DR (eMethQ cn m c n np ks.length ix dd fo lNil l2)) := by
  refine ⟨fun pins s σ H Q I ⟨N0, F, Ad, M, env, mm, en, r⟩ => ?_⟩
  refine PySem.W.methodCall_KW (pl := pl) (thn (ho.run pins s σ H _ I (tG_seq dr mm en r (Q' := fun v H1 => ∃ F1 Ad1 M1 d, MemOk X.K F1 Ad1 M1 H1 ∧ Den X.K F1 Ad1 v d ∧ EnvOk X.K N0 F1 Ad1 H1 σ env ∧ RP X.K (fun c d H => W c d σ H) DR F1 Ad1 H1 Q (match view M1 d with
    | .ins c' fs => if c' = cn ∧ fs.lookup m = none then (lNil env M1).bind fun xs M2 => (l2 env M2).bind fun ys M3 => apQ c n np ks.length ix dd (d :: xs) ys M3 else .stuck
    | _ => .stuck)) fun d M1 v F1 Ad1 H1 g1 m1 en1 x1 r1 => ⟨F1, Ad1, M1, d, m1, x1, en1, r1⟩)) fun u s1 ⟨x, H1, I1, rx, F1, Ad1, M1, d, m1, x1, en1, r1⟩ => ?_) ht
  have ax := DB.view m1 (H0 := H1) (.inl x1 : DB X.K H1 F1 Ad1 H1 x d)
  split at r1
  · rename_i c' fs e
    split at r1
    · rename_i ec
      obtain ⟨ec, en⟩ := ec
      subst ec
      rw [e] at ax
      obtain ⟨q, dx, vs, rfl, h1, d1⟩ := ax.ins m1
      obtain rfl : u = Value.ref q := rx
      refine getmeth_ok I1 h1 hc hmt (d1.none en) ?_
      refine PySem.W.callWith_KW0 (first := [.ref q]) (h₀ := X.base) I1.ok.mod.kin hmt.kp hall (thn (hkw.run pos pins s1 σ H1 _ I1 (tL_seq (Q' := fun zs H2 => ∃ F2 Ad2 M2 es, MemOk X.K F2 Ad2 M2 H2 ∧ DenL X.K F2 Ad2 [.ref q] [d] ∧ DenL X.K F2 Ad2 zs es ∧ RP X.K (fun c d H => W c d σ H) DR F2 Ad2 H2 Q (apQ c n np ks.length ix dd [d] es M2)) (k := fun ys M2 => apQ c n np ks.length ix dd [d] ys M2) dr m1 en1 r1 fun es M2 zs F2 Ad2 H2 g2 m2 en2 x2 r2 => ⟨F2, Ad2, M2, es, m2, .cons (x1.mono g2.fle g2.pre) .nil, x2, r2⟩))
        fun ws s2 ⟨zs, H2, I2, rz, F2, Ad2, M2, es, m2, x1', x2, r2⟩ => ⟨I2.kIn, ?_⟩) hpl
      rw [hks]
      exact run_fnQ (us := [.ref q]) (vs := [.ref q]) Fk hr hx I2 m2 (.cons rfl .nil) x1' rz x2 r2
    · exact r1.elim
  · exact r1.elim
@[simp] theorem eMethQ_eq {cn m : Str} {f : EF} : eMethQ cn m c n np nk ix dd f l1 l2 env M = (f env M).bind fun x M1 => methR cn m (view M1 x) ((l1 env M1).bind fun xs M2 => (l2 env M2).bind fun ys M3 => apQ c n np nk ix dd (x :: xs) ys M3) := by
  unfold eMethQ
  cases f env M with
  | ok x M1 => show (match view M1 x with | .ins c' fs => _ | _ => _) = methR cn m (view M1 x) _; unfold methR; split <;> simp_all
  | _ => rfl
end
end MP
set_option maxRecDepth 100000
set_option maxHeartbeats 1000000
namespace MP
open PySem PySem.Spec PyProof.Rows L2
variable [TabsP] [ThkP]
def eChain3 (g g' g'' : D → D → List D → R) (a b c d : EF) : EF := fun env M => (a env M).bind fun x M1 => (b env M1).bind fun y M2 => (g x y M2).bind fun r M3 => match r with
  | .bl true => (c env M3).bind fun z M4 => (g' y z M4).bind fun r M5 => match r with
    | .bl true => (d env M5).bind fun u M6 => g'' z u M6
    | .bl false => .ok (.bl false) M5
    | _ => .stuck
  | .bl false => .ok (.bl false) M3
  | _ => .stuck
section
variable {X : Cx} {W : WX} {K : PySem.W.Frag} {DR : DRel} {N0 : Ent} {F H : Hp} {Ad : List Addr} {M : List D} {env : EnvM} {σ : St} {Q : VK} {a b c d : Expr} {fa fb fc fd : EF} {pos : Pos}
@[simp] theorem eChain3_eq {G G' G''} : eChain3 G G' G'' fa fb fc fd env M = (fa env M).bind fun x M1 => (fb env M1).bind fun y M2 => (G x y M2).bind fun r M3 => iteR r ((fc env M3).bind fun z M4 => (G' y z M4).bind fun r M5 => iteR r ((fd env M5).bind fun u M6 => G'' z u M6) (.ok (.bl false) M5)) (.ok (.bl false) M3) := by
  unfold eChain3
  refine iteR_fun fun x M1 => iteR_fun fun y M2 => iteR_fun fun r M3 => ?_
  cases r with
  | bl k =>
    cases k with
    | false => rfl
    | true =>
      show R.bind _ _ = R.bind _ _
      refine iteR_fun fun z M4 => iteR_fun fun r M5 => ?_
      cases r with
      | bl k => cases k <;> rfl
      | _ => rfl
  | _ => rfl
def tChain3 (r r' r'' : R2) (ta tb tc td : TE) : TE := fun σ H Q => ta σ H fun x H1 => tb σ H1 fun y H2 => r x y H2 fun z H3 => ∃ k, z = .bl k ∧
  (if k = true then tc σ H3 fun x2 H4 => r' y x2 H4 fun z2 H5 => ∃ k2, z2 = .bl k2 ∧ (if k2 = true then td σ H5 fun x3 H6 => r'' x2 x3 H6 Q else Q (.bl false) H5) else Q (.bl false) H3)
theorem pe_ch3 {ta tb tc td : TE} {op op' op'' : CmpOp} {r r' r'' : R2} (ho : OpR X (compareOp op) r) (ho' : OpR X (compareOp op') r') (ho'' : OpR X (compareOp op'') r'') (ha : PE X a ta) (hb : PE X b tb) (hc : PE X c tc) (hd : PE X d td)
    (hm : lastMarks [op, op', op''] [b, c, d] = false) : PE X (.Compare a [op, op', op''] [b, c, d] pos) (tChain3 r r' r'' ta tb tc td) := by
  refine ⟨fun pins s σ H Q I h => Compare_chain (thn (ha.run pins s σ H _ I h) fun v s1 ⟨x, H1, I1, r1, q1⟩ => chain_link (thn (hb.run pins s1 σ H1 _ I1 q1) fun u s2 ⟨y, H2, I2, r2, q2⟩ =>
    thn (ho pins s2 σ H2 x y v u _ I2 r1 r2 q2) fun _ s3 ⟨_, H3, I3, r3, k, e, q3⟩ => ?_)) hm⟩
  subst e
  cases r3
  refine wpAny_truthy_bool ?_
  cases k with
  | false => exact ite_ff ⟨.bl false, H3, I3, rfl, q3⟩
  | true =>
    refine ite_tt (chain_link (thn (hc.run pins s3 σ H3 _ I3 q3) fun w4 s4 ⟨y4, H4, I4, r4, q4⟩ => thn (ho' pins s4 σ H4 y y4 u w4 _ I4 r2 r4 q4) fun _ s5 ⟨_, H5, I5, r5, k2, e5, q5⟩ => ?_))
    subst e5
    cases r5
    refine wpAny_truthy_bool ?_
    cases k2 with
    | false => exact ite_ff ⟨.bl false, H5, I5, rfl, q5⟩
    | true => exact ite_tt (chain_last (thn (hd.run pins s5 σ H5 _ I5 q5) fun w6 s6 ⟨y6, H6, I6, r6, q6⟩ => ho'' pins s6 σ H6 y4 y6 w4 w6 Q I6 r4 r6 q6))
theorem se_ch3 {op op' op'' : CmpOp} {g g' g'' : D → D → List D → R} (ho : Op2 X (DE X.K) (compareOp op) g) (ho' : Op2 X (DE X.K) (compareOp op') g') (ho'' : Op2 X (DE X.K) (compareOp op'') g'') (ha : SB X W a fa) (hb : SB X W b fb) (hc : SB X W c fc) (hd : SB X W d fd)
    (hm : lastMarks [op, op', op''] [b, c, d] = false := by rfl) : SE X W (.Compare a [op, op', op''] [b, c, d] pos) (eChain3 g g' g'' fa fb fc fd) :=
  ⟨fun pins s σ H Q I ⟨N0, F, Ad, M, env, m, en, r⟩ => (pe_ch3 (ho.opR (E := fun c d H => W c d σ H)) (ho'.opR (E := fun c d H => W c d σ H)) (ho''.opR (E := fun c d H => W c d σ H)) ha hb hc hd hm).run pins s σ H Q I (by
    refine tG_seq DE.ok m en r fun d1 M1 v F1 Ad1 H1 g1 m1 en1 x1 r1 => tG_seq DE.ok m1 en1 r1 fun d2 M2 v2 F2 Ad2 H2 g2 m2 en2 x2 r2 => ⟨F2, Ad2, M2, d1, d2, m2, DB.gr g2 x1, x2, ?_⟩
    cases q : g d1 d2 M2 with
    | exc x M3 => rw [q] at r2; exact r2
    | stuck => rw [q] at r2; exact r2
    | ok d3 M3 =>
      rw [q] at r2
      intro v3 F3 Ad3 H3 g3 m3 x3
      have r3 := RP.gr DE.ok r2 g3
      have en3 := en2.gr g3
      cases d3 with
      | bl k =>
        cases x3
        refine ⟨k, rfl, ?_⟩
        cases k with
        | false => exact RP.here r3 m3 .bl
        | true =>
          refine tG_seq DE.ok m3 en3 r3 fun d4 M4 v4 F4 Ad4 H4 g4 m4 en4 x4 r4 => ⟨F4, Ad4, M4, d2, d4, m4, DB.gr g4 (DB.gr g3 x2 (H0' := H3)), x4, ?_⟩
          cases q4 : g' d2 d4 M4 with
          | exc x M5 => rw [q4] at r4; exact r4
          | stuck => rw [q4] at r4; exact r4
          | ok d5 M5 =>
            rw [q4] at r4
            intro v5 F5 Ad5 H5 g5 m5 x5
            have r5 := RP.gr DE.ok r4 g5
            have en5 := en4.gr g5
            cases d5 with
            | bl k2 =>
              cases x5
              refine ⟨k2, rfl, ?_⟩
              cases k2 with
              | false => exact RP.here r5 m5 .bl
              | true => exact tG_seq DE.ok m5 en5 r5 fun d6 M6 v6 F6 Ad6 H6 g6 m6 en6 x6 r6 => ⟨F6, Ad6, M6, d4, d6, m6, DB.gr g6 (DB.gr g5 x4 (H0' := H5)), x6, r6⟩
            | _ => exact r5.elim
      | _ => exact r3.elim)⟩
end
end MP
set_option maxRecDepth 100000
set_option maxHeartbeats 1000000
namespace MP
open PySem PySem.Spec PyProof.Rows L2
variable [TabsP] [ThkP]
section
variable {X : Cx} {W : WX} {K : PySem.W.Frag} {DR : DRel} {N0 : Ent} {F H : Hp} {Ad : List Addr} {M : List D} {env : EnvM} {σ : St} {Q : VK} {a b c d : Expr} {fa fb fc fd : EF} {pos : Pos}
def bRetO (i : Nat) : SF := fun env M => match env[i]? with
  | some (.own d) => .ret d M
  | _ => .stuck
@[simp] theorem bRetO_own {i : Nat} {d : D} (h : env[i]? = some (.own d)) : bRetO i env M = .ret d M := by unfold bRetO; rw [h]
def bParOO (i j : Nat) (fa fb : EF) : SF := fun env M => (fa env M).bindS env fun d M1 => (fb env M1).bindS env fun d2 M2 => match (oN i d env).bind (oN j d2) with
  | some env1 => .next env1 M2
  | none => .stuck
theorem ss_parOO {i j : Nat} {x y : Str} {px py pt : Pos} {kt k2 pt2} (hc : X.calm = true) (hN : X.N.Nodup) (hi : X.N[i]? = some x) (hj : X.N[j]? = some y) (hij : i ≠ j)
    (hx : X.env.scope.names.lookup x = some .local) (hy : X.env.scope.names.lookup y = some .local) (ha : SO X W a fa) (hb : SO X W b fb)
    (hw : swappedStores [.Tuple [.Name x px, .Name y py] kt pt] (.Tuple [a, b] k2 pt2) X.env = pure (some [x, y]) := by rfl)
    (hs : swapsWithSole [.Tuple [.Name x px, .Name y py] kt pt] (.Tuple [a, b] k2 pt2) pos.line X.env = pure false := by rfl)
    (s1 : starEach [a, b] X.env = (false, eval a X.env) :: starEach [b] X.env := by rfl) (s2 : starEach [b] X.env = (false, eval b X.env) :: starEach [] X.env := by rfl) :
    SS X W DR (.Assign [.Tuple [.Name x px, .Name y py] kt pt] (.Tuple [a, b] k2 pt2) pos) (bParOO i j fa fb) :=
  PS.imp (ps_par hc hN hi hj hij hx hy (pa_cons ha (pa_cons hb pa_nil s2) s1) hw hs) fun E σ H ⟨N0, F, Ad, M, env, ge0, m, en, r⟩ =>
    tE_of ge0 m en r fun d M1 v F1 Ad1 H1 g1 ge m1 en1 x1 r1 => tE_of ge m1 en1 r1 fun d2 M2 v2 F2 Ad2 H2 g2 ge2 m2 en2 x2 r2 => by
      refine ⟨v, v2, rfl, ?_⟩
      cases h : (oN i d env).bind (oN j d2) with
      | none => rw [h] at r2; exact r2.elim
      | some env1 =>
        rw [h] at r2
        obtain ⟨e1, h1, h2⟩ := Option.bind_eq_some_iff.mp h
        exact r2 _ F2 Ad2 H2 ge2 (FLe.refl _) pre_refl m2 ((en.setOwn ge0 g1 x1 h1).setOwn ge g2 x2 h2)
end
end MP
set_option maxRecDepth 100000
set_option maxHeartbeats 1000000
namespace MP
open PySem PySem.Spec PyProof.Rows L2
variable [TabsP] [ThkP]
section
variable {P : Program} {w : World} {T : Type} [DecidableEq T] {kd : HeapKind P w T} {A : Around} {E : Value → Shared → Prop} {s : Shared} {p o q : Addr} {kvs more xs : List (T × Addr × Value)} {k : T} {v : Value}
end
end MP
set_option maxRecDepth 100000
set_option maxHeartbeats 1000000
namespace MP
open PySem PySem.Spec PyProof.Rows L2
variable [TabsP] [ThkP]
section
variable {P : Program} {w : World} {A : Around} {E : Value → Shared → Prop} {s : Shared}
end
end MP
set_option maxRecDepth 100000
set_option maxHeartbeats 1000000
namespace MP
open PySem PySem.Spec PyProof.Rows L2
variable [TabsP] [ThkP]
section
variable {X : Cx} {W : WX} {K : PySem.W.Frag} {DR : DRel} {N0 : Ent} {F H : Hp} {Ad : List Addr} {M : List D} {env : EnvM} {σ : St} {Q : VK} {em k e : Expr} {fm fk fv : EF} {pos : Pos}
end
end MP
set_option maxRecDepth 100000
set_option maxHeartbeats 1000000
namespace MP
open PySem PySem.Spec PyProof.Rows L2
variable [TabsP] [ThkP]
section
variable {X : Cx} {W : WX} {K : PySem.W.Frag} {DR : DRel} {N0 : Ent} {F H : Hp} {Ad : List Addr} {M : List D} {env : EnvM} {σ : St} {Q : VK} {pos : Pos} {i j : Nat}
def bSubT (i j : Nat) (fk fl fv : EF) : SF := fun env M => (fv env M).bindS env fun dv M1 => match dv, env[i]? with
  | .tup [d1, d2], some (.own d) => (fk env M1).bindS env fun dk M2 => (match stSub dk d1 d with
      | some d' => if has j (env.set i (.own d')) = true then (fl (env.set i (.own d')) M2).bindS (env.set i (.own d')) fun dl M3 => store j (stSub dl d2) (env.set i (.own d')) M3 else .stuck
      | none => .stuck)
  | _, _ => .stuck
theorem ss_subT {x y : Str} {k l value : Expr} {p1 p2 p3 p4 pt : Pos} {kt : Nat} {fk fl fv : EF} (hu : X.A.units + 1 < cLine) (hc : X.calm = true) (hN : X.N[i]? = some x) (hv : Vis X.env.scope x) (hN2 : X.N[j]? = some y) (hv2 : Vis X.env.scope y) (hk : SE X W k fk) (hl : SE X W l fl) (he : SE X W value fv)
    (ha : ∀ v, assign (.Subscript (.Name x p2) k p1) X.env v = (do
      let ov ← holding [v] (eval (.Name x p2) X.env)
      let iv ← holding [v, ov] (eval k X.env)
      standAt p1
      holding [v, ov, iv] (setItem ov iv v)
      release [v, ov, iv] []) := by intro _; rfl)
    (ha2 : ∀ v, assign (.Subscript (.Name y p4) l p3) X.env v = (do
      let ov ← holding [v] (eval (.Name y p4) X.env)
      let iv ← holding [v, ov] (eval l X.env)
      standAt p3
      holding [v, ov, iv] (setItem ov iv v)
      release [v, ov, iv] []) := by intro _; rfl)
    (hs : swapsWithSole [.Tuple [.Subscript (.Name x p2) k p1, .Subscript (.Name y p4) l p3] kt pt] value pos.line X.env = pure false := by rfl) (hw : swappedStores [.Tuple [.Subscript (.Name x p2) k p1, .Subscript (.Name y p4) l p3] kt pt] value X.env = pure none := by rfl)
    (h1 : (assignEach [.Tuple [.Subscript (.Name x p2) k p1, .Subscript (.Name y p4) l p3] kt pt] X.env).map (·.2) = [assign (.Tuple [.Subscript (.Name x p2) k p1, .Subscript (.Name y p4) l p3] kt pt) X.env] := by rfl)
    (s1 : (assignEach [.Subscript (.Name x p2) k p1, .Subscript (.Name y p4) l p3] X.env).map (·.2) = assign (.Subscript (.Name x p2) k p1) X.env :: (assignEach [.Subscript (.Name y p4) l p3] X.env).map (·.2) := by rfl)
    (s2 : (assignEach [.Subscript (.Name y p4) l p3] X.env).map (·.2) = assign (.Subscript (.Name y p4) l p3) X.env :: (assignEach [] X.env).map (·.2) := by rfl)
    (hn : (assignEach [.Subscript (.Name x p2) k p1, .Subscript (.Name y p4) l p3] X.env).length = 2 := by rfl) (hst : (assignEach [.Subscript (.Name x p2) k p1, .Subscript (.Name y p4) l p3] X.env).findIdx? (·.1) = none := by rfl)
    (hd : (x == ("__debug__" : Str)) = false := by decide) (hcd : (x == ("__classdict__" : Str)) = false := by decide) (hd2 : (y == ("__debug__" : Str)) = false := by decide) (hcd2 : (y == ("__classdict__" : Str)) = false := by decide) :
    SS X W DR (.Assign [.Tuple [.Subscript (.Name x p2) k p1, .Subscript (.Name y p4) l p3] kt pt] value pos) (bSubT i j fk fl fv) :=
  PS.imp (ps_asg he (pg_tup (n := 2) hc (pgs_cons (pg_sub (pe_var hN hv hd hcd) hk (set_all hu) ha) (pgs_cons (pg_sub (pe_var hN2 hv2 hd2 hcd2) hl (set_all hu) ha2) pgs_nil s2) s1) hn hst) hs hw h1) fun D σ H ⟨N0, F, Ad, M, env, ge0, m, en, r⟩ =>
    tE_of ge0 m en r fun dv M1 v F1 Ad1 H1 g1 ge m1 en1 x1 r1 => by
      split at r1
      · rename_i d1 d2 d hi
        cases x1 with
        | @tup a vs _ hf dl =>
          cases dl with
          | @cons v1 _ vs1 _ xd1 dl =>
            cases dl with
            | @cons v2 _ vs2 _ xd2 dl =>
              cases dl
              obtain ⟨p, hp1, hp2, hp3, hp4, hp5⟩ := en1.own i d hi
              refine ⟨a, [v1, v2], rfl, sqT_sub m1 hf.sq, rfl, v1, [v2], rfl, .ref p, hp1, tE_of ge m1 en1 r1 fun dk M2 vk F2 Ad2 H2 g2 ge2 m2 en2 x2 r2 => ?_⟩
              split at r2
              · rename_i d' hu
                obtain ⟨q, hq1, hq2, hq3, hq4, hq5⟩ := en2.own i d hi
                rw [hp1] at hq1
                cases hq1
                refine set_of m2 (xd1.mono g2.fle g2.pre) x2 hq5 hu fun o' ro => ?_
                obtain ⟨ge3, m3, en3⟩ := wr_own ge2 m2 en2 hi hp1 ro
                refine ⟨v2, [], rfl, ?_⟩
                split at r2
                · rename_i hh
                  obtain ⟨v0, hv0⟩ := en3.has hh
                  refine ⟨v0, hv0, tE_of ge3 m3 en3 r2 fun dl M4 vl F4 Ad4 H4 g4 ge4 m4 en4 x4 r4 => ?_⟩
                  obtain ⟨b, e, e', c1, c2, c3, c4, c5⟩ := store_ok ge4 m4 en4 r4
                  rw [hv0] at c1; cases c1
                  exact set_of m4 (((xd2.mono g2.fle g2.pre)).mono g4.fle g4.pre) x4 c4 c3 fun o2 ro2 => ⟨rfl, c5 o2 ro2⟩
                · exact r2.elim
              · exact r2.elim
      · exact r1.elim
end
end MP
set_option maxRecDepth 100000
set_option maxHeartbeats 1000000
namespace MP
open PySem PySem.Spec PyProof.Rows L2
variable [TabsP] [ThkP]
section
variable {X : Cx} {W : WX} {K : PySem.W.Frag} {DR : DRel} {N0 : Ent} {F H : Hp} {Ad : List Addr} {M : List D} {env : EnvM} {σ : St} {Q : VK} {pos : Pos}
def seqD : D → Option (List D)
  | .lst xs => some xs | .tup xs => some xs | .ktp xs => some xs | _ => none
end
end MP
set_option maxRecDepth 100000
set_option maxHeartbeats 1000000
namespace MP
open PySem PySem.Spec PyProof.Rows L2
variable [TabsP] [ThkP]
def bReprA (ds : List D) (M : List D) : R := match ds with
  | [d] => (match view M d with
    | .non => .ok (.str "None") M
    | .bl b => .ok (.str (if b then "True" else "False")) M
    | .int i => if i.natAbs.log2 < 1920 then .ok (.str (toString i)) M else .stuck
    | .str x => if (reprText x).length ≤ sizeLine then .ok (.str (reprText x)) M else .stuck
    | _ => bRepr [d] M)
  | _ => .stuck
theorem call_reprAU {X : Cx} (gd : X.A.guards = some []) (hu : X.A.units + 64 < cLine) : CallS X (DE X.K) (.builtin "repr") bReprA := by
  intro pins s σ H F Ad M E xs us ds Q I m rv x r
  unfold bReprA at r
  split at r
  · rename_i d
    obtain ⟨v, rfl, hx⟩ := x.one
    have ax := DB.view m hx
    obtain ⟨u, rfl, ru⟩ := vals1 rv
    split at r
    · rename_i e; rw [e] at ax
      rw [ax.non] at ru
      obtain rfl : u = Value.none := ru
      exact PySem.P.repr_of_none ⟨.str _, H, I.tok _, ⟨_, rfl⟩, RP.here r m .str⟩
    · rename_i b e; rw [e] at ax
      rw [ax.bl] at ru
      obtain rfl : u = Value.bool b := ru
      exact PySem.P.repr_of_bool ⟨.str _, H, I.tok _, ⟨_, rfl⟩, RP.here r m .str⟩
    · rename_i i e; rw [e] at ax
      rw [ax.int] at ru
      obtain ⟨t, rfl⟩ := (show ∃ t, u = Value.int i t from ru)
      split at r
      · rename_i hl
        exact PySem.P.repr_of_int hl ⟨.str _, H, I.tok _, ⟨_, rfl⟩, RP.here r m .str⟩
      · exact r.elim
    · rename_i z e; rw [e] at ax
      rw [ax.str] at ru
      obtain ⟨t, rfl⟩ := (show ∃ t, u = Value.str z t from ru)
      split at r
      · rename_i hl
        exact PySem.P.repr_of_str ⟨.str _, H, I.tok _, ⟨_, rfl⟩, RP.here r m .str⟩ hl
      · exact r.elim
    · exact call_reprU gd hu pins s σ H F Ad M E [v] [u] [d] Q I m rv x r
  · exact r.elim
theorem call_reprA {X : Cx} {k : Nat} (hr : MP.Room k X.A) : CallS X (DE X.K) (.builtin "repr") bReprA := call_reprAU hr.gd hr.units
theorem bReprA_ref {d : D} {M : List D} {s : Str} (h : isRef d = true) (e : bRepr [d] M = .ok (.str s) M) : bReprA [d] M = .ok (.str s) M := by
  cases d <;> first | (cases h; done) | exact e
end MP
set_option maxRecDepth 100000
set_option maxHeartbeats 1000000
namespace MP
open PySem PySem.Spec PyProof.Rows L2
variable [TabsP] [ThkP]
section
variable {X : Cx} {K : PySem.W.Frag} {F H : Hp} {Ad : List Addr} {M : List D}
def geI (ns ms : List Int) : Bool := Ob.lexAt (fun j => decide (ns.getD j 0 = ms.getD j 0)) (fun j => decide (ms.getD j 0 ≤ ns.getD j 0)) (decide (ns.length ≥ ms.length)) 0 (min ns.length ms.length)
def rGeI (K : PySem.W.Frag) : R2 := fun x y H Q => ∃ (a b : Addr) (ns ms : List Int), x = .ref a ∧ y = .ref b ∧ SqT K H a (ns.map V.int) ∧ SqT K H b (ms.map V.int) ∧ Q (.bl (geI ns ms)) H
theorem op_geI (hu : X.A.units < cLine) : OpR X (compareOp .GtE) (rGeI X.K) := by
  rintro pins s σ H x y v u Q I rx ry ⟨a, b, ns, ms, rfl, rfl, ha, hb, q⟩
  cases rx
  cases ry
  obtain ⟨xs, r1, p1, _⟩ := I.tuple ha
  obtain ⟨ys, r2, p2, _⟩ := I.tuple hb
  have i1 : IntsAre xs ns := Vals.ints r1
  have i2 : IntsAre ys ms := Vals.ints r2
  have z1 : xs.toArray.size = ns.length := List.size_toArray.trans i1.length
  have z2 : ys.toArray.size = ms.length := List.size_toArray.trans i2.length
  have g1 : ∀ j (h : j < xs.toArray.size), ∃ t, xs.toArray[j] = .int (ns.getD j 0) t := fun j h => PyProof.Rows.IntsAre.int_at i1 _ _ (by simp at h; simp [h])
  have g2 : ∀ j (h : j < ys.toArray.size), ∃ t, ys.toArray[j] = .int (ms.getD j 0) t := fun j h => PyProof.Rows.IntsAre.int_at i2 _ _ (by simp at h; simp [h])
  have R := Ob.RcOp.tuples_ge (A := X.A) (s := s) (e := fun j => decide (ns.getD j 0 = ms.getD j 0)) (r := fun j => decide (ms.getD j 0 ≤ ns.getD j 0)) p1 p2 hu
    (fun j h1 h2 => by
      obtain ⟨t, e⟩ := g1 j h1
      obtain ⟨t', e'⟩ := g2 j h2
      rw [e, e', show decide (ns.getD j 0 = ms.getD j 0) = (ns.getD j 0 == ms.getD j 0) from by rw [Bool.eq_iff_iff]; simp]
      exact SeqAt.EqAt.int_int _ _ _ _)
    (fun j h1 h2 _ => by
      obtain ⟨t, e⟩ := g1 j h1
      obtain ⟨t', e'⟩ := g2 j h2
      rw [e, e']
      exact Ob.RcOp.ge_int _ _ _ _)
  rw [z1, z2] at R
  exact R X.prog X.w X.xe (EP X pins σ Q) ⟨.bl _, H, I, rfl, q⟩
def oGeT (x y : D) (M : List D) : R := match view M x, view M y with
  | .tup a, .tup b => (match intsOf a, intsOf b with
    | some ns, some ms => .ok (.bl (geI ns ms)) M
    | _, _ => .stuck)
  | _, _ => .stuck
theorem op2_geT (hu : X.A.units < cLine) : Op2 X (DE X.K) (compareOp .GtE) oGeT := by
  intro pins s σ H F Ad M E x y v u dx dy Q I m rx ry hx hy r
  have ax := DB.view m hx
  have ay := DB.view m hy
  unfold oGeT at r
  revert r ax ay
  generalize view M dx = ex
  generalize view M dy = ey
  intro r ax ay
  split at r
  · split at r
    · rename_i ns ms e1 e2
      obtain ⟨p, vs, rfl, h1, d1⟩ := ax.tup m
      obtain ⟨q, ws, rfl, h2, d2⟩ := ay.tup m
      rw [d1.ints e1] at h1
      rw [d2.ints e2] at h2
      exact op_geI hu pins s σ H _ _ v u Q I rx ry ⟨p, q, ns, ms, rfl, rfl, h1, h2, RP.here r m .bl⟩
    · exact r.elim
  · exact r.elim
theorem geI_2 {a b c d : Int} : geI [a, b] [c, d] = decide (c < a ∨ (a = c ∧ d ≤ b)) := by
  show (if decide (a = c) = true then (if decide (b = d) = true then true else decide (d ≤ b)) else decide (c ≤ a)) = _
  by_cases e : a = c
  · subst e
    by_cases e2 : b = d
    · subst e2; simp
    · simp [e2]
  · simp [e]; omega
theorem oGeT_2 {a b c d : Int} : oGeT (.tup [.int a, .int b]) (.tup [.int c, .int d]) M = .ok (.bl (decide (c < a ∨ (a = c ∧ d ≤ b)))) M := by
  rw [← geI_2]; rfl
end
end MP
set_option maxRecDepth 100000
set_option maxHeartbeats 1000000
namespace MP
open PySem PySem.Spec PyProof.Rows L2
variable [TabsP] [ThkP]
section
variable {X : Cx} {K : PySem.W.Frag} {F H : Hp} {Ad : List Addr} {M : List D}
end
end MP
set_option maxRecDepth 100000
set_option maxHeartbeats 1000000
namespace MP
open PySem PySem.Spec PyProof.Rows L2
variable [TabsP] [ThkP]
section
variable {X : Cx} {K : PySem.W.Frag} {F H : Hp} {Ad : List Addr} {M : List D}
end
end MP
set_option maxRecDepth 100000
set_option maxHeartbeats 1000000
namespace MP
open PySem PySem.Spec PyProof.Rows L2
variable [TabsP] [ThkP]
section
variable {X : Cx} {pins : List (Addr × Obj)} {σ : St} {H : Hp} {s : Shared} {d : Addr}
end
section
variable {X : Cx} {tg e : Expr} {td : TE} {apos cpos : Pos}
end
section
variable {X : Cx} {W : WX} {tg e : Expr} {f : EF} {apos cpos pos p : Pos}
end
section
variable {prog : Program} {w : World} {A : Around} {R : Result → Shared → Prop} {I : Addr} {fp wr : List Addr} {n : Nat} {P : Nat → Value → Prop} {St : Nat → Heap → Prop}
end
section
variable {X : Cx} {W : WX} {a e : Expr} {fx f : EF} {apos cpos pos : Pos}
end
section
variable {X : Cx} {W : WX} {tg e : Expr} {td : TE} {f : EF} {apos cpos : Pos} {K : PySem.W.Frag} {F : Hp} {Ad : List Addr} {a : Addr}
end
end MP
set_option maxRecDepth 100000
set_option maxHeartbeats 1000000
namespace HQ
open PySem PySem.W PySem.Calls PyProof.Rows HandSHeadRun
noncomputable section
section
variable (st : SharedT → Thread → Option (SharedT × Thread)) (n0 : Nat) (ann : Option Value)
def goP : Nat → SharedT → Thread → Option (SharedT × Thread)
  | 0, s, t => some (s, t)
  | m + 1, s, t => match through t with
    | true => none
    | false => match stepOk n0 ann t with
      | false => none
      | true => match st s t with
        | some (s2, t2) => frS s2 fun s3 => goP m s3 t2
        | none => none
end
def beg (st : SharedT → Thread → Option (SharedT × Thread)) (k : Nat) (p : Program) (w : World) (os : OsState) : Option (SharedT × Thread) := match putAll (boot_heap w.params).objs.toList .nil 0 with
  | some (t, n) => frNat n fun n0 => goP st n0 (bootAnn w) k (bootT w os (t, n0)) (topStub p)
  | none => none
def bootN (w : World) : Option Nat := (putAll (boot_heap w.params).objs.toList .nil 0).map (·.2)
theorem goP_F {st : SharedT → Thread → Option (SharedT × Thread)} {n0 : Nat} {ann : Option Value} (m : Nat) : ∀ {k : Nat} {s s2 : SharedT} {t t2 : Thread}, goP st n0 ann k s t = some (s2, t2) → goF st n0 ann (k + m) s t = goF st n0 ann m s2 t2
  | 0, s, s2, t, t2, h => by
    have e : some (s, t) = some (s2, t2) := h
    cases e
    rw [Nat.zero_add]
  | k + 1, s, s2, t, t2, h => by
    rw [show k + 1 + m = (k + m) + 1 by omega]
    unfold goP at h
    conv => lhs; unfold goF
    cases ht : through t with
    | true => rw [ht] at h; cases h
    | false =>
      rw [ht] at h
      dsimp only at h ⊢
      cases hk : stepOk n0 ann t with
      | false => rw [hk] at h; cases h
      | true =>
        rw [hk] at h
        dsimp only at h ⊢
        cases hs : st s t with
        | none => rw [hs] at h; cases h
        | some r =>
          obtain ⟨s4, t4⟩ := r
          rw [hs] at h
          dsimp only at h ⊢
          rw [frS_eq] at h ⊢
          exact goP_F m h
theorem beg_F {st : SharedT → Thread → Option (SharedT × Thread)} {p : Program} {w : World} {os : OsState} {n0 k : Nat} (m : Nat) {s : SharedT} {t : Thread} (hn : bootN w = some n0) (h : beg st k p w os = some (s, t)) : endF st (k + m) p w os = goF st n0 (bootAnn w) m s t := by
  unfold beg at h
  unfold endF
  unfold bootN at hn
  cases e : putAll (boot_heap w.params).objs.toList .nil 0 with
  | none => rw [e] at h; cases h
  | some r =>
    obtain ⟨tr, n⟩ := r
    rw [e] at h hn
    cases hn
    dsimp only at h ⊢
    rw [frNat_eq] at h ⊢
    exact goP_F m h
def hS (w : World) (s : Str) : Int := reduceHash (w.params.strHash s.cps)
def stOf (w : World) (os : OsState) (l : List Obj) (n toks : Nat) : SharedT := ⟨((putAll l .nil 0).map (·.1)).getD .nil, n, (boot_heap w.params).life, #[], boot_drawn, toks, os⟩
def envT (p : Program) (code : Nat) (fr : Nat) : Env := { scope := p.main.scope, locals := mainNs, globals := mainNs, cells := [], code := .ref code, frame := some fr }
def thOf (p : Program) (w : World) (os : OsState) (code fr i : Nat) (pos : Pos) : Thread := ⟨denQ tabQ (.body ((behindTheImports p).drop i) (envT p code fr)), .body (behindTheImports p) (envT p code fr), pos, match beg (stepQ (denQ tabQ) p w) 12 p w os with
  | some (_, t) => t.stack
  | none => []⟩
end
end HQ
namespace MP
open PySem PySem.Spec PyProof.Rows L2
def hookL (as : List Addr) (fa : List He.Fa) (fm : List Fm) (fn : List DefM) : PySem.W.Hook where
  α := AlM
  obs := fun s => obsM fa fm fn (He.frG s.heap.get? as)
  val := fun _ => valM fn
  says := fun _ h => ∃ K : PySem.W.Frag, K.In h ∧ SaysM fa fm fn K
  of := fun _ _ e => ⟨_, He.frG_in, e⟩
  keeps := fun _ _ _ ⟨K, hK, c⟩ k => ⟨K, PySem.W.Frag.In.keeps hK k, c⟩
def obL (as : List Addr) (fa : List He.Fa) (fm : List Fm) (fn : List DefM) (g : Addr → Option Obj) : AlM := obsM fa fm fn (He.frG g as)
theorem obL_eq {as : List Addr} {fa : List He.Fa} {fm : List Fm} {fn : List DefM} {g : Addr → Option Obj} {s : Shared} (h : ∀ a, g a = s.heap.get? a) : obL as fa fm fn g = (hookL as fa fm fn).obs s := by
  have e : g = s.heap.get? := funext h
  subst e
  rfl
end MP
set_option maxRecDepth 100000
set_option maxHeartbeats 1000000
namespace MP
open PySem PySem.Spec PyProof.Rows L2
variable [TabsP] [ThkP]
def DP (K : PySem.W.Frag) : DRel := fun H0 F Ad H v d => ∃ a x y d1 d2, v = .ref a ∧ d = .tup [d1, d2] ∧ H a = some (.tup [.ref x, .ref y]) ∧ F a = none ∧ H0 a = none ∧ DO K H0 F Ad H (.ref x) d1 ∧ DO K H0 F Ad H (.ref y) d2 ∧ x ≠ y
theorem DP.ok {K} : DRok (DP K) := fun F0 Ad0 H0 F Ad H F' Ad' H' v d g ⟨a, x, y, d1, d2, h1, h2, h3, h4, h5, h6, h7, h8⟩ => ⟨a, x, y, d1, d2, h1, h2, h3, h4, by
  cases q : H0 a with
  | none => rfl
  | some o => exact absurd h5 (g.alive a (by rw [q]; simp)), DO.ok _ _ _ _ _ _ _ _ _ _ _ g h6, DO.ok _ _ _ _ _ _ _ _ _ _ _ g h7, h8⟩
section
variable {K : PySem.W.Frag} {F H H1 : Hp} {Ad : List Addr} {M : List D} {env : EnvM} {σ : St} {N0 : Ent}
theorem notRoot_tup {K F Ad H a d vs} (h : H a = some (.tup vs)) : ¬ Root K F Ad H a d := fun r => by
  cases r with
  | lst h' _ => rw [h] at h'; cases h'
  | dK h' _ => rw [h] at h'; cases h'
  | dT h' _ => rw [h] at h'; cases h'
  | ins h' _ => rw [h] at h'; cases h'
theorem addT {F0 H0 : Hp} {Ad0 : List Addr} {a : Addr} {vs : List V} (g : Gr F0 Ad0 H0 F Ad H) (m : MemOk K F Ad M H) (h : H a = some (.tup vs)) (n : F a = none) (n0 : H0 a = none) :
    Gr F0 Ad0 H0 (upd F a (.tup vs)) Ad H ∧ MemOk K (upd F a (.tup vs)) Ad M H ∧ FLe F (upd F a (.tup vs)) := by
  have fl : FLe F (upd F a (.tup vs)) := fle_new n
  refine ⟨⟨g.fle.trans fl, fun b ob hb ro h1 na1 => ?_, g.apre, g.keep, g.alive⟩, ⟨fun b u hb => ?_, m.len, m.nd, fun k b e h1 h2 => ?_, m.tab⟩, fl⟩
  · rw [upd_ne (fun e => by rw [e, n0] at hb; cases hb)]; exact g.fnew b ob hb ro h1 na1
  · by_cases e : b = a
    · subst e; rw [upd_same] at hb; cases hb; exact h
    · rw [upd_ne e] at hb; exact m.sub b u hb
  · obtain ⟨f, q⟩ := m.cel k b e h1 h2
    have ne : b ≠ a := fun z => notRoot_tup (z ▸ h) q
    exact ⟨by rw [upd_ne ne]; exact f, q.mono fl (fun _ _ h => h) rfl⟩
theorem freezeP {F0 H0 : Hp} {Ad0 : List Addr} {v d} (g : Gr F0 Ad0 H0 F Ad H) (m : MemOk K F Ad M H) (h : DP K H0 F Ad H v d) : ∃ F', Gr F0 Ad0 H0 F' Ad H ∧ MemOk K F' Ad M H ∧ Den K F' Ad v d := by
  obtain ⟨a, x, y, d1, d2, rfl, rfl, h3, h4, h5, h6, h7, h8⟩ := h
  obtain ⟨F1, g1, m1, e1, l1, o1⟩ := freeze g m h6
  have h7' : DO K H0 F1 Ad H (.ref y) d2 := by
    obtain ⟨y', e, q1, q2, q3, q4⟩ := h7
    cases e
    exact ⟨y, rfl, o1 y q1 (fun z => h8 (by cases z; rfl)), q2, q3, q4.mono l1 (fun _ _ h => h) rfl⟩
  obtain ⟨F2, g2, m2, e2, l2, o2⟩ := freeze g1 m1 h7'
  have hx : x ≠ a := fun z => by obtain ⟨x', e, _, _, _, q⟩ := h6; cases e; exact notRoot_tup h3 (z ▸ q)
  have hy : y ≠ a := fun z => by obtain ⟨x', e, _, _, _, q⟩ := h7; cases e; exact notRoot_tup h3 (z ▸ q)
  have n2 : F2 a = none := o2 a (o1 a h4 (fun z => hx (by cases z; rfl))) (fun z => hy (by cases z; rfl))
  obtain ⟨g3, m3, l3⟩ := addT g2 m2 h3 n2 h5
  exact ⟨_, g3, m3, .tup (.inl upd_same) (.cons (e1.mono (l2.trans l3) fun _ _ h => h) (.cons (e2.mono l3 fun _ _ h => h) .nil))⟩
end
section
variable {X : Cx} {W : WX} {K : PySem.W.Frag} {DR : DRel} {N0 : Ent} {F H : Hp} {Ad : List Addr} {M : List D} {env : EnvM} {σ : St} {Q : VK} {pos : Pos}
theorem SP.e {e : Expr} {f : EF} (h : PE X e (tG X.K W (DP X.K) f)) : SE X W e f := PE.imp h fun σ H Q ⟨N0, F, Ad, M, env, m, en, r⟩ => ⟨N0, F, Ad, M, env, m, en, by
  cases q : f env M with
  | ok d M1 =>
    rw [q] at r
    intro v F' Ad' H' g m' x
    obtain ⟨F2, g2, m2, x2⟩ := freezeP g m' x
    exact r v F2 Ad' H' g2 m2 x2
  | exc x M1 => rw [q] at r; exact r
  | stuck => rw [q] at r; exact r⟩
def bRetP (i j : Nat) : SF := fun env M => match env[i]?, env[j]? with
  | some (.own d1), some (.own d2) => .ret (.tup [d1, d2]) M
  | _, _ => .stuck
@[simp] theorem bRetP_own {i j : Nat} {d1 d2 : D} (h : env[i]? = some (.own d1)) (h2 : env[j]? = some (.own d2)) : bRetP i j env M = .ret (.tup [d1, d2]) M := by unfold bRetP; rw [h, h2]
end
end MP
set_option maxRecDepth 100000
set_option maxHeartbeats 1000000
namespace MP
open PySem PySem.Spec PyProof.Rows L2
variable [TabsP] [ThkP]
section
variable {X : Cx} {W : WX} {K : PySem.W.Frag} {DR : DRel} {N0 : Ent} {F H : Hp} {Ad : List Addr} {M : List D} {env : EnvM} {σ : St} {Q : VK} {e : Expr} {es : List Expr} {l : LF} {pos p apos : Pos} {k n : Nat} {g : Addr} {dd : List D} {c : List D → List D → R}
def eCls (i : Nat) (cn : Str) (c : List D → List D → R) (n : Nat) (dd : List D) (l : LF) : EF := fun env M => match env[i]? with
  | some (.shr (.cls c')) => if c' = cn then (l env M).bind fun xs M1 => apC c n dd xs M1 else .stuck
  | _ => .stuck
theorem so_cls {i : Nat} {x cn : Str} (Ik : InK X.prog X.w X.K X.mg X.base k n cn g dd c) (hr : Room (k + 1) X.A) (hx : Pas X W) (hN : X.N[i]? = some x) (hv : Vis X.env.scope x) (ha : SL X W (e :: es) l) (hdb : (x == ("__debug__" : Str)) = false := by decide) (hcd : (x == ("__classdict__" : Str)) = false := by decide)
    (he : starEach (e :: es) X.env = (false, eval e X.env) :: starEach es X.env := by rfl) (hpl : (backTo pos (starEach es X.env)).any (·.1) = false := by rfl) : SO X W (.Call (.Name x p) (e :: es) [] pos) (eCls i cn c n dd l) := by
  obtain ⟨fd, ps, dvs, ws, Fo, hb, hvs, hd⟩ := Ik.ex
  refine ⟨fun pins s σ H Q I ⟨N0, F, Ad, M, env, m, en, r⟩ => ?_⟩
  unfold eCls at r
  split at r
  · rename_i c' hi
    split at r
    · rename_i ec
      subst ec
      obtain ⟨v0, hs0, x0⟩ := en.shr i _ hi
      cases x0
      refine wpAny_Call_Name_kw (thn ((pe_var (pos := p) hN hv hdb hcd).run pins s σ H (fun v H1 => v = .ref (He.ga X.K c') ∧ H1 = H) I ⟨_, hs0, rfl, rfl⟩) fun u s1 ⟨v, H1, I1, r1, q1⟩ => ?_)
      obtain ⟨rfl, rfl⟩ := q1
      obtain rfl : u = Value.ref _ := r1
      refine PySem.W.callWith_K (h₀ := X.base) I.ok.mod.kin Ik.mak.kp (thn (ha.run pos pins s1 σ _ _ I1 (tL_seq DO.ok m en r (Q' := fun vs H2 => ∃ F2 Ad2 M2 ds, MemOk X.K F2 Ad2 M2 H2 ∧ DenL X.K F2 Ad2 vs ds ∧ RP X.K (fun c d H => W c d σ H) (DO X.K) F2 Ad2 H2 Q (apC c n dd ds M2)) fun ds M2 vs F2 Ad2 H2 g2 m2 en2 x2 r2 =>
        ⟨F2, Ad2, M2, ds, m2, x2, r2⟩)) fun us s2 ⟨vs, H2, I2, r, F2, Ad2, M2, ds, m2, x2, r2⟩ => ⟨I2.kIn, ?_⟩) he hpl
      refine run_makeS Ik.mak Fo hr hb hvs (hx σ) I2 r fun x dx hx0 hd0 hne => ?_
      unfold apC at r2
      split at r2
      · rename_i hn
        have x3 := x2.append (hd F2 Ad2)
        refine ⟨by show (vs ++ dvs).length + 1 = n + 1; rw [x3.length, hn], x, dx, _, H2, F2, Ad2, M2, _, rfl, rfl, hx0, hd0, hne, m2, x3, ?_⟩
        cases hq : c (ds ++ dd) M2 with
        | ok d M3 =>
          rw [hq] at r2
          intro v F' Ad' H' g' m' z ev
          subst ev
          exact ⟨rfl, r2 _ F' Ad' H' g' m' z⟩
        | exc z M3 => rw [hq] at r2; exact r2
        | stuck => rw [hq] at r2; exact r2.elim
      · exact r2.elim
    · exact r.elim
  · exact r.elim
theorem run_fnKc {pins : List (Addr × Obj)} {s : Shared} {us : List Value} {vs : List V} {ds : List D} (Fk : FnX X DR k n g dd c) (hr : Room k X.A) (hx : Pas X W) (I : Inv X pins σ H s) (mm : MemOk X.K F Ad M H) (r : Vals vs us) (x : DenL X.K F Ad vs ds)
    (h : RP X.K (fun c d H => W c d σ H) DR F Ad H Q (apC c n dd ds M)) : codeAny (model X.prog X.w) X.A (.call (.ref g) ⟨us, []⟩) (fun r s' => match r with | .ok (.ret v) => EP X pins σ Q v s' | .ok _ => False | .error e => X.xe e s') s := by
  obtain ⟨fd, ps, dvs, ws, Fo, hb, hv, hd, hk⟩ := Fk.ex
  have h' := spD_of mm x hd h
  refine codeAny_mono (Fo.run X.A X.stack s H ⟨us, []⟩ (us ++ ws) (vs ++ dvs) Q _ hr I.env0 (hb s us I.kIn (by rw [← (r.append hv).length]; exact Fo.len _ _ _ _ h')) (r.append hv) h') fun r s' hq => ?_
  have z := cr_here (hx σ) I hq
  cases r with
  | error er => exact z
  | ok fl => cases fl with
    | ret u => exact z
    | _ => exact z.elim
def eCM (cn : Str) (c : List D → List D → R) (n : Nat) (dd : List D) (l : LF) : EF := fun env M => (l env M).bind fun xs M1 => apC c n dd (.cls cn :: xs) M1
theorem s_cmeth (dr : DRok DR) {y cn m : Str} {q : Addr} {pl : Sem Bool} (hc : CmOf X.K (He.ga X.K cn) m q g) (Fk : FnX X DR k n g dd c) (hr : Room k X.A) (hx : Pas X W) (ho : PE X (.Name y p) (fun _ H Q => Q (.ref (He.ga X.K cn)) H)) (ha : SL X W (e :: es) l)
    (hst : starEach (e :: es) X.env = (false, eval e X.env) :: starEach es X.env := by rfl) (hpl : (backTo pos (starEach es X.env)).any (·.1) = false := by rfl)
    (ht : eval (.Call (.Attribute (.Name y p) m apos) (e :: es) [] pos) X.env = (do
      let ov ← eval (.Name y p) X.env
      standAt apos.atName
      let (f, first) ← holding [ov] (getMethod ov m pl)
      callWith pos f first (backTo pos (starEach (e :: es) X.env)) (backToKw pos (keywordEach [] X.env))) := by rfl) : PE X (.Call (.Attribute (.Name y p) m apos) (e :: es) [] pos) (tG X.K W DR (eCM cn c n dd l)) := by
  refine ⟨fun pins s σ H Q I ⟨N0, F, Ad, M, env, mm, en, r⟩ => ?_⟩
  refine PySem.W.methodCall_KW (pl := pl) (thn (ho.run pins s σ H (fun v H1 => v = .ref (He.ga X.K cn) ∧ H1 = H) I ⟨rfl, rfl⟩) fun u s1 ⟨x, H1, I1, rx, q1⟩ => ?_) ht
  obtain ⟨rfl, rfl⟩ := q1
  obtain rfl : u = Value.ref _ := rx
  refine ClX.getmethcm_ok I1 ⟨hc.rd, hc.ga⟩ ⟨hc.at_, hc.rc, hc.fi⟩ fun s2 I2 => ?_
  refine ClX.callwith_cm I2 (ClX.base_none I1 (Nat.le_refl _)) hc.fi (thn (ha.run pos _ s2 σ _ _ I2 (tL_seq dr mm en r (Q' := fun vs H2 => ∃ F2 Ad2 M2 ds, MemOk X.K F2 Ad2 M2 H2 ∧ DenL X.K F2 Ad2 (.ref (He.ga X.K cn) :: vs) (.cls cn :: ds) ∧ RP X.K (fun c d H => W c d σ H) DR F2 Ad2 H2 Q (apC c n dd (.cls cn :: ds) M2)) fun ds M2 vs F2 Ad2 H2 g2 m2 en2 x2 r2 =>
      ⟨F2, Ad2, M2, ds, m2, .cons .cls x2, r2⟩)) fun us s3 ⟨vs, H2, I3, rv, F2, Ad2, M2, ds, m2, x2, r2⟩ => ⟨⟨ClX.pin_at I3, I3.kIn⟩, ?_⟩) hst hpl
  have z : wpAny (model X.prog X.w) X.A (call (.ref s1.heap.objs.size) us) (EP X ((s1.heap.objs.size, PySem.W.methodObj (.ref g) (.ref (He.ga X.K cn))) :: pins) σ Q) X.xe s3 :=
    wpAny_call (PySem.W.method_call (ClX.pin_at I3) (run_fnKc (us := .ref (He.ga X.K cn) :: us) (vs := .ref (He.ga X.K cn) :: vs) Fk hr hx I3 m2 (.cons rfl rv) x2 r2))
  exact thn z fun _ _ y => ClX.unpinE y
end
end MP
set_option maxRecDepth 100000
set_option maxHeartbeats 1000000
namespace MP
open PySem PySem.Spec PyProof.Rows L2
variable [TabsP] [ThkP]
section
variable {X : Cx} {W : WX} {K : PySem.W.Frag} {DR : DRel} {N0 : Ent} {F H : Hp} {Ad : List Addr} {M : List D} {env : EnvM} {σ : St} {Q : VK} {pos : Pos}
end
end MP
set_option maxRecDepth 100000
set_option maxHeartbeats 1000000
namespace MP
open PySem PySem.Spec PyProof.Rows L2
variable [TabsP] [ThkP]
section
variable {X : Cx} {W : WX} {K : PySem.W.Frag} {DR : DRel} {N0 : Ent} {F H : Hp} {Ad : List Addr} {M : List D} {env : EnvM} {σ : St} {Q : VK} {e o tg : Expr} {es : List Expr} {f fo fe : EF} {l : LF} {pos p apos cpos : Pos}
def bStrT (ds : List D) (M : List D) : R := match ds with
  | [d] => (match view M d with
    | .int i => if i.natAbs.log2 < 1920 then .ok (.str (toString i)) M else .stuck
    | .str z => .ok (.str z) M
    | _ => .stuck)
  | _ => .stuck
theorem call_strS : CallS X (DE X.K) (.type "str") bStrT := by
  intro pins s σ H F Ad M E xs us ds Q I m rv x r
  unfold bStrT at r
  split at r
  · rename_i d
    obtain ⟨v, rfl, hx⟩ := x.one
    have ax := DB.view m hx
    split at r
    · rename_i i e; rw [e] at ax
      split at r
      · rename_i hl
        exact call_str_int pins s σ H _ us Q I rv ⟨i, by rw [ax.int], hl, RP.here r m .str⟩
      · exact r.elim
    · rename_i z e; rw [e] at ax
      exact SkE.call_str_str pins s σ H _ us Q I rv ⟨z, by rw [ax.str], RP.here r m .str⟩
    · exact r.elim
  · exact r.elim
def bIntT (ds : List D) (M : List D) : R := match ds with
  | [d] => (match view M d with
    | .int i => .ok (.int i) M
    | .str z => (match PySem.intText? z with
      | some n => if z.length ≤ 640 then .ok (.int n) M else .stuck
      | none => .stuck)
    | _ => .stuck)
  | _ => .stuck
theorem call_intT : CallS X (DE X.K) (.type "int") bIntT := by
  intro pins s σ H F Ad M E xs us ds Q I m rv x r
  unfold bIntT at r
  split at r
  · rename_i d
    obtain ⟨v, rfl, hx⟩ := x.one
    have ax := DB.view m hx
    split at r
    · rename_i i e; rw [e] at ax
      exact call_int1 pins s σ H _ us Q I rv (.inl ⟨i, by rw [ax.int], RP.here r m .int⟩)
    · rename_i z e; rw [e] at ax
      split at r
      · rename_i n hn
        split at r
        · rename_i hl
          exact call_int_str pins s σ H _ us Q I rv ⟨z, n, by rw [ax.str], hn, hl, RP.here r m .int⟩
        · exact r.elim
      · exact r.elim
    · exact r.elim
  · exact r.elim
def txsD : List D → Option (List Str)
  | [] => some []
  | .str z :: r => (txsD r).map (z :: ·)
  | _ => none
theorem DenL.txs : ∀ {vs ds ys}, DenL K F Ad vs ds → txsD ds = some ys → vs = ys.map V.str
  | _, _, _, .nil, e => by cases e; rfl
  | _, _, _, .cons (d := d) h r, e => by
    cases d with
    | str z =>
      unfold txsD at e
      rw [Option.map_eq_some_iff] at e
      obtain ⟨ys, e1, rfl⟩ := e
      cases h
      rw [r.txs e1]; rfl
    | _ => cases e
theorem denL_txs : ∀ ys : List Str, DenL K F Ad (ys.map V.str) (ys.map D.str)
  | [] => .nil
  | y :: ys => .cons .str (denL_txs ys)
theorem txsD_map : ∀ ys : List Str, txsD (ys.map D.str) = some ys
  | [] => rfl
  | y :: ys => by rw [List.map_cons, txsD, txsD_map ys]; rfl
def splitR (x y : D) (M : List D) : R := match x, view M y with
  | .str a, .str b => if (b.length == 0) = false ∧ a.length + 2 ≤ sizeLine then .ok (.lst ((Txt.split a b).map .str)) M else .stuck
  | _, _ => .stuck
def isTx : D → Bool
  | .str _ => true
  | _ => false
def eTx (g : D → D → List D → R) (fo fe : EF) : EF := fun env M => (fo env M).bind fun x M1 => guD (isTx (view M1 x)) ((fe env M1).bind fun y M2 => g (view M1 x) y M2)
theorem isTx_of {x : V} {dx : D} (m : MemOk K F Ad M H) (ax : DV K F Ad H x dx) (h : isTx dx = true) : ∃ a, dx = .str a ∧ x = .str a := by
  cases dx with
  | str a => exact ⟨a, rfl, ax.str⟩
  | _ => cases h
theorem se_split (ho : SB X W o fo) (he : SB X W e fe) (hs : starEach [e] X.env = [(false, eval e X.env)] := by rfl) (hbase : attributeBase o "split" X.env (eval o X.env) = eval o X.env := by rfl) (hline : (apos.endLine == pos.line) = true := by rfl) :
    SE X W (.Call (.Attribute o "split" apos) [e] [] pos) (eTx splitR fo fe) :=
  PE.imp (pe_split ho he hs hbase hline) fun σ H Q ⟨N0, F, Ad, M, env, m, en, r⟩ => tG_seq DE.ok m en r fun d M1 v F1 Ad1 H1 g1 m1 en1 x1 r1 => by
    unfold guD at r1
    split at r1
    · rename_i hd
      obtain ⟨a, ea, rfl⟩ := isTx_of m1 (DB.view m1 x1) hd
      rw [ea] at r1
      refine ⟨⟨a, rfl⟩, tG_seq DE.ok m1 en1 r1 fun d2 M2 v2 F2 Ad2 H2 g2 m2 en2 x2 r2 => ?_⟩
      have ay := DB.view m2 x2
      unfold splitR at r2
      split at r2
      · rename_i a' b e1 e2
        cases e1
        rw [e2] at ay
        split at r2
        · rename_i hh
          refine ⟨a, b, rfl, by rw [ay.str], hh.1, hh.2, fun p hp => ?_⟩
          exact RP.newLst r2 m2 (denL_txs _) hp
        · exact r2.elim
      · exact r2.elim
    · exact r1.elim
def joinR (x y : D) (M : List D) : R := match x, seqD (view M y) with
  | .str a, some ds => (match txsD ds with
    | some ys => if (ys.map (·.length)).sum + ys.length * a.length ≤ 16777216 then .ok (.str (Txt.join a ys)) M else .stuck
    | none => .stuck)
  | _, _ => .stuck
theorem seqD_of {x : V} {dx : D} {ds : List D} (m : MemOk K F Ad M H) (ax : DV K F Ad H x dx) (h : seqD dx = some ds) : ∃ a vs, x = .ref a ∧ (SqL K H a vs ∨ SqT K H a vs) ∧ DenL K F Ad vs ds := by
  cases dx with
  | lst xs => cases h; obtain ⟨a, vs, rfl, h1, h2⟩ := ax.lst m; exact ⟨a, vs, rfl, .inl (SqL.of h1), h2⟩
  | tup xs => cases h; obtain ⟨a, vs, rfl, h1, h2⟩ := ax.tup m; exact ⟨a, vs, rfl, .inr (h1), h2⟩
  | ktp xs => cases h; obtain ⟨a, vs, rfl, h1, h2⟩ := ax.ktp m; exact ⟨a, vs, rfl, .inr h1, h2⟩
  | _ => cases h
theorem se_join (ho : SB X W o fo) (he : SB X W e fe) (hs : starEach [e] X.env = [(false, eval e X.env)] := by rfl) (hbase : attributeBase o "join" X.env (eval o X.env) = eval o X.env := by rfl) (hline : (apos.endLine == pos.line) = true := by rfl) :
    SE X W (.Call (.Attribute o "join" apos) [e] [] pos) (eTx joinR fo fe) :=
  PE.imp (pe_join ho he hs hbase hline) fun σ H Q ⟨N0, F, Ad, M, env, m, en, r⟩ => tG_seq DE.ok m en r fun d M1 v F1 Ad1 H1 g1 m1 en1 x1 r1 => by
    unfold guD at r1
    split at r1
    · rename_i hd
      obtain ⟨a, ea, rfl⟩ := isTx_of m1 (DB.view m1 x1) hd
      rw [ea] at r1
      refine ⟨⟨a, rfl⟩, tG_seq DE.ok m1 en1 r1 fun d2 M2 v2 F2 Ad2 H2 g2 m2 en2 x2 r2 => ?_⟩
      have ay := DB.view m2 x2
      unfold joinR at r2
      split at r2
      · rename_i a' ds e1 e2
        cases e1
        obtain ⟨p, vs, rfl, sq, dl⟩ := seqD_of m2 ay e2
        split at r2
        · rename_i ys e3
          split at r2
          · rename_i hz
            rw [dl.txs e3] at sq
            exact ⟨a, p, ys, rfl, rfl, sq, hz, RP.here r2 m2 .str⟩
          · exact r2.elim
        · exact r2.elim
      · exact r2.elim
    · exact r1.elim
def fmtR (x : D) (M : List D) : R := match view M x with
  | .str y => if y.length ≤ sizeLine then .ok (.str y) M else .stuck
  | .int i => if i.natAbs.log2 < 1920 then .ok (.str (toString i)) M else .stuck
  | _ => .stuck
def eFmt (f : EF) : EF := fun env M => (f env M).bind fmtR
theorem se_fmt (he : SB X W e f) : SE X W (.FormattedValue e (-1) none pos) (eFmt f) :=
  PE.imp (pe_fmt he) fun σ H Q ⟨N0, F, Ad, M, env, m, en, r⟩ => tG_seq DE.ok m en r fun d M1 v F1 Ad1 H1 g1 m1 en1 x1 r1 => by
    have ax := DB.view m1 x1
    unfold fmtR at r1
    split at r1
    · rename_i y ey; rw [ey] at ax
      split at r1
      · rename_i hl; exact .inl ⟨y, ax.str, hl, RP.here r1 m1 .str⟩
      · exact r1.elim
    · rename_i i ey; rw [ey] at ax
      split at r1
      · rename_i hl; exact .inr ⟨i, ax.int, hl, RP.here r1 m1 .str⟩
      · exact r1.elim
    · exact r1.elim
def fsR : List EF → Str → EF
  | [], acc, _, M => .ok (.str acc) M
  | f :: fs, acc, env, M => (f env M).bind fun d M1 => match d with
    | .str y => if (acc ++ y).length ≤ sizeLine then fsR fs (acc ++ y) env M1 else .stuck
    | _ => .stuck
def eFs (fs : List EF) : EF := fsR fs Str.empty
inductive SJ (X : Cx) (W : WX) : List Expr → List EF → Prop where
  | nil : SJ X W [] []
  | cons {e : Expr} {f : EF} {es : List Expr} {fs : List EF} (h : SE X W e f) (r : SJ X W es fs) : SJ X W (e :: es) (f :: fs)
theorem SJ.pj {es : List Expr} {fs : List EF} (h : SJ X W es fs) : PJ X es (fs.map fun f => tG X.K W (DE X.K) f) := by
  induction h with
  | nil => exact .nil
  | cons h r ih => exact .cons h ih
theorem fs_of : ∀ (fs : List EF) (acc : Str) (F : Hp) (Ad : List Addr) (M : List D) (H : Hp), MemOk K F Ad M H → EnvOk K N0 F Ad H σ env → RP K (fun c d H => W c d σ H) (DE K) F Ad H Q (fsR fs acc env M) →
    tJs (fs.map fun f => tG K W (DE K) f) acc σ H (fun out H1 => Q (.str out) H1)
  | [], acc, F, Ad, M, H, m, en, r => RP.here r m .str
  | f :: fs, acc, F, Ad, M, H, m, en, r => by
    show tG K W (DE K) f σ H _
    refine tG_seq DE.ok m en r fun d M1 v F1 Ad1 H1 g1 m1 en1 x1 r1 => ?_
    cases d with
    | str y =>
      dsimp only at r1
      split at r1
      · rename_i hl
        cases x1
        exact ⟨y, rfl, hl, fs_of fs _ F1 Ad1 M1 H1 m1 en1 r1⟩
      · exact r1.elim
    | _ => exact r1.elim
theorem se_fs {v1 v2 : Expr} {rest : List Expr} {fs : List EF} (h : SJ X W (v1 :: v2 :: rest) fs) : SE X W (.JoinedStr (v1 :: v2 :: rest) pos) (eFs fs) :=
  PE.imp (pe_joined h.pj) fun σ H Q ⟨N0, F, Ad, M, env, m, en, r⟩ => fs_of fs Str.empty F Ad M H m en r
def oInS (x y : D) (M : List D) : R := match view M x, view M y with
  | .str c, .str z => (match c.cps.toList with
    | [k] => .ok (.bl (decide (k ∈ z.cps.toList))) M
    | _ => .stuck)
  | _, _ => .stuck
theorem op2_inS : Op2 X (DE X.K) (compareOp .In) oInS := by
  intro pins s σ H F Ad M E x y v u dx dy Q I m rx ry hx hy r
  have ax := DB.view m hx
  have ay := DB.view m hy
  unfold oInS at r
  split at r
  · rename_i c z e1 e2
    rw [e1] at ax
    rw [e2] at ay
    split at r
    · rename_i k ek
      have ec : c = ⟨#[k]⟩ := by
        obtain ⟨cs⟩ := c
        have : cs.toList = [k] := ek
        congr 1
        rw [← Array.toArray_toList (xs := cs), this]
      exact op_in_sign pins s σ H x y v u Q I rx ry ⟨k, z, by rw [ax.str, ec], ay.str, RP.here r m .bl⟩
    · exact r.elim
  · exact r.elim
def signsD (z : Str) : List D := z.cps.toList.map fun c => .str ⟨#[c]⟩
def iTxt (f : EF) : LF := fun env M => (f env M).bindL fun d M1 => match d with
  | .str z => .ok (signsD z) M1
  | _ => .stuck
theorem it_s {z : Str} : ItOk K F Ad [] (Its z) (signsD z) where
  go := fun i F' Ad' M' H' hi l p m _ => by
    have : i < (signsD z).length := hi
    show i < z.cps.size
    simpa [signsD] using this
  stop := fun F' Ad' M' H' l p m _ => by
    show z.cps.size ≤ (signsD z).length
    simp [signsD]
  yld := fun i F' Ad' M' H' x H'' hi l p m _ ⟨e1, c, e2, e3⟩ => by
    subst e1; subst e3
    refine ⟨.str ⟨#[c]⟩, F', ?_, Gr.refl, m, .str⟩
    unfold signsD
    rw [List.getElem?_map, Array.getElem?_toList, e2]; rfl
theorem si_txt (h : SE X W e f) : SI X W true tg e (iTxt f) := PI.imp (pi_str h) fun σ H R ⟨N0, F, Ad, M, env, m, en, r⟩ => by
  unfold iTxt at r
  cases q : f env M with
  | ok d M1 =>
    rw [q, MP.R.bindL_ok] at r
    cases d with
    | str z => exact ⟨N0, F, Ad, M, env, m, en, by rw [q]; exact fun v F1 Ad1 H1 g1 m1 x1 => ⟨z, by cases x1; rfl, r _ [] F1 Ad1 H1 g1 m1 it_s (fun _ z => nomatch z) (fun _ z => nomatch z) fun _ => rfl⟩⟩
    | _ => exact r.elim
  | exc x M1 => rw [q] at r; exact ⟨N0, F, Ad, M, env, m, en, by rw [q]; exact r⟩
  | stuck => rw [q] at r; exact r.elim
end
end MP
set_option maxRecDepth 100000
set_option maxHeartbeats 1000000
namespace MP
open PySem PySem.Spec PyProof.Rows L2
variable [TabsP] [ThkP]
section
variable {X : Cx} {W : WX} {K : PySem.W.Frag} {DR : DRel} {N0 : Ent} {F H : Hp} {Ad : List Addr} {M : List D} {env : EnvM} {σ : St} {Q : VK} {e o tg : Expr} {es : List Expr} {f fo fe : EF} {l : LF} {pos p apos cpos : Pos} {k n : Nat} {g : Addr} {dd : List D} {c : List D → List D → R}
def strR : R → R
  | .ok (.str z) M => .ok (.str z) M
  | .exc x M => .exc x M
  | _ => .stuck
def bStrO (cn : Str) (c : List D → List D → R) (ds : List D) (M : List D) : R := match ds with
  | [d] => if insOf cn d = true then strR (apC c 1 [] [d] M) else .stuck
  | _ => .stuck
theorem run_fnK2 {pins : List (Addr × Obj)} {s : Shared} {us : List Value} {vs : List V} {ds : List D} (Fk : FnX X DR k n g dd c) (hr : MP.Room (k + 2) X.A) (hx : Pas X W) (I : Inv X pins σ H s) (mm : MemOk X.K F Ad M H) (r : Vals vs us) (x : DenL X.K F Ad vs ds)
    (h : RP X.K (fun c d H => W c d σ H) DR F Ad H Q (apC c n dd ds M)) : wpAny (model X.prog X.w) X.A.in1.in1 (call (.ref g) us) (EP X pins σ Q) X.xe s := by
  obtain ⟨fd, ps, dvs, ws, Fo, hb, hv, hd, hk⟩ := Fk.ex
  have h' := spD_of mm x hd h
  refine wpAny_call (codeAny_mono (Fo.run X.A.in1.in1 X.stack s H ⟨us, []⟩ (us ++ ws) (vs ++ dvs) Q _ hr.in1.in1 I.env0.in1.in1 (hb s us I.kIn (by rw [← (r.append hv).length]; exact Fo.len _ _ _ _ h')) (r.append hv) h') fun r s' hq => ?_)
  have z := cr_here (hx σ) I hq
  cases r with
  | error er => exact z
  | ok fl => cases fl with
    | ret u => exact z
    | _ => exact z.elim
theorem s_strO {cn : Str} (hm : Meth X.K (He.ga X.K cn) "__str__" g) (Fk : FnX X (DE X.K) k 1 g [] c) (hr : MP.Room (k + 2) X.A) (hu : X.A.in1.in1.units < cLine) (hx : Pas X W) (hg : Gl X "str") (hmg : X.mg "str" = none) (ha : SL X W [e] l) (hv : bootBuiltins "str" = some (.type "str") := by decide +kernel)
    (he : starEach [e] X.env = [(false, eval e X.env)] := by rfl) : SE X W (.Call (.Name "str" p) [e] [] pos) (eCall (bStrO cn c) l) := by
  refine ⟨fun pins s σ H Q I ⟨N0, F, Ad, M, env, m, en, r⟩ => ?_⟩
  refine wpAny_Call_Name_kw (ld_blt I hg hmg hv ?_ (by decide) (by decide))
  refine PyProof.Rows.callWith_type1 (thn (ha.run pos pins s σ H _ I (tL_seq (Q' := fun vs H1 => ∃ F1 Ad1 M1 ds, MemOk X.K F1 Ad1 M1 H1 ∧ DenL X.K F1 Ad1 vs ds ∧ RP X.K (fun c d H => W c d σ H) (DE X.K) F1 Ad1 H1 Q (bStrO cn c ds M1)) DE.ok m en r fun ds M1 vs F1 Ad1 H1 g1 m1 en1 x1 r1 => ⟨F1, Ad1, M1, ds, m1, x1, r1⟩)) fun us s1 ⟨vs, H1, I1, rv, F1, Ad1, M1, ds, m1, x1, r1⟩ => ?_) he (by rfl)
  unfold bStrO at r1
  split at r1
  · rename_i d
    split at r1
    · rename_i hh
      obtain ⟨fs, e1⟩ := insOf_ok hh
      cases x1 with
      | @cons v d0 vs0 ds0 xd xr =>
        cases xr
        have ax := DB.view (H0 := H1) m1 (.inl xd)
        rw [e1] at ax
        obtain ⟨a, da, va, rfl, ha1, _⟩ := ax.ins m1
        obtain ⟨u, rfl, ru⟩ := vals1 rv
        obtain rfl : u = Value.ref a := ru
        obtain ⟨mA, J, _⟩ := ins_get I1.hok ha1
        obtain ⟨od, J, _⟩ := J.look
        refine PySem.W.kso_call hu I1.kIn J hm.at_ hm.fn ?_
        have rr : RP X.K (fun c d H => W c d σ H) (DE X.K) F1 Ad1 H1 (fun z H' => (∃ q, z = .str q) ∧ Q z H') (apC c 1 [] [d] M1) := by
          cases q : apC c 1 [] [d] M1 with
          | ok d M' =>
            rw [q] at r1
            cases d with
            | str bb => exact fun z F' Ad' H' g' m' xx => ⟨⟨bb, by cases xx; rfl⟩, r1 z F' Ad' H' g' m' xx⟩
            | _ => exact r1.elim
          | exc e M' => rw [q] at r1; exact r1
          | stuck => rw [q] at r1; exact r1
        refine wpAny_mono (run_fnK2 Fk hr hx I1 m1 (.cons (show L2.RelV (.ref a) (.ref a) from rfl) .nil) (.cons xd .nil) rr) (fun z s' ⟨zv, H', I', rz, ⟨q, eq⟩, hq⟩ => ?_) fun _ _ h => h
        subst eq
        obtain ⟨t, rfl⟩ := rz
        exact ⟨.str q, H', I', ⟨t, rfl⟩, hq⟩
    · exact r1.elim
  · exact r1.elim
def oIsB (x y : D) (M : List D) : R := match view M x, view M y with
  | .bl a, .bl b => .ok (.bl (a == b)) M
  | _, _ => .stuck
structure TgsG (K : PySem.W.Frag) (js : List Nat) (ga : List D → EnvM → Option EnvM) (g : TGs) : Prop where
  ok : ∀ (N0 : Ent) (F : Hp) Ad M H σ env vs ds env' (Q : St → Hp → Prop), MemOk K F Ad M H → EnvOk K N0 F Ad H σ env → DenL K F Ad vs ds → ga ds env = some env' → (∀ σ', EnvOk K N0 F Ad H σ' env' → (∀ us, (∀ j ∈ js, j ∈ us) → wipe σ' us = wipe σ us) → Q σ' H) → g vs σ H Q
end
end MP
set_option maxRecDepth 100000
set_option maxHeartbeats 1000000
namespace MP
open PySem PySem.Spec PyProof.Rows L2
variable [TabsP] [ThkP]
section
variable {X : Cx} {W : WX} {K : PySem.W.Frag} {DR : DRel} {N0 : Ent} {F H : Hp} {Ad : List Addr} {M : List D} {env : EnvM} {σ : St} {Q : VK} {e o tg : Expr} {es : List Expr} {f fo fe : EF} {l : LF} {pos p apos cpos : Pos} {k n : Nat} {g : Addr} {dd : List D} {c : List D → List D → R}
def bTry (b : SF) : SF := fun env M => match b env M with
  | .exc _ _ _ => .stuck
  | r => r
inductive DispOk (X : Cx) (n : Nat) : List (Str × (List D → List D → R)) → Prop where
  | nil : DispOk X n []
  | cons {x : Str} {k : Nat} {c : List D → List D → R} {r : List (Str × (List D → List D → R))} (Fk : FnX X (DE X.K) k n (He.ga X.K x) [] c) (hr : MP.Room k X.A) (t : DispOk X n r) : DispOk X n ((x, c) :: r)
theorem DispOk.get {n : Nat} {x : Str} {c : List D → List D → R} : ∀ {l : List (Str × (List D → List D → R))}, DispOk X n l → l.lookup x = some c → ∃ k, MP.Room k X.A ∧ FnX X (DE X.K) k n (He.ga X.K x) [] c
  | _, .nil, e => by cases e
  | _, .cons (x := y) Fk hr t, e => by
    rw [List.lookup_cons] at e
    split at e
    · rename_i h
      cases e
      obtain rfl := beq_iff_eq.mp h
      exact ⟨_, hr, Fk⟩
    · exact t.get e
abbrev Tb : Type := Str × List (Str × He.Dv)
abbrev AlMT : Type := AlM × List (Option (List (Option (Str × Int))) × Bool)
def obsMT (fa : List He.Fa) (fm : List Fm) (fn : List DefM) (ts : List Tb) (K : PySem.W.Frag) : AlMT := (obsM fa fm fn K, ts.map fun t => (He.dicW K (He.ga K t.1), He.valsB K (He.ga K t.1) t.2))
def valMT (fn : List DefM) (ts : List Tb) (w : World) : AlMT := (valM fn, ts.map fun t => (some (He.keysIn w.params (t.2.map (·.1))), true))
def SaysMT (fa : List He.Fa) (fm : List Fm) (fn : List DefM) (ts : List Tb) (w : World) (K : PySem.W.Frag) : Prop := obsMT fa fm fn ts K = valMT fn ts w
section
variable {fa : List He.Fa} {fm : List Fm} {fn : List DefM} {ts : List Tb} {w : World}
theorem SaysMT.m (c : SaysMT fa fm fn ts w K) : SaysM fa fm fn K := congrArg (fun z : AlMT => z.1) c
theorem SaysMT.a (c : SaysMT fa fm fn ts w K) (i : Nat) {f : He.Fa} (h : fa[i]? = some f) : f.ok K = true := c.m.a i h
theorem SaysMT.b (c : SaysMT fa fm fn ts w K) (i : Nat) {f : Fm} (h : fm[i]? = some f) : f.ok K = true := c.m.b i h
theorem SaysMT.d (c : SaysMT fa fm fn ts w K) (i : Nat) {d : DefM} (h : fn[i]? = some d) : ∃ fd, FunD K d.name d.qual d.params d.body d.scope (d.dvs K) (d.kws K) (d.loc.at_ K) fd := c.m.d i h
structure TbOk (K : PySem.W.Frag) (w : World) (x : Str) (vs : List (Str × He.Dv)) : Prop where
  kd : ∃ es n, KDict K w (He.ga K x) es n
  vl : He.valsB K (He.ga K x) vs = true
theorem SaysMT.t (c : SaysMT fa fm fn ts w K) (i : Nat) {t : Tb} (h : ts[i]? = some t) : TbOk K w t.1 t.2 := by
  have e : ts.map (fun t => (He.dicW K (He.ga K t.1), He.valsB K (He.ga K t.1) t.2)) = ts.map fun t => (some (He.keysIn w.params (t.2.map (·.1))), true) := congrArg (fun z : AlMT => z.2) c
  have e2 := congrArg (fun l : List (Option (List (Option (Str × Int))) × Bool) => l[i]?) e
  simp only [List.getElem?_map, h, Option.map_some, Option.some.injEq, Prod.mk.injEq] at e2
  exact ⟨He.dicW_ok e2.1, e2.2⟩
end
def dvD : He.Dv → D
  | .int i => .int i
  | .str z => .str z
  | .glo x => .cls x
  | _ => .non
def dvOk : He.Dv → Bool
  | .int _ => true
  | .str _ => true
  | .glo _ => true
  | _ => false
def lookT (vs : List (Str × He.Dv)) (z : Str) : Option D := match vs.find? fun q => decide (q.1 = z) with
  | some q => if dvOk q.2 = true then some (dvD q.2) else none
  | none => none
def tabR (vs : List (Str × He.Dv)) (y : D) (M : List D) : R := match view M y with
  | .str z => (match lookT vs z with
    | some d => .ok d M
    | none => .stuck)
  | _ => .stuck
def eTabIx (vs : List (Str × He.Dv)) (f : EF) : EF := fun env M => (f env M).bind (tabR vs)
theorem u22 {k : Nat} {A : Around} (r : MP.Room (k + 2) A) : A.in1.in1.units < cLine := by have := r.in1.in1.rm.units; omega
end
end MP
set_option maxRecDepth 100000
set_option maxHeartbeats 1000000
namespace MP
open PySem PySem.Spec PyProof.Rows L2
variable [TabsP] [ThkP]
section
variable {X : Cx} {W : WX} {K : PySem.W.Frag} {F H : Hp} {Ad : List Addr} {M : List D} {env : EnvM} {σ : St} {Q : VK} {e o tg : Expr} {es : List Expr} {f fo fe : EF} {l : LF} {pos p apos cpos : Pos}
def oInD (neg : Bool) (x y : D) (M : List D) : R := match (view M x).pd, view M y with
  | some p, .lst ys => (match D.pdL ys with
    | some qs => if SeqAt.shaped p = true ∧ SeqAt.shaped (.list qs) = true then .ok (.bl (if neg then !(qs.any fun z => PyData.eqv z p) else qs.any fun z => PyData.eqv z p)) M else .stuck
    | none => .stuck)
  | _, _ => .stuck
end
end MP
set_option maxRecDepth 100000
set_option maxHeartbeats 1000000
namespace MP
open PySem PySem.Spec PyProof.Rows L2
variable [TabsP] [ThkP]
section
variable {X : Cx} {W : WX} {K : PySem.W.Frag} {F H : Hp} {Ad : List Addr} {M : List D} {env : EnvM} {σ : St} {Q : VK} {e e' : Expr} {f f' : EF} {pos p : Pos}
end
end MP
set_option maxRecDepth 100000
set_option maxHeartbeats 1000000
namespace MP
open PySem PySem.Spec PyProof.Rows L2
variable [TabsP] [ThkP]
section
variable {X : Cx} {W : WX} {K : PySem.W.Frag} {DR : DRel} {N0 : Ent} {F H : Hp} {Ad : List Addr} {M : List D} {env : EnvM} {σ : St} {Q : VK} {a b c e : Expr} {f fa fb fc : EF} {pos p : Pos}
end
end MP
set_option maxRecDepth 100000
set_option maxHeartbeats 1000000
namespace XcX
open PySem PySem.W PySem.Calls PyProof.Rows PySem.HandSPX
section
open Builtin Builtin.ObjectAttr
variable {P : Program} {w : World} {A : Around} {R : Result → Shared → Prop} {hp : Heap} {gs : Array GenState} {dr : Drawn} {t : Nat} {os : OsState}
end
end XcX
namespace MP
open PySem PySem.Spec PyProof.Rows L2
variable [TabsP] [ThkP]
section
variable {X : Cx} {pins : List (Addr × Obj)} {σ : St} {H : Hp} {s : Shared} {a C fI : Addr} {f : Str} {y : V} {u : Value} {E : Value → Shared → Prop} {A : Around}
end
def spXc (C : Addr) (f : Str) : Sp := fun vs H Q E => ∃ (a : Addr) (v : V), vs = [.ref a, v] ∧ H a = some (exo a C none) ∧ ∀ dx, H dx = none → dx ≠ a → Q .non (upd (upd H dx (exd dx [(f, v)])) a (exo a C (some dx)))
structure XnK (P : Program) (w : World) (K : PySem.W.Frag) (mg : Str → Option Value) (base : Heap) (cn f : Str) (g : Addr) : Prop where
  cls : XcC K (He.ga K cn) g f
  ex : ∃ (fd : FuncData) (ps : List Str), MP.FnOk P w K mg base (L2.CX P w) 1 g fd ps (spXc (He.ga K cn) f) ∧ Binds K fd ps []
section
variable {P : Program} {w : World} {K : PySem.W.Frag} {mg : Str → Option Value} {base : Heap} {qual p f cn : Str} {params : Arguments} {scope : Scope} {g : Addr} {fd : FuncData} {q1 q2 q3 q4 : Pos}
end
end MP
set_option maxRecDepth 100000
set_option maxHeartbeats 1000000
namespace MP
open PySem PySem.Spec PyProof.Rows L2
variable [TabsP] [ThkP]
section
variable {X : Cx} {W : WX} {K : PySem.W.Frag} {DR : DRel} {D : Ends} {N0 : Ent} {F F1 H H1 : Hp} {Ad Ad1 : List Addr} {M : List MP.D} {env : EnvM} {σ : St} {e : Expr} {f : EF} {pos p p2 : Pos} {cn fn y : Str} {g : Addr}
end
end MP
set_option maxRecDepth 100000
set_option maxHeartbeats 1000000
namespace MP
open PySem PySem.Spec PyProof.Rows L2
variable [TabsP] [ThkP]
section
variable {X : Cx} {W : WX} {DR : DRel} {body : List Stmt} {b : SF} {pos pos' np pz pc pn' pa pl ps : Pos} {cn fn y n z w : Str} {i j : Nat} {tbl : List (Str × Bool)} {u : Option Str}
theorem Gr.same {F H : Hp} {Ad : List Addr} : Gr F Ad H F Ad H := Gr.refl
end
end MP
set_option maxRecDepth 100000
set_option maxHeartbeats 1000000
namespace MP
open PySem PySem.Spec PyProof.Rows L2
variable [TabsP] [ThkP]
def eChain4 (g1 g2 g3 g4 : D → D → List D → R) (a b c d e : EF) : EF := fun env M => (a env M).bind fun x M1 => (b env M1).bind fun y M2 => (g1 x y M2).bind fun r M3 => match r with
  | .bl true => (c env M3).bind fun z M4 => (g2 y z M4).bind fun r M5 => match r with
    | .bl true => (d env M5).bind fun u M6 => (g3 z u M6).bind fun r M7 => match r with
      | .bl true => (e env M7).bind fun v M8 => g4 u v M8
      | .bl false => .ok (.bl false) M7
      | _ => .stuck
    | .bl false => .ok (.bl false) M5
    | _ => .stuck
  | .bl false => .ok (.bl false) M3
  | _ => .stuck
section
variable {X : Cx} {W : WX} {K : PySem.W.Frag} {DR : DRel} {N0 : Ent} {F H : Hp} {Ad : List Addr} {M : List D} {env : EnvM} {σ : St} {Q : VK} {a b c d e : Expr} {fa fb fc fd fe : EF} {pos : Pos}
@[simp] theorem eChain4_eq {G1 G2 G3 G4} : eChain4 G1 G2 G3 G4 fa fb fc fd fe env M = (fa env M).bind fun x M1 => (fb env M1).bind fun y M2 => (G1 x y M2).bind fun r M3 => iteR r ((fc env M3).bind fun z M4 => (G2 y z M4).bind fun r M5 => iteR r ((fd env M5).bind fun u M6 => (G3 z u M6).bind fun r M7 => iteR r ((fe env M7).bind fun v M8 => G4 u v M8) (.ok (.bl false) M7)) (.ok (.bl false) M5)) (.ok (.bl false) M3) := by
  unfold eChain4
  refine iteR_fun fun x M1 => iteR_fun fun y M2 => iteR_fun fun r M3 => ?_
  cases r with
  | bl k =>
    cases k with
    | false => rfl
    | true =>
      show R.bind _ _ = R.bind _ _
      refine iteR_fun fun z M4 => iteR_fun fun r M5 => ?_
      cases r with
      | bl k =>
        cases k with
        | false => rfl
        | true =>
          show R.bind _ _ = R.bind _ _
          refine iteR_fun fun u M6 => iteR_fun fun r M7 => ?_
          cases r with
          | bl k => cases k <;> rfl
          | _ => rfl
      | _ => rfl
  | _ => rfl
end
instance (priority := 10) tabs0 : TabsP := ⟨[]⟩
instance (priority := 10) thk0 : ThkP := ⟨0, ⟨fun _ => none, fun _ => none, [], 0⟩⟩
end MP
set_option maxRecDepth 100000
set_option maxHeartbeats 1000000
namespace MP
open PySem PySem.Spec PyProof.Rows L2
variable [TabsP] [ThkP]
structure LamMd (X : Cx) (pins : List (Addr × Obj)) (σ : St) (H : Hp) (params : Arguments) (body : Expr) (scope : Scope) (H1 : Hp) (s1 : Shared) (f c : Addr) : Prop where
  inv : Inv X pins σ H1 s1
  keep : ∀ b o, H b = some o → (∀ ps, o ≠ .tbl ps) → H1 b = some o
  alive : ∀ b, H b ≠ none → H1 b ≠ none
  tab : LamX.Tabs TabsP.ts H1
  fn : ∃ pm ctv, s1.heap.get? f = some (PySem.W.kla_obj "<lambda>" (X.env.qual ++ "<lambda>") params body scope (cloFrom X.env.cells scope.names []) pm c ctv)
  fnew : H1 f = none
  ffr : f ∉ frs X.stack
  cod : H1 c = some (LamX.CodeO c (X.env.qual ++ "<lambda>"))
section
variable {X : Cx} {pins : List (Addr × Obj)} {σ : St} {H : Hp} {s : Shared} {c P : Addr} {params : Arguments} {body : Expr} {scope : Scope} {pos : Pos}
end
def eAct (i : Nat) (th : List D → R) : EF := fun env M => match env[i]? with | some .raw => th M | _ => .stuck
section
variable {X : Cx} {pins : List (Addr × Obj)} {σ : St} {H0 H F : Hp} {Ad : List Addr} {s : Shared} {params : Arguments} {body : Expr} {scope : Scope} {f c : Addr} {k i : Nat} {N0 : Ent} {env : EnvM} {fb : EF}
  {Ng : List Str} {qg : Str} {sg : Scope} {g : Addr} {cdg : Value} {Eg : XK} {a : Str} {pn : List (Addr × Obj)} {xe : Value → Shared → Prop} {W : WX} {p1 p2 : Pos}
end
structure FnTh (P : Program) (w : World) (K : PySem.W.Frag) (mg : Str → Option Value) (base : Heap) (k : Nat) (g : Addr) (T : (List D → R) → List D → R) : Prop where
  ex : ∃ (x qual : Str) (pg : Arguments) (bg : List Stmt) (sg : Scope) (fd : FuncData) (N : List Str) (a : Str) (b : (List D → R) → SF), FunD K x qual pg bg sg [] [] g fd ∧ FnScope N [a] sg ∧ Binds K fd [a] [] ∧ N[0]? = some a ∧ Vis sg a ∧ (a == ("__debug__" : Str)) = false ∧ (a == ("__classdict__" : Str)) = false ∧
    (∀ th M, T th M = endE (b th (B.raw :: List.replicate (N.length - 1) B.no) M)) ∧
    ∀ (T1 : ThkP) (th : List D → R) (cdv : Value) (A : Around) (outer : List Env) (s : Shared) (H : Hp) (E : XK), Room k (A.deeper (envOfC qual sg s.heap.objs.size g cdv)) →
      (∀ (W : WX) (pn : List (Addr × Obj)) (xe : Value → Shared → Prop) (p1 p2 : Pos), Takes ((cxOf (L2.CX P w) P w K mg base N qual sg g cdv A outer s H E).tr pn xe) W → @SE _ T1 ((cxOf (L2.CX P w) P w K mg base N qual sg g cdv A outer s H E).tr pn xe) W (.Call (.Name a p1) [] [] p2) (eAct 0 th)) →
      @SSs _ T1 (cxOf (L2.CX P w) P w K mg base N qual sg g cdv A outer s H E) (wxE E) (DE K) bg (b th)
section
variable {X : Cx} {W : WX} {c P g : Addr} {k : Nat} {x : Str} {params : Arguments} {body : Expr} {scope : Scope} {fb : EF} {T : (List D → R) → List D → R} {p lpos pos : Pos}
end
end MP
set_option maxRecDepth 100000
set_option maxHeartbeats 2000000
namespace MP
open PySem PySem.Spec PyProof.Rows L2
section
variable {P : Program} {w : World} {K : PySem.W.Frag} {mg mb : Str → Option Value} {CX : CXT} {k : Nat} {fa a : Addr} {cs : List (Addr × Addr)} {fd : FuncData} {x : Str} {sp : Sp} {s₁ : Shared} {vs : List Value} {ns : List Int}
end
end MP
set_option maxRecDepth 100000
set_option maxHeartbeats 1000000
namespace MP
open PySem PySem.Spec PyProof.Rows L2
def tabsQ (K : PySem.W.Frag) (fs : List Str) : List (Addr × Str) := fs.map fun x => (tblOf K (codeOf K (He.ga K x)), x ++ ".<locals>." ++ "<lambda>")
structure SaysTL [TabsP] (fa : List He.Fa) (fm : List Fm) (fn : List DefM) (ts : List Tb) (fs : List Str) (w : World) (K : PySem.W.Frag) (mg : Str → Option Value) (base : Heap) : Prop where
  m : SaysMT fa fm fn ts w K
  tb : ∀ p ∈ codes K fs, LamX.TabB base mg p.1 p.2
  ht : TabsP.ts = tabsQ K fs
  nd : ((codes K fs).map Prod.snd).Nodup
section
variable [TabsP] {fa : List He.Fa} {fm : List Fm} {fn : List DefM} {ts : List Tb} {fs : List Str} {w : World} {K : PySem.W.Frag} {mg : Str → Option Value} {base : Heap}
theorem SaysTL.a (c : SaysTL fa fm fn ts fs w K mg base) (i : Nat) {f : He.Fa} (h : fa[i]? = some f) : f.ok K = true := c.m.a i h
theorem SaysTL.b (c : SaysTL fa fm fn ts fs w K mg base) (i : Nat) {f : Fm} (h : fm[i]? = some f) : f.ok K = true := c.m.b i h
theorem SaysTL.d (c : SaysTL fa fm fn ts fs w K mg base) (i : Nat) {d : DefM} (h : fn[i]? = some d) : ∃ fd, FunD K d.name d.qual d.params d.body d.scope (d.dvs K) (d.kws K) (d.loc.at_ K) fd := c.m.d i h
theorem SaysTL.t (c : SaysTL fa fm fn ts fs w K mg base) (i : Nat) {t : Tb} (h : ts[i]? = some t) : TbOk K w t.1 t.2 := c.m.t i h
theorem nodup_at {α β : Type} {f : α → β} {xs : List α} (h : (xs.map f).Nodup) {x y : α} (hx : x ∈ xs) (hy : y ∈ xs) (e : f x = f y) : x = y := by
  induction xs with
  | nil => cases hx
  | cons z zs ih =>
    rw [List.map_cons, List.nodup_cons] at h
    rcases List.mem_cons.mp hx with rfl | hx'
    · rcases List.mem_cons.mp hy with rfl | hy'
      · rfl
      · exact absurd (List.mem_map.mpr ⟨y, hy', e.symm⟩) h.1
    · rcases List.mem_cons.mp hy with rfl | hy'
      · exact absurd (List.mem_map.mpr ⟨x, hx', e⟩) h.1
      · exact ih h.2 hx' hy'
theorem SaysTL.mem (c : SaysTL fa fm fn ts fs w K mg base) {x : Str} (hx : x ∈ fs) : (tblOf K (codeOf K (He.ga K x)), x ++ ".<locals>." ++ "<lambda>") ∈ TabsP.ts := by
  rw [c.ht]; exact List.mem_map.mpr ⟨x, hx, rfl⟩
theorem SaysTL.uniq (c : SaysTL fa fm fn ts fs w K mg base) {x : Str} (hx : x ∈ fs) : ∀ p ∈ TabsP.ts, p.1 = tblOf K (codeOf K (He.ga K x)) → p.2 = x ++ ".<locals>." ++ "<lambda>" := fun p hp e => by
  rw [c.ht] at hp
  obtain ⟨y, hy, rfl⟩ := List.mem_map.mp hp
  have nd := c.nd
  unfold codes at nd
  rw [List.map_map] at nd
  rw [nodup_at nd hy hx e]
end
section
variable [TabsP] [ThkP] {P : Program} {w : World} {K : PySem.W.Frag} {mg : Str → Option Value} {base : Heap} {x qual : Str} {params : Arguments} {body : List Stmt} {scope : Scope} {dvs : List V} {kws : List (Str × V)} {f : Addr} {fd : FuncData} {N ps : List Str} {k : Nat}
end
end MP
namespace MP
open PySem PySem.Spec PyProof.Rows L2
end MP
set_option maxRecDepth 100000
set_option maxHeartbeats 1000000
namespace MP
open PySem PySem.Spec PyProof.Rows L2
variable [TabsP] [ThkP]
section
variable {K : PySem.W.Frag} {F H H1 : Hp} {Ad : List Addr} {M : List D} {env : EnvM} {σ : St} {N0 : Ent}
end
section
variable {X : Cx} {W : WX} {K : PySem.W.Frag} {DR : DRel} {N0 : Ent} {F H : Hp} {Ad : List Addr} {M : List D} {env : EnvM} {σ : St} {Q : VK} {pos : Pos}
def bShareP (i : Nat) : SF := fun env M => match env[i]? with
  | some (.par d) => .next (env.set i (.shr d)) M
  | _ => .stuck
@[simp] theorem bShareP_par {i : Nat} {d : D} (h : env[i]? = some (.par d)) : bShareP i env M = .next (env.set i (.shr d)) M := by unfold bShareP; rw [h]
end
end MP
set_option maxRecDepth 100000
set_option maxHeartbeats 1000000
namespace MP
open PySem PySem.Spec PyProof.Rows L2
variable [TabsP] [ThkP]
structure LamP (y : Str) (scope : Scope) : Prop where
  kind : scope.kind = .function
  co : scope.isCoroutine = false
  gen : scope.isGenerator = false
  own : ∀ z ∈ scope.names, z.2 ≠ .cell ∧ z.2 ≠ .free
  loc : scope.names.lookup y = some .local
section
variable {X : Cx} {pins : List (Addr × Obj)} {σ : St} {H H1 F : Hp} {Ad : List Addr} {M : List D} {s s1 : Shared} {params : Arguments} {body : Expr} {scope : Scope} {f c : Addr} {y : Str} {p1 p2 p3 : Pos} {kd : Nat}
end
section
variable {X : Cx} {W : WX} {K : PySem.W.Frag} {F : Hp} {Ad : List Addr} {c P : Addr} {params : Arguments} {scope : Scope} {y : Str} {p p1 p2 p3 lpos kpos pos : Pos} {kd : Nat} {e : Expr} {l : EF}
end
section
variable {X : Cx} {W : WX} {c P : Addr} {params : Arguments} {scope : Scope} {y : Str} {p p1 p2 p3 lpos kpos pos : Pos} {kd : Nat} {e : Expr} {l : EF}
end
end MP
set_option maxRecDepth 100000
set_option maxHeartbeats 1000000
namespace MP
open PySem PySem.Spec PyProof.Rows L2 PySem.Calls
variable [TabsP] [ThkP]
theorem call_boolT {prog : Program} {w : World} {A : Around} {E : Value → Shared → Prop} {s : Shared} {v : Value} {Q : Value → Shared → Prop} (h : wpAny (model prog w) A.in1.in1 (truthy v) (fun b s' => Q (.bool b) s') E s) : wpAny (model prog w) A (call (.type "bool") [v]) Q E s := by
  refine callType_codes (T := "bool") (Bi := Builtin.«object.__init__») (Q₁ := fun r s₁ => ∃ b, r = .bool b ∧ Q r s₁) PySem.F.called_bool (PySem.F.typeCall_bool_1 _) PySem.F.entry_object_init ?_ ?_
  · refine codeAny_of_tree ?_
    show wpAny _ A.in1.in1 (do checkBuiltinCall "bool.__new__" ⟨[.type "bool", v], []⟩; again (.builtin "bool.__new__" ⟨[.type "bool", v], []⟩)) _ _ s
    refine wpAny_bind (wpAny_of_eq (PySem.F.newCall_bool_1 _) (wpAny_pure ⟨plainId_quiet (by decide +kernel) _, codeAny_builtin PySem.F.entry_bool_new ?_⟩))
    rw [Around.under_plainId (by decide +kernel) _]
    unfold Builtin.«bool.__new__»
    refine wpAny_bind (m := isType (.type "bool")) (wpAny_pure ?_)
    refine wpAny_bind (wpAny_pure ?_)
    refine wpAny_bind (wpAny_pure ?_)
    refine wpAny_bind (m := truthy v) (wpAny_mono h (fun b s' hb => ?_) fun _ _ y => y)
    exact wpAny_pure ⟨b, rfl, hb⟩
  · rintro obj s₁ ⟨b, rfl, hq⟩
    exact ⟨rfl, PySem.F.args_object_init_2 _ _, object_init_meets PySem.F.called_bool.init.lookup PySem.F.called_bool.made (by decide) prog w A.in1 _ s₁ ⟨rfl, rfl, hq⟩⟩
section
variable {X : Cx} {W : WX} {K : PySem.W.Frag} {DR : DRel} {N0 : Ent} {F H : Hp} {Ad : List Addr} {M : List D} {env : EnvM} {σ : St} {Q : VK} {e : Expr} {f : EF} {l : LF} {pos p : Pos} {k n : Nat} {g : Addr} {dd : List D} {c : List D → List D → R}
theorem run_fnK1 {pins : List (Addr × Obj)} {s : Shared} {us : List Value} {vs : List V} {ds : List D} (Fk : FnX X DR k n g dd c) (hr : MP.Room (k + 1) X.A) (hx : Pas X W) (I : Inv X pins σ H s) (mm : MemOk X.K F Ad M H) (r : Vals vs us) (x : DenL X.K F Ad vs ds)
    (h : RP X.K (fun c d H => W c d σ H) DR F Ad H Q (apC c n dd ds M)) : wpAny (model X.prog X.w) X.A.in1 (call (.ref g) us) (EP X pins σ Q) X.xe s := by
  obtain ⟨fd, ps, dvs, ws, Fo, hb, hv, hd, hk⟩ := Fk.ex
  have h' := spD_of mm x hd h
  refine wpAny_call (codeAny_mono (Fo.run X.A.in1 X.stack s H ⟨us, []⟩ (us ++ ws) (vs ++ dvs) Q _ hr.in1 I.env0.in1 (hb s us I.kIn (by rw [← (r.append hv).length]; exact Fo.len _ _ _ _ h')) (r.append hv) h') fun r s' hq => ?_)
  have z := cr_here (hx σ) I hq
  cases r with
  | error er => exact z
  | ok fl => cases fl with
    | ret u => exact z
    | _ => exact z.elim
def bBoolN (cn : Str) (ds : List D) (M : List D) : R := match ds with
  | [d] => if insOf cn (view M d) = true then .ok (.bl true) M else .stuck
  | _ => .stuck
theorem s_boolN {cn : Str} (hb : NoAttr X.K (He.ga X.K cn) "__bool__") (hl : NoAttr X.K (He.ga X.K cn) "__len__") (hg : Gl X "bool") (hmg : X.mg "bool" = none) (ha : SL X W [e] l) (hv : bootBuiltins "bool" = some (.type "bool") := by decide +kernel)
    (he : starEach [e] X.env = (false, eval e X.env) :: starEach [] X.env := by rfl) : SE X W (.Call (.Name "bool" p) [e] [] pos) (eCall (bBoolN cn) l) := by
  refine ⟨fun pins s σ H Q I ⟨N0, F, Ad, M, env, m, en, r⟩ => ?_⟩
  refine wpAny_Call_Name_kw (ld_blt I hg hmg hv ?_ (by decide) (by decide))
  refine PyProof.Rows.callWith_type1 (thn (ha.run pos pins s σ H _ I (tL_seq (Q' := fun vs H1 => ∃ F1 Ad1 M1 ds, MemOk X.K F1 Ad1 M1 H1 ∧ DenL X.K F1 Ad1 vs ds ∧ RP X.K (fun c d H => W c d σ H) (DE X.K) F1 Ad1 H1 Q (bBoolN cn ds M1)) DE.ok m en r fun ds M1 vs F1 Ad1 H1 g1 m1 en1 x1 r1 => ⟨F1, Ad1, M1, ds, m1, x1, r1⟩)) fun us s1 ⟨vs, H1, I1, rv, F1, Ad1, M1, ds, m1, x1, r1⟩ => ?_) he (by rfl)
  unfold bBoolN at r1
  split at r1
  · rename_i d
    split at r1
    · rename_i hh
      obtain ⟨fs, e1⟩ := insOf_ok hh
      cases x1 with
      | @cons v d0 vs0 ds0 xd xr =>
        cases xr
        have ax := DB.view (H0 := H1) m1 (.inl xd)
        rw [e1] at ax
        obtain ⟨a, da, va, rfl, ha1, _⟩ := ax.ins m1
        obtain ⟨u, rfl, ru⟩ := vals1 rv
        obtain rfl : u = Value.ref a := ru
        obtain ⟨mA, J, _⟩ := ins_get I1.hok ha1
        obtain ⟨od, J, _⟩ := J.look
        obtain ⟨mm, hF⟩ := I1.fr
        refine call_boolT (PySem.W.truthy_K0 hF I1.ok.mod.kin J hb hl ?_)
        exact ⟨.bl true, H1, I1, rfl, RP.here r1 m1 .bl⟩
    · exact r1.elim
  · exact r1.elim
end
end MP
set_option maxRecDepth 100000
set_option maxHeartbeats 1000000
namespace MP
open PySem PySem.Spec PyProof.Rows L2
variable [TabsP] [ThkP]
section
variable {X : Cx} {W : WX} {K : PySem.W.Frag} {F : Hp} {Ad : List Addr} {a : Expr} {fa : EF} {k : Nat} {p1 p2 p3 pos : Pos}
end
end MP
set_option maxRecDepth 100000
set_option maxHeartbeats 2000000
namespace GQ
open PySem PySem.Calls PyProof.Rows Builtin
section
variable {prog : Program} {w : World} {A : Around} {E : Value → Shared → Prop} {R : Result → Shared → Prop}
end
end GQ
namespace MP
open PySem PySem.Spec PyProof.Rows L2
variable [TabsP] [ThkP]
section
variable {X : Cx}
end
end MP
set_option maxRecDepth 100000
set_option maxHeartbeats 2000000
namespace CaX
open PySem PySem.Spec PyProof.Rows L2
section
variable {X : Cx} {x1 x2 x3 n : Str} {c1 c2 c3 : Value} {i kk : Nat} {body suite : List Stmt} {b₀ : Stmt} {p1 p2 p3 tp pos pos' : Pos} {tb : WX → TS} {ts : Addr → Value → Option Addr → TS} {Wout : WX}
end
end CaX
set_option maxRecDepth 100000
set_option maxHeartbeats 2000000
namespace MP
open PySem PySem.Spec PyProof.Rows L2
variable [TabsP]
structure ExAt (K : PySem.W.Frag) (T : ThkP) (x : Xc) (a : Addr) (cls : Value) (d : Option Addr) : Prop where
  ad : a = T.f
  cl : cls = .ref (He.ga K x.c)
  dic : (d = none ∧ x.fs = []) ∨ ∃ dd vs, d = some dd ∧ T.ent.fz dd = some (.xd vs) ∧ DenF K T.ent.fz T.ent.ad vs x.fs
structure ExP (K : PySem.W.Frag) (T : ThkP) (x : Xc) (p : Addr × Obj) : Prop where
  ex : ExAt K T x p.1 p.2.cls p.2.dict
  fd : ∃ vs, p.2.data = .fields vs
section
variable [T0 : ThkP] {X : Cx} {W : WX} {K : PySem.W.Frag} {x : Xc} {p : Addr × Obj} {pn : List (Addr × Obj)} {i : Nat} {n y fn cn f : Str} {tbl : List (Str × Bool)} {p1 p2 p3 pos : Pos} {N0 : Ent} {F H : Hp} {Ad : List Addr} {M : List D} {env : EnvM} {σ : St}
end
structure FnTg (P : Program) (w : World) (K : PySem.W.Frag) (mg : Str → Option Value) (base : Heap) (k : Nat) (g : Addr) (T : Xc → List D → R) : Prop where
  ex : ∃ (x qual : Str) (pg : Arguments) (bg : List Stmt) (sg : Scope) (fd : FuncData) (N : List Str) (a : Str) (b : Xc → SF), FunD K x qual pg bg sg [] [] g fd ∧ FnScope N [a] sg ∧ Binds K fd [a] [] ∧ N[0]? = some a ∧
    (∀ x M, T x M = endE (b x (B.raw :: List.replicate (N.length - 1) B.no) M)) ∧
    ∀ (T1 : ThkP) (x : Xc) (cdv : Value) (A : Around) (outer : List Env) (s : Shared) (H : Hp) (E : XK) (p : Addr × Obj), L2H.RoomH k (A.deeper (envOfC qual sg s.heap.objs.size g cdv)) → ExP K T1 x p →
      @SSs _ T1 (L2H.cxH (L2.CX P w) P w K mg base N qual sg g cdv A outer s H E p) (wxE E) (DE K) bg (b x)
section
variable [T0 : ThkP] {X : Cx} {W : WX} {x : Xc} {p : Addr × Obj} {pn : List (Addr × Obj)} {i k : Nat} {n f : Str} {g : Addr} {T : Xc → List D → R} {p1 p2 pos : Pos}
end
section
variable [T0 : ThkP] {X : Cx} {W : WX} {DR : DRel} {body suite : List Stmt} {b₀ : Stmt} {b : SF} {ts : Xc → SF} {pos pos' p1 p2 p3 tp : Pos} {cn1 cn2 cn3 x1 x2 x3 n : Str} {i kk : Nat} {tbl : List (Str × Bool)}
end
end MP
set_option maxRecDepth 100000
set_option maxHeartbeats 1000000
namespace MP
open PySem PySem.Spec PyProof.Rows L2
end MP
set_option maxRecDepth 100000
set_option maxHeartbeats 1000000
namespace MP
open PySem PySem.Spec PyProof.Rows L2
variable [TabsP] [ThkP]
section
variable {X : Cx} {W : WX} {N0 : Ent} {F H : Hp} {Ad : List Addr} {M : List D} {env : EnvM} {σ : St} {Q : VK} {k n np : Nat} {ks : List Str} {ix : List Nat} {g : Addr} {dd : List D} {c : List D → List D → R} {es : List Expr} {e : Expr} {l1 l2 : LF} {y cn : Str} {p pos kpos : Pos} {kws : List Keyword}
theorem so_makeQ0 (Ik : InQ X.prog X.w X.K X.mg X.base k n np ks ix cn g dd c) (hr : MP.Room (k + 1) X.A) (hx : Pas X W) (hg : Gl X y) (hm : X.mg y = some (.ref (He.ga X.K cn))) (hkw : SK X W kws l2)
    (hall : (backToKw pos (keywordEach kws X.env)).all (·.1.isSome) = true := by rfl) (hks : (backToKw pos (keywordEach kws X.env)).filterMap (·.1) = ks := by rfl)
    (hdb : (y == ("__debug__" : Str)) = false := by decide)
    (hpl : ((backTo pos (starEach [] X.env)).any (·.1) || (backToKw pos (keywordEach kws X.env)).any (·.1.isNone)) = false := by rfl) :
    SO X W (.Call (.Name y p) [] kws pos) (eCallQ c n np ks.length ix dd lNil l2) := by
  refine ⟨fun pins s σ H Q I ⟨N0, F, Ad, M, env, m, en, r⟩ => ?_⟩
  refine wpAny_Call_Name_kw (ld_glob I hg hm ?_ hdb)
  refine PySem.W.callWith_KW0 (h₀ := X.base) I.ok.mod.kin Ik.mak.kp hall (thn (hkw.run pos pins s σ H _ I (tL_seq (Q' := fun zs H2 => ∃ F2 Ad2 M2 es, MemOk X.K F2 Ad2 M2 H2 ∧ DenL X.K F2 Ad2 zs es ∧ RP X.K (fun c d H => W c d σ H) (DO X.K) F2 Ad2 H2 Q (apQ c n np ks.length ix dd [] es M2)) (k := fun ys M2 => apQ c n np ks.length ix dd [] ys M2) DO.ok m en r fun es M2 zs F2 Ad2 H2 g2 m2 en2 x2 r2 => ⟨F2, Ad2, M2, es, m2, x2, r2⟩))
    fun ws s2 ⟨zs, H2, I2, rz, F2, Ad2, M2, es, m2, x2, r2⟩ => ⟨I2.kIn, ?_⟩) hpl
  rw [hks]
  exact run_makeQ (vs := []) (ds := []) Ik hr hx I2 m2 .nil .nil rz x2 r2
end
end MP
set_option maxRecDepth 100000
set_option maxHeartbeats 1000000
namespace MP
open PySem PySem.Spec PyProof.Rows L2
variable [TabsP] [ThkP]
section
variable {X : Cx} {W : WX} {K : PySem.W.Frag} {DR : DRel} {fe : EF} {i j : Nat} {pos : Pos}
end
end MP
set_option maxRecDepth 100000
set_option maxHeartbeats 2000000
namespace NeX
open PySem PySem.Spec PyProof.Rows
section
variable {M : Model} {prog : Program} {w : World} {A : Around} {E : Value → Shared → Prop} {s : Shared} {K : PySem.W.Frag} {x y C f : Addr} {ox : Obj} {od : Option Obj}
theorem ifBound_objNe {args : List Value} {Q : Option Value → Shared → Prop} (X : K.In s.heap) (I : PySem.W.InstAt s.heap x ox C od) (hs : PySem.W.findIn K (.ref C) "__ne__" = some (some (.builtin "object.__ne__")))
    (h : wpAny M A (call (.builtin "object.__ne__") (.ref x :: args)) (fun v => Q (some v)) E s) : wpAny M A (callSpecialIfBound? (.ref x) "__ne__" args) Q E s := by
  simp only [callSpecialIfBound?, bindSpecialIfBound?]
  refine wpAny_holding (wpAny_bind (wpAny_bind (wpAny_bind (I.type.here ((PySem.W.looks_findIn X hs).here ?_)))))
  refine wpAny_bind (wpAny_askSetting (wpAny_ite ?_))
  have fin : wpAny M A (call (.builtin "object.__ne__") ([.ref x] ++ args) >>= fun v => pure (some v)) Q E s := wpAny_bind (wpAny_mono h (fun v s' h' => wpAny_pure h') fun _ _ h' => h')
  split
  · exact wpAny_bind (wpAny_of_eq (F.cmp_object.ne.bind _) (wpAny_pure (by exact fin)))
  · exact wpAny_tryCatch (wpAny_bind (wpAny_of_eq (F.cmp_object.ne.bind _) (wpAny_pure (by exact fin))))
theorem entry_ne (hu : A.units < cLine) (X : K.In s.heap) (I : PySem.W.InstAt s.heap x ox C od) (he : PySem.W.findIn K (.ref C) "__eq__" = some (some (.ref f))) (hf : PySem.W.isFn K (.ref f) = true) {Q : Fin → Shared → Prop}
    (hcall : wpAny (model prog w) A (call (.ref f) [.ref x, .ref y]) (fun v s' => ∃ b, v = .bool b ∧ Q (.done (.ret (.bool (!b)))) s') E s) : wpAny (model prog w) A (Builtin.«object.__ne__» ⟨[.ref x, .ref y], []⟩) Q E s := by
  unfold Builtin.«object.__ne__»
  repeat (first
    | with_reducible refine wpAny_cRoomFor hu ?_
    | (refine wpAny_bind (m := callSpecialIfBound? (.ref x) (Str.ofString "__eq__") [.ref y])
        (PySem.W.ifBound_K X I he hf (wpAny_mono hcall (fun r s' hr => by
          obtain ⟨b, rfl, hq⟩ := hr
          repeat (first | exact hq | exact wpAny_pure hq | exact wpAny_truthy_bool hq | (refine wpAny_bind (m := truthy (.bool _)) (wpAny_truthy_bool ?_)) | wp_step)) fun _ _ e => e)))
    | wp_step)
theorem ne_K {Q : Value → Shared → Prop} (hu : A.units + 1 < cLine) (X : K.In s.heap) (I : PySem.W.InstAt s.heap x ox C od) (hb : PySem.W.Looks (model prog w) s.heap (typeOf (.ref y)) (.ref C))
    (hs : PySem.W.findIn K (.ref C) "__ne__" = some (some (.builtin "object.__ne__"))) (hm : PySem.W.mroIn K C (.type "object") = some true) (he : PySem.W.findIn K (.ref C) "__eq__" = some (some (.ref f))) (hf : PySem.W.isFn K (.ref f) = true)
    (h : wpAny (model prog w) A.in1 (call (.ref f) [.ref x, .ref y]) (fun v s' => ∃ b, v = .bool b ∧ Q (.bool (!b)) s') E s) : wpAny (model prog w) A (richCompare .NotEq (.ref x) (.ref y)) Q E s := by
  have one : wpAny (model prog w) A (tryCompare (.ref x) "__ne__" (.ref y)) (fun r s' => ∃ v, r = some v ∧ Q v s') E s := by
    unfold tryCompare
    refine wpAny_bind (ifBound_objNe X I hs (wpAny_call (codeAny_call_builtin F.cmp_object.ne.plain F.cmpEntry_ne (PySem.W.check_slot F.cmpKind_ne F.cmpSplit_ne (I.type.andThen (PySem.W.looks_mroIn X hm)) (F.cmpArgs_ne _ _)
      (entry_ne (A := A.in1) (by show A.units + 1 < cLine; exact hu) X I he hf (wpAny_mono h (fun v s' hv => ?_) fun _ _ e => e))))))
    obtain ⟨b, rfl, hq⟩ := hv
    first | exact ⟨b, rfl, wpAny_pure ⟨_, rfl, hq⟩⟩ | exact ⟨b, rfl, wpAny_pure (wpAny_pure ⟨_, rfl, hq⟩)⟩
  unfold richCompare
  simp only [oneThing_ref]
  refine wpAny_holding (wpAny_bind (wpAny_cRoomFor (Nat.lt_of_succ_lt hu) ?_))
  rw [cmpInfo_NotEq]
  dsimp only
  refine wpAny_bind (I.type.here (wpAny_bind (hb.here ?_)))
  rw [show (Value.ref C != Value.ref C) = false from by simp]
  simp only [Bool.false_eq_true, if_false]
  refine wpAny_bind (wpAny_pure ?_)
  simp only [Bool.false_eq_true, if_false]
  refine wpAny_bind (wpAny_mono one (fun r s' z => ?_) fun _ _ e => e)
  obtain ⟨v, rfl, hq⟩ := z
  exact wpAny_pure hq
end
end NeX
namespace MP
open PySem PySem.Spec PyProof.Rows L2
variable [TabsP] [ThkP]
section
variable {X : Cx} {W : WX}
def oNeI (cn : Str) (c : List D → List D → R) (x y : D) (M : List D) : R := if insOf cn (view M x) = true ∧ insOf cn (view M y) = true then (match apC c 2 [] [x, y] M with
  | .ok (.bl b) M' => .ok (.bl (!b)) M'
  | .exc e M' => .exc e M'
  | _ => .stuck) else .stuck
structure NeO (K : PySem.W.Frag) (cn : Str) : Prop where
  ne : PySem.W.findIn K (.ref (He.ga K cn)) "__ne__" = some (some (.builtin "object.__ne__"))
  mo : PySem.W.mroIn K (He.ga K cn) (.type "object") = some true
theorem neO_ok {K : PySem.W.Frag} {c : Str} (h : (Fm.neO c).ok K = true) : NeO K c := by
  obtain ⟨h1, h2⟩ := He.ba h
  exact ⟨He.eqO_ok h1, of_decide_eq_true h2⟩
theorem op2e_neI {cn : Str} {g : Addr} {k : Nat} {c : List D → List D → R} (hn : NeO X.K cn) (hm : Meth X.K (He.ga X.K cn) "__eq__" g) (Fk : FnX X (DE X.K) k 2 g [] c) (hr : MP.Room (k + 1) X.A) (hx : Pas X W) : Op2E X W (DE X.K) (compareOp .NotEq) (oNeI cn c) := by
  intro pins s σ H F Ad M x y v u dx dy Q I m rx ry x1 x2 r
  unfold oNeI at r
  split at r
  · rename_i hh
    obtain ⟨fs, e1⟩ := insOf_ok hh.1
    obtain ⟨gs, e2⟩ := insOf_ok hh.2
    have ax := DB.view (H0 := H) m (.inl x1)
    have ay := DB.view (H0 := H) m (.inl x2)
    rw [e1] at ax
    rw [e2] at ay
    obtain ⟨a, da, va, rfl, ha, _⟩ := ax.ins m
    obtain ⟨b, db, vb, rfl, hb, _⟩ := ay.ins m
    cases rx
    cases ry
    obtain ⟨mA, J, _⟩ := ins_get I.hok ha
    obtain ⟨mB, J', _⟩ := ins_get I.hok hb
    obtain ⟨od, J, _⟩ := J.look
    obtain ⟨od', J', _⟩ := J'.look
    show wpAny (model X.prog X.w) X.A (richCompare .NotEq (.ref a) (.ref b)) (EP X pins σ Q) X.xe s
    refine NeX.ne_K (by have := hr.units; omega) I.kIn J J'.type hn.ne hn.mo hm.at_ hm.fn ?_
    have rr : RP X.K (fun c d H => W c d σ H) (DE X.K) F Ad H (fun z H' => ∃ q, z = .bl q ∧ Q (.bl (!q)) H') (apC c 2 [] [dx, dy] M) := by
      cases q : apC c 2 [] [dx, dy] M with
      | ok d M' =>
        rw [q] at r
        cases d with
        | bl bb => exact fun z F' Ad' H' g' m' xx => ⟨bb, by cases xx; rfl, r _ F' Ad' H' g' m' .bl⟩
        | _ => exact r.elim
      | exc e M' => rw [q] at r; exact r
      | stuck => rw [q] at r; exact r
    refine wpAny_mono (run_fnK1 Fk hr hx I m (.cons (show L2.RelV (.ref a) (.ref a) from rfl) (.cons (show L2.RelV (.ref b) (.ref b) from rfl) .nil)) (.cons x1 (.cons x2 .nil)) rr) (fun z s' ⟨zv, H', I', rz, q, eq, hq⟩ => ?_) fun _ _ h => h
    subst eq
    cases rz
    exact ⟨q, rfl, .bl (!q), H', I', rfl, hq⟩
  · exact r.elim
end
end MP
set_option maxRecDepth 100000
set_option maxHeartbeats 2000000
namespace MP
open PySem PySem.Spec PyProof.Rows L2
variable [TabsP] [ThkP]
structure XnC (K : PySem.W.Frag) (C : Addr) : Prop where
  over : ∃ (B newId initId : String) (bmB : List Value), ExcBaseFacts B newId initId bmB ∧ PySem.W.excIn K C bmB newId = true
  kC : PySem.W.keepIn K (.ref C) = true
  exC : PySem.W.subIn K (.ref C) (.type "BaseException") = some true
  tyC : PySem.W.typeIn K (.ref C) = some (.type "type")
section
variable {X : Cx} {W : WX} {DR : DRel} {cn y : Str} {p p2 pos : Pos}
end
end MP
namespace MP
open PySem PySem.Spec PyProof.Rows L2
variable [TabsP]
section
variable [T0 : ThkP] {X : Cx} {W : WX} {DR : DRel} {body : List Stmt} {b : SF} {fe : Xc → EF} {e : Expr} {pos pos' np pz ps : Pos} {cn y n z : Str} {i j : Nat} {tbl : List (Str × Bool)}
end
end MP
set_option maxRecDepth 100000
set_option maxHeartbeats 1000000
namespace MP
open PySem PySem.Spec PyProof.Rows L2
variable [TabsP] [ThkP]
section
variable {X : Cx} {W : WX} {K : PySem.W.Frag} {F H : Hp} {Ad : List Addr} {M : List D} {i : Nat}
theorem DenL.dropLast : ∀ {vs : List V} {ds : List D}, DenL K F Ad vs ds → DenL K F Ad vs.dropLast ds.dropLast
  | _, _, .nil => .nil
  | _, _, .cons _ .nil => .nil
  | _, _, .cons h (.cons h2 r) => .cons h (DenL.dropLast (.cons h2 r))
end
end MP
set_option maxRecDepth 100000
set_option maxHeartbeats 2000000
namespace CaX
open PySem PySem.Spec PyProof.Rows L2
section
variable {X : Cx} {x1 x2 : Str} {c1 c2 : Value} {kk : Nat} {body suite : List Stmt} {b₀ : Stmt} {p1 p2 tp pos pos' : Pos} {tb : WX → TS} {ts : Addr → Value → Option Addr → TS} {Wout : WX}
end
end CaX
namespace MP
open PySem PySem.Spec PyProof.Rows L2
variable [TabsP]
section
variable [T0 : ThkP] {X : Cx} {W : WX} {DR : DRel} {body suite : List Stmt} {b₀ : Stmt} {b ts : SF} {pos pos' p1 p2 tp : Pos} {cn1 cn2 x1 x2 : Str} {kk : Nat} {tbl : List (Str × Bool)}
end
end MP
set_option maxRecDepth 100000
set_option maxHeartbeats 2000000
namespace MP
open PySem PySem.Spec PyProof.Rows L2
variable [TabsP]
section
variable [T0 : ThkP] {X : Cx} {W : WX} {K : PySem.W.Frag} {x : Xc} {p : Addr × Obj} {pn : List (Addr × Obj)} {i kk : Nat} {n y1 y2 cn1 cn2 f : Str} {tbl1 tbl2 : List (Str × Bool)} {p1 p2 p3 p4 p5 pos : Pos}
end
end MP
set_option maxRecDepth 100000
set_option maxHeartbeats 1000000
namespace MP
open PySem PySem.Spec PyProof.Rows L2
variable [TabsP] [ThkP]
section
variable {X : Cx}
end
end MP
set_option maxRecDepth 100000
set_option maxHeartbeats 1000000
namespace MP
open PySem PySem.Spec PyProof.Rows L2
structure TbF (K : PySem.W.Frag) (w : World) (x : Str) (vs : List (Str × He.Dv)) : Prop where
  ky : He.dicW K (He.ga K x) = some (He.keysIn w.params (vs.map (·.1)))
  vl : He.valsB K (He.ga K x) vs = true
theorem TbF.ok {K : PySem.W.Frag} {w : World} {x : Str} {vs : List (Str × He.Dv)} (t : TbF K w x vs) : TbOk K w x vs := ⟨He.dicW_ok t.ky, t.vl⟩
theorem keys_miss {P : Params} {z : Str} : ∀ {l : List DictEntry} {ks : List Str}, l.map He.keyOf = He.keysIn P ks → z ∉ ks → l.find? (·.key.isStr z) = none ∧ l.any (·.refKey) = false
  | [], _, _, _ => ⟨rfl, rfl⟩
  | e :: r, [], h, _ => by cases h
  | e :: r, k :: ks, h, hz => by
    have h1 : He.keyOf e :: r.map He.keyOf = some (k, PyData.keyHash P k) :: He.keysIn P ks := h
    injection h1 with h2 h3
    obtain ⟨i1, i2⟩ := keys_miss h3 fun q => hz (List.mem_cons_of_mem _ q)
    unfold He.keyOf at h2
    split at h2
    · rename_i y t q
      have h4 := Option.some.inj h2
      obtain ⟨h5, h6⟩ := Prod.mk.inj h4
      have ne : e.key.isStr z = false := by
        rw [q]
        show (y == z) = false
        rw [h5]
        exact beq_eq_false_iff_ne.mpr fun w => hz (by rw [w]; simp)
      have nr : e.refKey = false := by
        unfold DictEntry.refKey
        rw [q]
      refine ⟨?_, ?_⟩
      · rw [List.find?_cons, ne]; exact i1
      · rw [List.any_cons, nr, i2]; rfl
    · cases h2
theorem TbF.miss {K : PySem.W.Frag} {w : World} {x z : Str} {vs : List (Str × He.Dv)} (t : TbF K w x vs) (h : vs.find? (fun q => decide (q.1 = z)) = none) : PySem.W.nsIn K (He.ga K x) z = some none := by
  have hz : z ∉ vs.map (·.1) := fun hm => by
    obtain ⟨q, hq, e⟩ := List.mem_map.mp hm
    have := List.find?_eq_none.mp h q hq
    exact this (decide_eq_true e)
  have k := t.ky
  unfold He.dicW at k
  unfold PySem.W.nsIn
  split at k
  · rename_i c es n sl q
    rw [q]
    split at k
    · obtain ⟨i1, i2⟩ := keys_miss (Option.some.inj k) hz
      dsimp only
      rw [i1]
      dsimp only
      rw [i2]
      rfl
    · cases k
  · cases k
variable [TabsP] [ThkP]
section
variable {X : Cx} {W : WX} {K : PySem.W.Frag} {DR : DRel} {N0 : Ent} {F H : Hp} {Ad : List Addr} {M : List D} {env : EnvM} {σ : St} {Q : VK} {e o tg : Expr} {es : List Expr} {f fo fe : EF} {l : LF} {pos p apos cpos : Pos} {k n : Nat} {g : Addr} {dd : List D} {c : List D → List D → R}
end
end MP
set_option maxRecDepth 100000
set_option maxHeartbeats 1000000
namespace MP
open PySem PySem.Spec PyProof.Rows L2
variable [TabsP] [ThkP]
section
variable {X : Cx} {W : WX} {DR : DRel} {k n : Nat} {g : Addr} {dd : List D} {c : List D → List D → R} {y : Str} {p pos : Pos}
end
end MP
set_option maxRecDepth 100000
set_option maxHeartbeats 1000000
namespace HT
open PySem PySem.Spec PyProof PyProof.Rows L2
section
variable {prog : Program} {w : World} {A : Around} {E : Value → Shared → Prop} {s : Shared}
end
end HT
namespace L2
open PySem PySem.Spec PyProof.Rows
section
variable {X : Cx}
end
end L2
namespace MP
open PySem PySem.Spec PyProof.Rows L2
variable [TabsP] [ThkP]
section
variable {X : Cx} {W : WX} {K : PySem.W.Frag} {F : Hp} {Ad : List Addr} {a : Expr} {fa : EF} {k : Nat} {p1 p2 p3 pos : Pos}
end
end MP
set_option maxRecDepth 100000
set_option maxHeartbeats 1000000
namespace MP
open PySem PySem.Spec PyProof.Rows L2
variable [TabsP] [ThkP]
section
variable {X : Cx} {W : WX} {K : PySem.W.Frag} {DR : DRel} {N0 : Ent} {F H : Hp} {Ad : List Addr} {M : List D} {env : EnvM} {σ : St} {Q : VK} {a b c e : Expr} {f fa fb fc : EF} {pos p : Pos}
end
end MP
set_option maxRecDepth 100000
set_option maxHeartbeats 1000000
namespace MP
open PySem PySem.Spec PyProof.Rows L2
variable [TabsP] [ThkP]
section
variable {X : Cx} {W : WX} {K : PySem.W.Frag} {DR : DRel} {N0 : Ent} {F H : Hp} {Ad : List Addr} {M : List D} {env : EnvM} {σ : St} {Q : VK} {pos : Pos}
end
end MP
set_option maxRecDepth 100000
set_option maxHeartbeats 400000
namespace MP
open PySem PySem.Spec PyProof.Rows L2
variable [TabsP] [ThkP]
section
variable {X : Cx} {W : WX} {K : PySem.W.Frag} {F : Hp} {Ad : List Addr} {p p4 kpos pos : Pos} {e : Expr} {l : EF}
end
end MP
set_option maxRecDepth 100000
set_option maxHeartbeats 1000000
namespace MP
open PySem PySem.Spec PyProof.Rows L2
variable [TabsP] [ThkP]
section
variable {X : Cx} {K : PySem.W.Frag} {F H : Hp} {Ad : List Addr} {M : List D}
def oInU (neg : Bool) (x y : D) (M : List D) : R := match (view M x).pd, view M y with
  | some p, .tup ys => (match D.pdL ys with
    | some qs => if SeqAt.shaped p = true ∧ SeqAt.shaped (.tuple qs) = true then .ok (.bl (if neg then !(qs.any fun z => PyData.eqv z p) else qs.any fun z => PyData.eqv z p)) M else .stuck
    | none => .stuck)
  | _, _ => .stuck
end
end MP
set_option maxRecDepth 100000
set_option maxHeartbeats 1000000
namespace MP
open PySem PySem.Spec PyProof.Rows L2
variable [TabsP] [ThkP]
section
variable {X : Cx} {kx vx tg iter : Expr} {ifs : List Expr} {scope : Scope} {own : List (Str × Nat)} {pos : Pos} {wi : TI} {g : TG} {tt : TT} {tk tv : TE}
end
section
variable {X : Cx} {W : WX} {DR : DRel} {l : LF}
end
end MP
set_option maxRecDepth 100000
set_option maxHeartbeats 1000000
namespace MP
open PySem PySem.Spec PyProof.Rows L2
variable [TabsP] [ThkP]
def eActL (i : Nat) (th : List D → List D → R) (l : LF) : EF := fun env M => match env[i]? with
  | some .raw => (l env M).bind fun ds M1 => th ds M1
  | _ => .stuck
section
variable {X : Cx} {pins : List (Addr × Obj)} {σ : St} {H0 H F : Hp} {Ad : List Addr} {s : Shared} {params : Arguments} {body : Expr} {scope : Scope} {f c : Addr} {k i : Nat} {fb : EF}
  {Ng N2 : List Str} {qg : Str} {sg : Scope} {g : Addr} {cdg : Value} {Eg : XK} {a x1 x2 : Str} {pn : List (Addr × Obj)} {xe : Value → Shared → Prop} {W : WX} {p1 p2 : Pos} {e : Expr} {es : List Expr} {l : LF}
end
section
variable {X : Cx} {pins : List (Addr × Obj)} {σ : St} {H H1 F : Hp} {Ad : List Addr} {M : List D} {s s1 : Shared} {params : Arguments} {body : Expr} {scope : Scope} {f c : Addr}
end
structure FnT2 (P : Program) (w : World) (K : PySem.W.Frag) (mg : Str → Option Value) (base : Heap) (k : Nat) (g : Addr) (T : (List D → List D → R) → List D → List D → R) : Prop where
  ex : ∃ (x qual : Str) (pg : Arguments) (bg : List Stmt) (sg : Scope) (fd : FuncData) (N : List Str) (q0 q1 a : Str) (b : (List D → List D → R) → SF), FunD K x qual pg bg sg [] [] g fd ∧ FnScope N [q0, q1, a] sg ∧ Binds K fd [q0, q1, a] [] ∧ N[2]? = some a ∧ Vis sg a ∧ (a == ("__debug__" : Str)) = false ∧ (a == ("__classdict__" : Str)) = false ∧
    (∀ th d0 d1 M, T th [d0, d1] M = endE (b th (B.shr d0 :: B.shr d1 :: B.raw :: List.replicate (N.length - 3) B.no) M)) ∧
    ∀ (T1 : ThkP) (th : List D → List D → R) (cdv : Value) (A : Around) (outer : List Env) (s : Shared) (H : Hp) (E : XK), Room k (A.deeper (envOfC qual sg s.heap.objs.size g cdv)) →
      (∀ (p1 p2 : Pos) (e : Expr) (es : List Expr) (l : LF), @SL _ T1 (cxOf (L2.CX P w) P w K mg base N qual sg g cdv A outer s H E) (wxE E) (e :: es) l →
        (∀ env, starEach (e :: es) env = (false, eval e env) :: starEach es env) → (∀ env, (backTo p2 (starEach es env)).any (·.1) = false) →
        @SE _ T1 (cxOf (L2.CX P w) P w K mg base N qual sg g cdv A outer s H E) (wxE E) (.Call (.Name a p1) (e :: es) [] p2) (eActL 2 th l)) →
      @SSs _ T1 (cxOf (L2.CX P w) P w K mg base N qual sg g cdv A outer s H E) (wxE E) (DE K) bg (b th)
section
variable {X : Cx} {W : WX} {c P g : Addr} {k : Nat} {x x1 x2 : Str} {N2 : List Str} {params : Arguments} {body : Expr} {scope : Scope} {fb f0 f1 : EF} {T : (List D → List D → R) → List D → List D → R} {p lpos pos : Pos} {e0 e1 : Expr}
end
end MP
set_option maxRecDepth 100000
set_option maxHeartbeats 1000000
namespace MP
open PySem PySem.Spec PyProof.Rows L2
variable [TabsP] [ThkP]
section
variable {X : Cx}
def oInX (neg : Bool) (x y : D) (M : List D) : R := match view M y with
  | .tup _ => oInU neg x y M
  | _ => oInD neg x y M
@[simp] theorem oInX_tup {neg : Bool} {x : D} {ys M : List D} : oInX neg x (.tup ys) M = oInU neg x (.tup ys) M := rfl
@[simp] theorem oInX_lst {neg : Bool} {x : D} {ys M : List D} : oInX neg x (.lst ys) M = oInD neg x (.lst ys) M := rfl
end
end MP
set_option maxRecDepth 100000
set_option maxHeartbeats 1000000
namespace MP
open PySem PySem.Spec PyProof.Rows L2
variable [TabsP] [ThkP]
end MP
set_option maxRecDepth 100000
set_option maxHeartbeats 1000000
namespace MP
open PySem PySem.Spec PyProof.Rows L2
variable [TabsP] [ThkP]
section
variable {X : Cx} {K : PySem.W.Frag} {F H : Hp} {Ad : List Addr} {M : List D}
end
end MP
set_option maxRecDepth 100000
set_option maxHeartbeats 1000000
namespace MP
open PySem PySem.Spec PyProof.Rows L2
variable [TabsP] [ThkP]
section
variable {X : Cx} {W : WX} {K : PySem.W.Frag} {DR : DRel} {N0 : Ent} {F H : Hp} {Ad : List Addr} {M : List D} {env : EnvM} {σ : St} {Q : VK} {a b c e : Expr} {f fa fb fc : EF} {pos p : Pos}
end
end MP
set_option maxRecDepth 100000
set_option maxHeartbeats 1000000
namespace MP
open PySem PySem.Spec PyProof.Rows L2
variable [TabsP] [ThkP]
def oEqL0 (x y : D) (M : List D) : R := match view M x, view M y with
  | .lst xs, .lst [] => .ok (.bl xs.isEmpty) M
  | _, _ => .stuck
section
variable {X : Cx}
@[simp] theorem oEqL0_lst {xs M : List D} : oEqL0 (.lst xs) (.lst []) M = .ok (.bl xs.isEmpty) M := rfl
end
end MP
set_option maxRecDepth 100000
set_option maxHeartbeats 1000000
namespace MP
open PySem PySem.Spec PyProof.Rows L2
variable [TabsP] [ThkP]
def oNeL0 (x y : D) (M : List D) : R := match view M x, view M y with
  | .lst xs, .lst [] => .ok (.bl !xs.isEmpty) M
  | _, _ => .stuck
section
variable {X : Cx}
@[simp] theorem oNeL0_lst {xs M : List D} : oNeL0 (.lst xs) (.lst []) M = .ok (.bl !xs.isEmpty) M := rfl
end
end MP
set_option maxRecDepth 100000
set_option maxHeartbeats 4000000
namespace PySem.W
open PySem PySem.Spec PySem.Calls PyProof.Rows
end PySem.W
namespace CaX
open PySem PySem.Spec PyProof.Rows L2
inductive TestX (X : Cx) : Expr → List Value → Prop
  | one {x : Str} {c : Value} {np : Pos} (hc : Names X x c) : TestX X (.Name x np) [c]
  | five {x1 x2 x3 x4 x5 : Str} {c1 c2 c3 c4 c5 : Value} {p1 p2 p3 p4 p5 tp : Pos} {kk : Nat} (n1 : Names X x1 c1) (n2 : Names X x2 c2) (n3 : Names X x3 c3) (n4 : Names X x4 c4) (n5 : Names X x5 c5) :
      TestX X (.Tuple [.Name x1 p1, .Name x2 p2, .Name x3 p3, .Name x4 p4, .Name x5 p5] kk tp) [c1, c2, c3, c4, c5]
inductive HdsA (X : Cx) (n : Str) : List ExceptHandler → List (List Value × (Addr → Value → Option Addr → TS)) → Prop
  | nil : HdsA X n [] []
  | cons {e : Expr} {cs : List Value} {ts : Addr → Value → Option Addr → TS} {b₀ : Stmt} {suite : List Stmt} {pos' : Pos} {hds : List ExceptHandler} {l : List (List Value × (Addr → Value → Option Addr → TS))} (ht : TestX X e cs)
      (hsu : ∀ (a : Addr) (oe : Obj) (cls : Value) (d : Option Addr) (pn : List (Addr × Obj)), Zc cls d oe → (∃ vs, oe.data = .fields vs) → PSs (X.suite a ((a, oe) :: pn)) (b₀ :: suite) (ts a cls d)) (r : HdsA X n hds l) :
      HdsA X n (.ExceptHandler (some e) (some n) (b₀ :: suite) pos' :: hds) ((cs, ts) :: l)
section
variable {X : Cx} {n : Str} {i : Nat} {body : List Stmt} {h₀ : ExceptHandler} {hds : List ExceptHandler} {l : List (List Value × (Addr → Value → Option Addr → TS))} {pos : Pos} {tb : WX → TS} {Wout : WX}
end
end CaX
namespace MP
open PySem PySem.Spec PyProof.Rows L2
variable [TabsP]
def ExmTN (K : PySem.W.Frag) (cs : List Str) (tbl : List (Str × Bool)) : Prop := ∀ c b, tbl.lookup c = some b → PySem.W.exmAny K (.ref (He.ga K c)) (cs.map fun c => .ref (He.ga K c)) = some b
inductive HdsM [T0 : ThkP] (X : Cx) (n : Str) (i j : Nat) (z : Str) : List ExceptHandler → List (List (Str × Bool) × (Xc → EF)) → Prop
  | nil : HdsM X n i j z [] []
  | cons {e te : Expr} {cs : List Str} {tbl : List (Str × Bool)} {fe : Xc → EF} {pz ps pos' : Pos} {hds : List ExceptHandler} {l : List (List (Str × Bool) × (Xc → EF))} (ht : CaX.TestX X te (cs.map fun c => .ref (He.ga X.K c))) (hx : ExmTN X.K cs tbl)
      (hsu : ∀ (T2 : ThkP) (x : Xc) (a : Addr) (oe : Obj) (pn : List (Addr × Obj)), ExP X.K T2 x (a, oe) → tbl.lookup x.c = some true → @SE _ T2 (X.suite a ((a, oe) :: pn)) WN e (fe x))
      (hsw : swapsWith e (some (.Name z pz)) ps.line X.env = pure false) (r : HdsM X n i j z hds l) :
      HdsM X n i j z (.ExceptHandler (some te) (some n) [.Assign [.Name z pz] e ps] pos' :: hds) ((tbl, fe) :: l)
section
variable [T0 : ThkP] {X : Cx} {W : WX} {DR : DRel} {body : List Stmt} {b : SF} {h₀ : ExceptHandler} {hds : List ExceptHandler} {l : List (List (Str × Bool) × (Xc → EF))} {pos : Pos} {n z : Str} {i j : Nat}
end
end MP
set_option maxRecDepth 100000
set_option maxHeartbeats 2000000
namespace MP
open PySem PySem.Spec PyProof.Rows L2
variable [TabsP] [ThkP]
section
variable {X : Cx} {W : WX} {K : PySem.W.Frag} {F H : Hp} {Ad : List Addr} {M : List D} {i : Nat} {n : Str} {e : Expr} {fe : EF} {apos cpos p2 : Pos}
end
end MP
set_option maxRecDepth 100000
set_option maxHeartbeats 2000000
namespace MP
open PySem PySem.Spec PyProof.Rows L2
variable [TabsP] [ThkP]
section
variable {K : PySem.W.Frag} {F : Hp} {Ad : List Addr} {h : Heap} {P : Program} {w : World}
end
end MP
set_option maxRecDepth 100000
set_option maxHeartbeats 2000000
namespace NeX
open PySem PySem.Spec PyProof.Rows
section
variable {M : Model} {prog : Program} {w : World} {A : Around} {E : Value → Shared → Prop} {s : Shared} {K : PySem.W.Frag} {x C f : Addr} {b tb : Value} {ox : Obj} {od : Option Obj}
theorem entry_neV (hu : A.units < cLine) (X : K.In s.heap) (I : PySem.W.InstAt s.heap x ox C od) (he : PySem.W.findIn K (.ref C) "__eq__" = some (some (.ref f))) (hf : PySem.W.isFn K (.ref f) = true) {Q : Fin → Shared → Prop}
    (hcall : wpAny (model prog w) A (call (.ref f) [.ref x, b]) (fun v s' => ∃ b, v = .bool b ∧ Q (.done (.ret (.bool (!b)))) s') E s) : wpAny (model prog w) A (Builtin.«object.__ne__» ⟨[.ref x, b], []⟩) Q E s := by
  unfold Builtin.«object.__ne__»
  repeat (first
    | with_reducible refine wpAny_cRoomFor hu ?_
    | (refine wpAny_bind (m := callSpecialIfBound? (.ref x) (Str.ofString "__eq__") [b])
        (PySem.W.ifBound_K X I he hf (wpAny_mono hcall (fun r s' hr => by
          obtain ⟨b, rfl, hq⟩ := hr
          repeat (first | exact hq | exact wpAny_pure hq | exact wpAny_truthy_bool hq | (refine wpAny_bind (m := truthy (.bool _)) (wpAny_truthy_bool ?_)) | wp_step)) fun _ _ e => e)))
    | wp_step)
theorem ne_KV {Q : Value → Shared → Prop} (hu : A.units + 1 < cLine) (X : K.In s.heap) (I : PySem.W.InstAt s.heap x ox C od) (hb : PySem.W.Looks (model prog w) s.heap (typeOf b) tb) (hn : PySem.W.notFirst K C tb = true)
    (hs : PySem.W.findIn K (.ref C) "__ne__" = some (some (.builtin "object.__ne__"))) (hm : PySem.W.mroIn K C (.type "object") = some true) (he : PySem.W.findIn K (.ref C) "__eq__" = some (some (.ref f))) (hf : PySem.W.isFn K (.ref f) = true)
    (h : wpAny (model prog w) A.in1 (call (.ref f) [.ref x, b]) (fun v s' => ∃ b, v = .bool b ∧ Q (.bool (!b)) s') E s) : wpAny (model prog w) A (richCompare .NotEq (.ref x) b) Q E s := by
  have one : wpAny (model prog w) A (tryCompare (.ref x) "__ne__" b) (fun r s' => ∃ v, r = some v ∧ Q v s') E s := by
    unfold tryCompare
    refine wpAny_bind (ifBound_objNe X I hs (wpAny_call (codeAny_call_builtin F.cmp_object.ne.plain F.cmpEntry_ne (PySem.W.check_slot F.cmpKind_ne F.cmpSplit_ne (I.type.andThen (PySem.W.looks_mroIn X hm)) (F.cmpArgs_ne _ _)
      (entry_neV (A := A.in1) (by show A.units + 1 < cLine; exact hu) X I he hf (wpAny_mono h (fun v s' hv => ?_) fun _ _ e => e))))))
    obtain ⟨b, rfl, hq⟩ := hv
    first | exact ⟨b, rfl, wpAny_pure ⟨_, rfl, hq⟩⟩ | exact ⟨b, rfl, wpAny_pure (wpAny_pure ⟨_, rfl, hq⟩)⟩
  unfold richCompare
  simp only [oneThing_ref]
  refine wpAny_holding (wpAny_bind (wpAny_cRoomFor (Nat.lt_of_succ_lt hu) ?_))
  rw [cmpInfo_NotEq]
  dsimp only
  refine wpAny_bind (I.type.here (wpAny_bind (hb.here ?_)))
  split
  · rename_i q
    have e : PySem.W.subIn K tb (.ref C) = some false := by
      rcases Bool.or_eq_true_iff.mp hn with e | e
      · rw [beq_iff_eq.mp e] at q; simp at q
      · exact beq_iff_eq.mp e
    refine wpAny_bind ((PySem.W.looks_subIn X e).here ?_)
    simp only [Bool.false_eq_true, if_false]
    refine wpAny_bind (wpAny_mono one (fun r s' z => ?_) fun _ _ e => e)
    obtain ⟨v, rfl, hq⟩ := z
    exact wpAny_pure hq
  · refine wpAny_bind (wpAny_pure ?_)
    simp only [Bool.false_eq_true, if_false]
    refine wpAny_bind (wpAny_mono one (fun r s' z => ?_) fun _ _ e => e)
    obtain ⟨v, rfl, hq⟩ := z
    exact wpAny_pure hq
end
end NeX
namespace MP
open PySem PySem.Spec PyProof.Rows L2
variable [TabsP] [ThkP]
section
variable {X : Cx} {W : WX} {K : PySem.W.Frag} {DR : DRel} {N0 : Ent} {F H : Hp} {Ad : List Addr} {M : List D} {env : EnvM} {σ : St} {Q : VK} {pos p apos : Pos} {k n : Nat} {g : Addr} {dd : List D} {c : List D → List D → R} {ks : List Str} {ix : List Nat} {kws : List Keyword} {l2 : LF}
theorem run_fnQc {np : Nat} {pins : List (Addr × Obj)} {s : Shared} {us ws : List Value} {vs zs : List V} {ds es : List D} (Fk : FnQ X.prog X.w X.K X.mg X.base DR k n np ks ix g dd c) (hr : MP.Room k X.A) (hx : Pas X W) (I : Inv X pins σ H s) (mm : MemOk X.K F Ad M H)
    (r : Vals vs us) (x : DenL X.K F Ad vs ds) (r2 : Vals zs ws) (x2 : DenL X.K F Ad zs es)
    (h : RP X.K (fun c d H => W c d σ H) DR F Ad H Q (apQ c n np ks.length ix dd ds es M)) : codeAny (model X.prog X.w) X.A (.call (.ref g) ⟨us, ks.zip ws⟩) (fun r s' => match r with | .ok (.ret v) => EP X pins σ Q v s' | .ok _ => False | .error e => X.xe e s') s := by
  obtain ⟨fd, ps, dvs, dds, Fo, hb, hv, hd, hk⟩ := Fk.ex
  unfold apQ at h
  split at h
  · rename_i hn
    obtain ⟨h1, h2, h3⟩ := hn
    have xx := denL_pick ((x.append x2).append (hd F Ad)) ix
    have rr := vals_pick ((r.append r2).append hv) ix
    refine codeAny_mono (Fo.run X.A X.stack s H ⟨us, ks.zip ws⟩ _ _ Q _ hr I.env0 (hb s us ws I.kIn (by rw [← r.length, x.length, h1]) (by rw [← r2.length, x2.length, h2])) rr ⟨by rw [xx.length]; exact h3, F, Ad, M, _, mm, xx, h⟩) fun r s' hq => ?_
    have z := cr_here (hx σ) I hq
    cases r with
    | error er => exact z
    | ok fl => cases fl with
      | ret u => exact z
      | _ => exact z.elim
  · exact h.elim
def eCMQ (cn : Str) (c : List D → List D → R) (n nk : Nat) (ix : List Nat) (dd : List D) (l2 : LF) : EF := fun env M => (l2 env M).bind fun ys M1 => apQ c n 1 nk ix dd [.cls cn] ys M1
theorem s_cmethQ (dr : DRok DR) {y cn m : Str} {q : Addr} {pl : Sem Bool} (hc : CmOf X.K (He.ga X.K cn) m q g) (Fk : FnQ X.prog X.w X.K X.mg X.base DR k n 1 ks ix g dd c) (hr : MP.Room k X.A) (hx : Pas X W) (ho : PE X (.Name y p) (fun _ H Q => Q (.ref (He.ga X.K cn)) H)) (hkw : SK X W kws l2)
    (hall : (backToKw pos (keywordEach kws X.env)).all (·.1.isSome) = true := by rfl) (hks : (backToKw pos (keywordEach kws X.env)).filterMap (·.1) = ks := by rfl)
    (hpl : ((backTo pos (starEach [] X.env)).any (·.1) || (backToKw pos (keywordEach kws X.env)).any (·.1.isNone)) = false := by rfl)
    (ht : eval (.Call (.Attribute (.Name y p) m apos) [] kws pos) X.env = (do
      let ov ← eval (.Name y p) X.env
      standAt apos.atName
      let (f, first) ← holding [ov] (getMethod ov m pl)
      callWith pos f first (backTo pos (starEach [] X.env)) (backToKw pos (keywordEach kws X.env))) := by rfl) : PE X (.Call (.Attribute (.Name y p) m apos) [] kws pos) (tG X.K W DR (eCMQ cn c n ks.length ix dd l2)) := by
  refine ⟨fun pins s σ H Q I ⟨N0, F, Ad, M, env, mm, en, r⟩ => ?_⟩
  refine PySem.W.methodCall_KW (pl := pl) (thn (ho.run pins s σ H (fun v H1 => v = .ref (He.ga X.K cn) ∧ H1 = H) I ⟨rfl, rfl⟩) fun u s1 ⟨x, H1, I1, rx, q1⟩ => ?_) ht
  obtain ⟨rfl, rfl⟩ := q1
  obtain rfl : u = Value.ref _ := rx
  refine ClX.getmethcm_ok I1 ⟨hc.rd, hc.ga⟩ ⟨hc.at_, hc.rc, hc.fi⟩ fun s2 I2 => ?_
  refine PySem.W.callWith_of hpl (PySem.W.keeps_M hc.fi) (evalArgs_kw2_nil hall (thn (hkw.run pos _ s2 σ _ _ I2 (tL_seq dr mm en r (Q' := fun zs H2 => ∃ F2 Ad2 M2 es, MemOk X.K F2 Ad2 M2 H2 ∧ DenL X.K F2 Ad2 zs es ∧ RP X.K (fun c d H => W c d σ H) DR F2 Ad2 H2 Q (apQ c n 1 ks.length ix dd [.cls cn] es M2)) fun es M2 zs F2 Ad2 H2 g2 m2 en2 x2 r2 =>
      ⟨F2, Ad2, M2, es, m2, x2, r2⟩)) fun ws s3 ⟨zs, H2, I3, rz, F2, Ad2, M2, es, m2, x2, r2⟩ => ⟨⟨ClX.pin_at I3, I3.kIn⟩, ?_⟩))
  rw [hks]
  have z : wpAny (model X.prog X.w) X.A (call (.ref s1.heap.objs.size) ([] ++ []) (ks.zip ws)) (EP X ((s1.heap.objs.size, PySem.W.methodObj (.ref g) (.ref (He.ga X.K cn))) :: pins) σ Q) X.xe s3 :=
    wpAny_call (PySem.W.method_call (ClX.pin_at I3) (run_fnQc (us := [.ref (He.ga X.K cn)]) (vs := [.ref (He.ga X.K cn)]) Fk hr hx I3 m2 (.cons rfl .nil) (.cons .cls .nil) rz x2 r2))
  exact thn z fun _ _ y => ClX.unpinE y
def othT : D → Option String
  | .non => some "NoneType" | .bl _ => some "bool" | .int _ => some "int" | .str _ => some "str" | .tup _ => some "tuple" | .lst _ => some "list" | .dK _ => some "dict" | _ => none
def NtF (K : PySem.W.Frag) (cn : Str) : Prop := ∀ t ∈ tyNs, PySem.W.kitOne K (.type t) (.ref (He.ga K cn)) = some false
theorem ntF_first {cn : Str} {t : String} (h : NtF K cn) (ht : t ∈ tyNs) : PySem.W.notFirst K (He.ga K cn) (.type t) = true := by
  have e := h t ht
  unfold PySem.W.kitOne at e
  rw [if_neg (by simp)] at e
  unfold PySem.W.kitCls at e
  dsimp only at e
  split at e
  · unfold PySem.W.notFirst
    rw [e]
    simp
  · cases e
theorem oth_type {t : String} {d : D} {v : V} {u : Value} {pins : List (Addr × Obj)} {s : Shared} (I : Inv X pins σ H s) (m : MemOk X.K F Ad M H) (x : DV X.K F Ad H v d) (r : RelV v u) (e : othT d = some t) : PySem.W.Looks (model X.prog X.w) s.heap (typeOf u) (.type t) ∧ t ∈ tyNs := by
  cases d with
  | non => cases e; rw [x.non] at r; obtain rfl : u = Value.none := r; exact ⟨PySem.W.Looks.of_pure rfl, by decide⟩
  | bl b => cases e; rw [x.bl] at r; obtain rfl : u = Value.bool b := r; exact ⟨PySem.W.Looks.of_pure rfl, by decide⟩
  | int i => cases e; rw [x.int] at r; obtain ⟨t, rfl⟩ := (show ∃ t, u = Value.int i t from r); exact ⟨PySem.W.Looks.of_pure rfl, by decide⟩
  | str z => cases e; rw [x.str] at r; obtain ⟨t, rfl⟩ := (show ∃ t, u = Value.str z t from r); exact ⟨PySem.W.Looks.of_pure rfl, by decide⟩
  | tup ys =>
    cases e
    obtain ⟨a, vs, rfl, h1, h2⟩ := x.tup m
    obtain rfl : u = Value.ref a := r
    obtain ⟨its, rv, ⟨o, ho, hc, n, hd⟩, _⟩ := I.tuple h1
    exact ⟨fun A Q E s k q => wpAny_typeOf_ref (k _ _ ho) (by rw [hc]; exact q), by decide⟩
  | lst ys =>
    cases e
    obtain ⟨a, vs, rfl, h1, h2⟩ := x.lst m
    obtain rfl : u = Value.ref a := r
    obtain ⟨its, n, rv, ho, _⟩ := I.lst h1
    exact ⟨fun A Q E s k q => wpAny_typeOf_ref (k _ _ ho) q, by decide⟩
  | dK kvs =>
    cases e
    obtain ⟨a, vs, rfl, h1, h2⟩ := x.dK m
    obtain rfl : u = Value.ref a := r
    obtain ⟨hz, hsm, ws, r1, o, es, epp, g1, g2, g3, g4, g5, g6⟩ := dk_rd I.hok h1
    exact ⟨fun A Q E s k q => wpAny_typeOf_ref (k _ _ g1) (by rw [g2.1]; exact q), by decide⟩
  | _ => cases e
def oEqX (cn : Str) (c : List D → List D → R) (x y : D) (M : List D) : R := if insOf cn (view M x) = true ∧ (othT (view M y)).isSome = true then (match apC c 2 [] [x, y] M with
  | .ok (.bl b) M' => .ok (.bl b) M'
  | .exc e M' => .exc e M'
  | _ => .stuck) else .stuck
def oNeX (cn : Str) (c : List D → List D → R) (x y : D) (M : List D) : R := if insOf cn (view M x) = true ∧ (othT (view M y)).isSome = true then (match apC c 2 [] [x, y] M with
  | .ok (.bl b) M' => .ok (.bl (!b)) M'
  | .exc e M' => .exc e M'
  | _ => .stuck) else .stuck
theorem op2e_eqX {cn : Str} (hn : NtF X.K cn) (hm : Meth X.K (He.ga X.K cn) "__eq__" g) (Fk : FnX X (DE X.K) k 2 g [] c) (hr : MP.Room k X.A) (hx : Pas X W) : Op2E X W (DE X.K) (compareOp .Eq) (oEqX cn c) := by
  intro pins s σ H F Ad M x y v u dx dy Q I m rx ry x1 x2 r
  unfold oEqX at r
  split at r
  · rename_i hh
    obtain ⟨fs, e1⟩ := insOf_ok hh.1
    obtain ⟨t, et⟩ := Option.isSome_iff_exists.mp hh.2
    have ax := DB.view (H0 := H) m (.inl x1)
    have ay := DB.view (H0 := H) m (.inl x2)
    rw [e1] at ax
    obtain ⟨a, da, va, rfl, ha, _⟩ := ax.ins m
    obtain ⟨hb, ht⟩ := oth_type I m ay ry et
    cases rx
    obtain ⟨mA, J, _⟩ := ins_get I.hok ha
    obtain ⟨od, J, _⟩ := J.look
    obtain ⟨mm, hF⟩ := I.fr
    show wpAny (model X.prog X.w) X.A (richCompare .Eq (.ref a) u) (EP X pins σ Q) X.xe s
    refine PySem.W.cmp_K (op := .Eq) (tb := .type t) hr.units0 hF I.ok.mod.kin J hb (ntF_first hn ht) hm.at_ hm.fn ?_
    have rr : RP X.K (fun c d H => W c d σ H) (DE X.K) F Ad H (fun z H' => (∃ q, z = .bl q) ∧ Q z H') (apC c 2 [] [dx, dy] M) := by
      cases q : apC c 2 [] [dx, dy] M with
      | ok d M' =>
        rw [q] at r
        cases d with
        | bl bb => exact fun z F' Ad' H' g' m' xx => ⟨⟨bb, by cases xx; rfl⟩, r z F' Ad' H' g' m' xx⟩
        | _ => exact r.elim
      | exc e M' => rw [q] at r; exact r
      | stuck => rw [q] at r; exact r
    refine wpAny_mono (run_fnK Fk hr hx I m (.cons (show L2.RelV (.ref a) (.ref a) from rfl) (.cons ry .nil)) (.cons x1 (.cons x2 .nil)) rr) (fun z s' ⟨zv, H', I', rz, ⟨q, eq⟩, hq⟩ => ?_) fun _ _ h => h
    subst eq
    cases rz
    exact ⟨.bl q, H', I', rfl, hq⟩
  · exact r.elim
theorem op2e_neX {cn : Str} (hn : NtF X.K cn) (ho : NeO X.K cn) (hm : Meth X.K (He.ga X.K cn) "__eq__" g) (Fk : FnX X (DE X.K) k 2 g [] c) (hr : MP.Room (k + 1) X.A) (hx : Pas X W) : Op2E X W (DE X.K) (compareOp .NotEq) (oNeX cn c) := by
  intro pins s σ H F Ad M x y v u dx dy Q I m rx ry x1 x2 r
  unfold oNeX at r
  split at r
  · rename_i hh
    obtain ⟨fs, e1⟩ := insOf_ok hh.1
    obtain ⟨t, et⟩ := Option.isSome_iff_exists.mp hh.2
    have ax := DB.view (H0 := H) m (.inl x1)
    have ay := DB.view (H0 := H) m (.inl x2)
    rw [e1] at ax
    obtain ⟨a, da, va, rfl, ha, _⟩ := ax.ins m
    obtain ⟨hb, ht⟩ := oth_type I m ay ry et
    cases rx
    obtain ⟨mA, J, _⟩ := ins_get I.hok ha
    obtain ⟨od, J, _⟩ := J.look
    show wpAny (model X.prog X.w) X.A (richCompare .NotEq (.ref a) u) (EP X pins σ Q) X.xe s
    refine NeX.ne_KV (by have := hr.units; omega) I.kIn J hb (ntF_first hn ht) ho.ne ho.mo hm.at_ hm.fn ?_
    have rr : RP X.K (fun c d H => W c d σ H) (DE X.K) F Ad H (fun z H' => ∃ q, z = .bl q ∧ Q (.bl (!q)) H') (apC c 2 [] [dx, dy] M) := by
      cases q : apC c 2 [] [dx, dy] M with
      | ok d M' =>
        rw [q] at r
        cases d with
        | bl bb => exact fun z F' Ad' H' g' m' xx => ⟨bb, by cases xx; rfl, r _ F' Ad' H' g' m' .bl⟩
        | _ => exact r.elim
      | exc e M' => rw [q] at r; exact r
      | stuck => rw [q] at r; exact r
    refine wpAny_mono (run_fnK1 Fk hr hx I m (.cons (show L2.RelV (.ref a) (.ref a) from rfl) (.cons ry .nil)) (.cons x1 (.cons x2 .nil)) rr) (fun z s' ⟨zv, H', I', rz, q, eq, hq⟩ => ?_) fun _ _ h => h
    subst eq
    cases rz
    exact ⟨q, rfl, .bl (!q), H', I', rfl, hq⟩
  · exact r.elim
end
end MP
set_option maxRecDepth 100000
set_option maxHeartbeats 1000000
namespace MP
open PySem PySem.Spec PyProof.Rows L2
variable [TabsP] [ThkP]
section
variable {X : Cx} {W : WX} {K : PySem.W.Frag} {DR : DRel} {N0 : Ent} {F H : Hp} {Ad : List Addr} {M : List D} {env : EnvM} {σ : St} {Q : VK} {a b c d : Expr} {fa fb fc fd : EF} {pos : Pos}
end
end MP
set_option maxRecDepth 100000
set_option maxHeartbeats 1000000
namespace MP
open PySem PySem.Spec PyProof.Rows L2
variable [TabsP] [ThkP]
theorem inq_ofT {P : Program} {w : World} {K : PySem.W.Frag} {mg : Str → Option Value} {base : Heap} {k n np : Nat} {ks ps : List Str} {ix : List Nat} {cn : Str} {g : Addr} {c : List D → List D → R} {x qual : Str} {params : Arguments} {body : List Stmt} {scope : Scope} {dvs : List V} {kws : List (Str × V)} {fd : FuncData}
    (Mm : Mk K (He.ga K cn) g) (Fd : FunD K x qual params body scope dvs kws g fd) (Fo : MP.FnOk P w K mg base (L2.CX P w) k g fd ps (spI K cn n c)) (hd : dvs ≠ [])
    (h : ∀ (T : Addr) (kV doc pm : Value) (an : Option Addr) (cdv ct self : Value) (us its ws : List Value), us.length = np → its.length = dvs.length → ws.length = ks.length →
      ∃ k, bindArgs (PySem.W.fnOf x qual params body scope (.ref T) kV doc pm an cdv ct) ⟨self :: us, ks.zip ws⟩ = seqItems? (.ref T) >>= k ∧ k (some its.toArray) = pure (ps.zip (self :: pickL ix (us ++ ws)))) :
    InQ P w K mg base k n np ks ix cn g [] c := by
  obtain ⟨oc, od, dV, kV, doc, pm, an, cdv, ct, osl, rfl, lk, hcd, hD, hK⟩ := Fd.ex
  rcases hD with ⟨e, _⟩ | ⟨_, T, o, its, m, rfl, lT, oT, rT⟩
  · exact absurd e hd
  · exact ⟨Mm, _, ps, [], [], Fo, fun s self us ws X h1 h2 => by
      rw [List.append_nil]
      obtain ⟨k, e1, e2⟩ := h T kV doc pm an cdv ct self us its ws h1 rT.length.symm h2
      exact BindsTo.of_looks fun M => by
        rw [e1]
        exact looks_items X lT oT (.of_pure e2), .nil, fun _ _ => .nil⟩
end MP
set_option maxRecDepth 100000
set_option maxHeartbeats 1000000
namespace HP
open PySem L2
def hauls (n : Nat) : List (Nat × Nat) := (List.range (n - 1)).flatMap fun i => (List.range (n - (i + 1))).map fun k => (i, i + 1 + k)
theorem mem_hauls {n i j : Nat} : (i, j) ∈ hauls n ↔ i < j ∧ j < n := by
  simp only [hauls, List.mem_flatMap, List.mem_map, List.mem_range, Prod.mk.injEq]
  constructor
  · rintro ⟨a, h1, k, h2, rfl, rfl⟩; omega
  · rintro ⟨h1, h2⟩; exact ⟨i, by omega, j - (i + 1), by omega, rfl, by omega⟩
theorem hauls_lt {n : Nat} {h : Nat × Nat} (m : h ∈ hauls n) : h.1 < h.2 ∧ h.2 < n := mem_hauls.mp m
theorem nodup_flat {α β : Type} {f : α → List β} : ∀ {l : List α}, l.Nodup → (∀ a ∈ l, (f a).Nodup) → (∀ a ∈ l, ∀ b ∈ l, a ≠ b → ∀ x, x ∈ f a → x ∉ f b) → (l.flatMap f).Nodup
  | [], _, _, _ => by simp
  | a :: l, h, h1, h2 => by
    rw [List.flatMap_cons, List.nodup_append]
    rw [List.nodup_cons] at h
    refine ⟨h1 a (by simp), nodup_flat h.2 (fun b hb => h1 b (by simp [hb])) (fun b hb c hc => h2 b (by simp [hb]) c (by simp [hc])), fun x hx y hy e => ?_⟩
    subst e
    obtain ⟨b, hb, hxb⟩ := List.mem_flatMap.mp hy
    exact h2 a (by simp) b (by simp [hb]) (fun e => h.1 (e ▸ hb)) x hx hxb
theorem hauls_nodup (n : Nat) : (hauls n).Nodup := by
  refine nodup_flat List.nodup_range (fun a _ => ?_) fun a _ b _ ne x hx hy => ?_
  · refine List.Pairwise.map _ (fun x y ne e => ?_) List.nodup_range
    simp at e; exact ne e
  · obtain ⟨k, _, rfl⟩ := List.mem_map.mp hx
    obtain ⟨l, _, e⟩ := List.mem_map.mp hy
    simp at e; exact ne e.1.symm
theorem hauls_len (n : Nat) (h : n ≤ 10) : (hauls n).length ≤ 45 := by
  match n, h with
  | 0, _ | 1, _ | 2, _ | 3, _ | 4, _ | 5, _ | 6, _ | 7, _ | 8, _ | 9, _ | 10, _ => decide
def leO (a b : Option Int) : Prop := ∀ y, b = some y → ∃ x, a = some x ∧ x ≤ y
theorem leO.refl (a : Option Int) : leO a a := fun y h => ⟨y, h, Int.le_refl y⟩
theorem leO.trans {a b c : Option Int} (h : leO a b) (k : leO b c) : leO a c := fun y e => by
  obtain ⟨x, e1, l1⟩ := k y e
  obtain ⟨z, e2, l2⟩ := h x e1
  exact ⟨z, e2, by omega⟩
theorem leO.anti {a b : Option Int} (h : leO a b) (k : leO b a) : a = b := by
  cases b with
  | some y =>
    obtain ⟨x, e1, l1⟩ := h y rfl
    subst e1
    obtain ⟨z, e2, l2⟩ := k x rfl
    cases e2
    congr 1; omega
  | none =>
    cases a with
    | none => rfl
    | some x => obtain ⟨z, e2, _⟩ := k x rfl; cases e2
theorem leO.none {a : Option Int} : leO a none := fun _ h => nomatch h
theorem leO.some_ {x y : Int} (h : x ≤ y) : leO (some x) (some y) := fun z e => by cases e; exact ⟨x, rfl, h⟩
def addO : Option Int → Option Int → Option Int
  | some x, some y => some (x + y)
  | _, _ => none
def minO : Option Int → Option Int → Option Int
  | none, b => b
  | a, none => a
  | some x, some y => some (min x y)
theorem minO_l {a b : Option Int} : leO (minO a b) a := fun y e => by
  subst e
  cases b with
  | none => exact ⟨y, rfl, Int.le_refl y⟩
  | some z => exact ⟨min y z, rfl, Int.min_le_left y z⟩
theorem le_minO {t a b : Option Int} (h : leO t a) (k : leO t b) : leO t (minO a b) := fun y e => by
  cases a with
  | none => exact k y e
  | some x =>
    cases b with
    | none => exact h y e
    | some z =>
      cases e
      obtain ⟨p, e1, l1⟩ := h x rfl
      obtain ⟨q, e2, l2⟩ := k z rfl
      rw [e1] at e2
      cases e2
      exact ⟨p, e1, by omega⟩
theorem addO_mono {a b c d : Option Int} (h : leO a c) (k : leO b d) : leO (addO a b) (addO c d) := fun y e => by
  cases c with
  | none => cases e
  | some x =>
    cases d with
    | none => cases e
    | some z =>
      cases e
      obtain ⟨p, e1, l1⟩ := h x rfl
      obtain ⟨q, e2, l2⟩ := k z rfl
      subst e1 e2
      exact ⟨p + q, rfl, by omega⟩
abbrev Tab := Nat → Nat → Option Int
def At (n i j : Nat) : Prop := i < j ∧ j < n
structure Keeps (w : Str) (n : Nat) (f : Tab) : Prop where
  long : w ≠ "parts" → ∀ i j k l, k ≤ i → i < j → j ≤ l → l < n → leO (f i j) (f k l)
  parts : w ≠ "long" → ∀ i j k, i < j → j < k → k < n → leO (f i k) (addO (f i j) (f j k))
def Below (n : Nat) (f g : Tab) : Prop := ∀ i j, At n i j → leO (f i j) (g i j)
structure IsCl (w : Str) (n : Nat) (g c : Tab) : Prop where
  below : Below n c g
  keeps : Keeps w n c
  top : ∀ t, Keeps w n t → Below n t g → Below n t c
theorem IsCl.uniq {w : Str} {n : Nat} {g c d : Tab} (h : IsCl w n g c) (k : IsCl w n g d) : ∀ i j, At n i j → c i j = d i j := fun i j v =>
  (k.top c h.keeps h.below i j v).anti (h.top d k.keeps k.below i j v)
theorem IsCl.self {w : Str} {n : Nat} {c : Tab} (h : Keeps w n c) : IsCl w n c c := ⟨fun _ _ _ => leO.refl _, h, fun _ _ b => b⟩
theorem IsCl.congr {w : Str} {n : Nat} {g g' c : Tab} (h : IsCl w n g c) (e : ∀ i j, At n i j → g i j = g' i j) : IsCl w n g' c :=
  ⟨fun i j v => by rw [← e i j v]; exact h.below i j v, h.keeps, fun t k b => h.top t k fun i j v => by rw [e i j v]; exact b i j v⟩
theorem Keeps.congr {w : Str} {n : Nat} {f f' : Tab} (h : Keeps w n f) (e : ∀ i j, At n i j → f i j = f' i j) : Keeps w n f' :=
  ⟨fun hw i j k l h1 h2 h3 h4 => by rw [← e i j ⟨h2, by omega⟩, ← e k l ⟨by omega, h4⟩]; exact h.long hw i j k l h1 h2 h3 h4,
   fun hw i j k h1 h2 h3 => by rw [← e i k ⟨by omega, h3⟩, ← e i j ⟨h1, by omega⟩, ← e j k ⟨h2, h3⟩]; exact h.parts hw i j k h1 h2 h3⟩
def NN (n : Nat) (g : Tab) : Prop := ∀ i j v, At n i j → g i j = some v → 0 ≤ v
theorem IsCl.nn {w : Str} {n : Nat} {g c : Tab} (h : IsCl w n g c) (hg : NN n g) : NN n c := fun i j v a e => by
  have k0 : Keeps w n (fun _ _ => some 0) := ⟨fun _ _ _ _ _ _ _ _ _ => leO.refl _, fun _ _ _ _ _ _ _ => leO.refl _⟩
  obtain ⟨x, e1, l1⟩ := h.top _ k0 (fun i j a y e => ⟨0, rfl, hg i j y a e⟩) i j a v e
  cases e1; exact l1
def fits (w : Str) (a b s : Nat) : Prop := if w = "parts" then a = s else a ≤ s ∧ s < b
instance {w : Str} {a b s : Nat} : Decidable (fits w a b s) := by unfold fits; exact inferInstance
inductive Way (w : Str) (n : Nat) (g : Tab) (i : Nat) : Nat → Int → List (Nat × Nat) → Prop
  | nil : Way w n g i i 0 []
  | snoc {s c cs a b p} : Way w n g i s c cs → At n a b → g a b = some p → fits w a b s → Way w n g i b (c + p) (cs ++ [(a, b)])
theorem fits_lt {w : Str} {n a b s : Nat} (v : At n a b) (h : fits w a b s) : s < b := by
  unfold fits at h
  split at h
  · subst h; exact v.1
  · exact h.2
section
variable {w : Str} {n : Nat} {g : Tab} {i e : Nat} {c : Int} {cs : List (Nat × Nat)}
theorem Way.ge (h : Way w n g i e c cs) : i ≤ e := by
  induction h with
  | nil => exact Nat.le_refl _
  | snoc _ v _ f ih => have := fits_lt v f; omega
theorem Way.nn (hg : NN n g) (h : Way w n g i e c cs) : 0 ≤ c := by
  induction h with
  | nil => exact Int.le_refl _
  | snoc _ v hp f ih => have := hg _ _ _ v hp; omega
theorem Way.lt (h : Way w n g i e c cs) (hi : i < n) : e < n := by
  cases h with
  | nil => exact hi
  | snoc _ v _ _ => exact v.2
theorem Way.app (hw : w = "parts") {j f : Nat} {d : Int} {ds : List (Nat × Nat)} (h : Way w n g i j c cs) (k : Way w n g j f d ds) : Way w n g i f (c + d) (cs ++ ds) := by
  induction k with
  | nil => simpa using h
  | snoc _ v hp f ih =>
    have := Way.snoc ih v hp f
    rw [Int.add_assoc, List.append_assoc] at this
    exact this
theorem Way.shift (hw : w ≠ "parts") (hg : NN n g) {j e f : Nat} {d : Int} {ds : List (Nat × Nat)} (h : Way w n g i e c cs) (hj : j ≤ e) (k : Way w n g j f d ds) : ∃ f' d' ds', f ≤ f' ∧ d' ≤ c + d ∧ Way w n g i f' d' ds' := by
  induction k with
  | nil => exact ⟨e, c, cs, hj, by omega, h⟩
  | @snoc s x xs a b p k' v hp fi ih =>
    obtain ⟨f', d', ds', l1, l2, q⟩ := ih
    have hpn := hg a b p v hp
    by_cases hb : b ≤ f'
    · exact ⟨f', d', ds', hb, by omega, q⟩
    · have fi2 : fits w a b f' := by
        unfold fits at fi ⊢
        rw [if_neg hw] at fi ⊢
        omega
      exact ⟨b, d' + p, _, Nat.le_refl _, by omega, q.snoc v hp fi2⟩
theorem Way.top {t : Tab} (ht : Keeps w n t) (hl : w ≠ "long") (b : Below n t g) (hw : w ≠ "parts") (h : Way w n g i e c cs) : ∀ j, i < j → j ≤ e → leO (t i j) (some c) := by
  induction h with
  | nil => intro j h1 h2; omega
  | @snoc s x xs a b' p k v hp fi ih =>
    intro j h1 h2
    have hpt := b a b' v
    rw [hp] at hpt
    unfold fits at fi
    rw [if_neg hw] at fi
    have hx : ∀ j, s < j → j ≤ b' → leO (t s j) (some p) := fun j h1 h2 => (ht.long hw s j a b' fi.1 h1 h2 v.2).trans hpt
    have gs := k.ge
    by_cases hs : j ≤ s
    · by_cases p0 : 0 ≤ p
      · exact (ih j h1 hs).trans (leO.some_ (by omega))
      · -- a price below 0: by the whole haul
        have h3 : leO (t i b') (some (x + p)) := by
          rcases Nat.lt_or_ge i s with z | z
          · have := ht.parts hl i s b' z fi.2 v.2
            exact this.trans (addO_mono (ih s z (Nat.le_refl _)) (hx b' fi.2 (Nat.le_refl _)))
          · omega
        exact (ht.long hw i j i b' (Nat.le_refl _) h1 h2 v.2).trans h3
    · rcases Nat.lt_or_ge i s with z | z
      · exact (ht.parts hl i s j z (by omega) (by have := v.2; omega)).trans (addO_mono (ih s z (Nat.le_refl _)) (hx j (by omega) h2))
      · have e : i = s := by omega
        subst e
        cases k with
        | nil => simpa using hx j h1 h2
        | snoc k2 v2 _ f2 => have := k2.ge; have := fits_lt v2 f2; omega
theorem Way.belowP {t : Tab} (ht : Keeps w n t) (b : Below n t g) (hw : w = "parts") (h : Way w n g i e c cs) : i < e → leO (t i e) (some c) := by
  induction h with
  | nil => intro h; omega
  | @snoc s x xs a b' p k v hp fi ih =>
    intro h1
    have hpt := b a b' v
    rw [hp] at hpt
    unfold fits at fi
    rw [if_pos hw] at fi
    subst fi
    rcases Nat.lt_or_ge i a with z | z
    · exact (ht.parts (by subst hw; decide) i a b' z v.1 v.2).trans (addO_mono (ih z) hpt)
    · have e : i = a := by have := k.ge; omega
      subst e
      cases k with
      | nil => simpa using hpt
      | snoc k2 v2 _ f2 => have := k2.ge; have := fits_lt v2 f2; omega
end
def endsOk (w : Str) (e j : Nat) : Prop := if w = "parts" then e = j else j ≤ e
def Cover (w : Str) (n : Nat) (g : Tab) (i j : Nat) (c : Int) (cs : List (Nat × Nat)) : Prop :=
  if w = "long" then ∃ k l, k ≤ i ∧ j ≤ l ∧ At n k l ∧ g k l = some c ∧ cs = [(k, l)] else ∃ e, Way w n g i e c cs ∧ endsOk w e j
abbrev Wy := Int × List (Nat × Nat)
structure CovOk (w : Str) (n : Nat) (g : Tab) (cov : Nat → Nat → Option Wy) : Prop where
  sound : ∀ i j c cs, At n i j → cov i j = some (c, cs) → Cover w n g i j c cs
  opt : ∀ i j c cs, At n i j → Cover w n g i j c cs → ∃ c' cs', cov i j = some (c', cs') ∧ c' ≤ c
def costO (o : Option Wy) : Option Int := o.map (·.1)
def words : List Str := ["both", "long", "parts"]
theorem CovOk.cl {w : Str} {n : Nat} {g : Tab} (hg : NN n g) {cov : Nat → Nat → Option Wy} (h : CovOk w n g cov) : IsCl w n g (fun i j => costO (cov i j)) := by
  have le_of : ∀ {i j c cs y}, At n i j → Cover w n g i j c cs → c ≤ y → ∃ x, costO (cov i j) = some x ∧ x ≤ y := fun {i j c cs y} a q ly => by
    obtain ⟨c', cs', e, l⟩ := h.opt i j c cs a q
    rw [e]; exact ⟨c', rfl, by omega⟩
  have get : ∀ {i j y}, At n i j → costO (cov i j) = some y → ∃ cs, Cover w n g i j y cs := fun {i j y} a e => by
    cases q : cov i j with
    | none => rw [q] at e; cases e
    | some p => rw [q] at e; cases e; exact ⟨p.2, h.sound i j p.1 p.2 a q⟩
  have one : ∀ {i j y}, At n i j → g i j = some y → Cover w n g i j y [(i, j)] := fun {i j y} a e => by
    unfold Cover
    split
    · exact ⟨i, j, Nat.le_refl _, Nat.le_refl _, a, e, rfl⟩
    · have f : fits w i j i := by unfold fits; split <;> have := a.1 <;> omega
      have := Way.snoc (Way.nil (w := w) (n := n) (g := g) (i := i)) a e f
      exact ⟨j, by simpa using this, by unfold endsOk; split <;> simp⟩
  refine ⟨fun i j a y e => le_of a (one a e) (Int.le_refl _), ⟨fun hp i j k l h1 h2 h3 h4 y e => ?_, fun hl i j k h1 h2 h3 y e => ?_⟩, fun t kt bt i j a y e => ?_⟩
  · obtain ⟨cs, q⟩ := get ⟨by omega, h4⟩ e
    have a : At n i j := ⟨h2, by omega⟩
    unfold Cover at q
    split at q
    · rename_i hl
      obtain ⟨p, r, e1, e2, e3, e4, _⟩ := q
      exact le_of a (cs := [(p, r)]) (by unfold Cover; rw [if_pos hl]; exact ⟨p, r, by omega, by omega, e3, e4, rfl⟩) (Int.le_refl _)
    · rename_i hl
      obtain ⟨f, wy, ef⟩ := q
      unfold endsOk at ef
      rw [if_neg hp] at ef
      obtain ⟨f', d', ds', z1, z2, z3⟩ := Way.shift hp hg (Way.nil (i := i)) h1 wy
      exact le_of a (cs := ds') (by unfold Cover; rw [if_neg hl]; exact ⟨f', z3, by unfold endsOk; rw [if_neg hp]; omega⟩) (by omega)
  · cases q1 : costO (cov i j) with
    | none => rw [q1] at e; cases e
    | some y1 =>
      cases q2 : costO (cov j k) with
      | none => rw [q1, q2] at e; cases e
      | some y2 =>
        rw [q1, q2] at e
        cases e
        obtain ⟨cs, s1⟩ := get ⟨h1, by omega⟩ q1
        obtain ⟨ds, s2⟩ := get ⟨h2, h3⟩ q2
        have a : At n i k := ⟨by omega, h3⟩
        unfold Cover at s1 s2
        rw [if_neg hl] at s1 s2
        obtain ⟨e1, w1, f1⟩ := s1
        obtain ⟨e2, w2, f2⟩ := s2
        by_cases hp : w = "parts"
        · unfold endsOk at f1 f2
          rw [if_pos hp] at f1 f2
          subst f1 f2
          exact le_of a (cs := cs ++ ds) (by unfold Cover; rw [if_neg hl]; exact ⟨_, w1.app hp w2, by unfold endsOk; rw [if_pos hp]⟩) (Int.le_refl _)
        · unfold endsOk at f1 f2
          rw [if_neg hp] at f1 f2
          obtain ⟨f', d', ds', z1, z2, z3⟩ := Way.shift hp hg w1 f1 w2
          exact le_of a (cs := ds') (by unfold Cover; rw [if_neg hl]; exact ⟨f', z3, by unfold endsOk; rw [if_neg hp]; omega⟩) z2
  · obtain ⟨cs, q⟩ := get a e
    unfold Cover at q
    split at q
    · rename_i hl
      obtain ⟨p, r, e1, e2, e3, e4, _⟩ := q
      have := (kt.long (by rw [hl]; decide) i j p r e1 a.1 e2 e3.2).trans (bt p r e3)
      rw [e4] at this
      exact this y rfl
    · rename_i hl
      obtain ⟨f, wy, ef⟩ := q
      unfold endsOk at ef
      by_cases hp : w = "parts"
      · rw [if_pos hp] at ef
        subst ef
        exact Way.belowP kt bt hp wy a.1 y rfl
      · rw [if_neg hp] at ef
        exact Way.top kt hl bt hp wy j a.1 ef y rfl
end HP
set_option maxRecDepth 100000
set_option maxHeartbeats 1000000
namespace HP
open PySem L2
structure PassOk (w : Str) (n : Nat) (f f' : Tab) : Prop where
  low : Below n f' f
  top : ∀ t, Keeps w n t → Below n t f → Below n t f'
  lng : w ≠ "parts" → ∀ i j k l, k ≤ i → i < j → j ≤ l → l < n → leO (f' i j) (f k l)
  prt : w ≠ "long" → ∀ i j k, i < j → j < k → k < n → leO (f' i k) (addO (f i j) (f j k))
inductive Ch (w : Str) (n : Nat) (g : Tab) : Nat → Tab → Prop
  | zero : Ch w n g 0 g
  | succ {t f f'} : Ch w n g t f → PassOk w n f f' → Ch w n g (t + 1) f'
section
variable {w : Str} {n : Nat} {g f : Tab} {t i e : Nat} {c : Int} {cs : List (Nat × Nat)}
theorem Ch.low (h : Ch w n g t f) : Below n f g := by
  induction h with
  | zero => exact fun _ _ _ => leO.refl _
  | succ _ p ih => exact fun i j a => (p.low i j a).trans (ih i j a)
theorem Ch.top (h : Ch w n g t f) : ∀ u, Keeps w n u → Below n u g → Below n u f := by
  induction h with
  | zero => exact fun _ _ b => b
  | succ _ p ih => exact fun u k b => p.top u k (ih u k b)
theorem Ch.lng (h : Ch w n g t f) (ht : 1 ≤ t) (hw : w ≠ "parts") {i j k l : Nat} (h1 : k ≤ i) (h2 : i < j) (h3 : j ≤ l) (h4 : l < n) : leO (f i j) (g k l) := by
  cases h with
  | zero => omega
  | succ q p => exact (p.lng hw i j k l h1 h2 h3 h4).trans (q.low k l ⟨by omega, h4⟩)
theorem Way.len (h : Way w n g i e c cs) : i + cs.length ≤ e := by
  induction h with
  | nil => simp
  | snoc _ v _ f ih => have := fits_lt v f; simp; omega
theorem Way.ne (h : Way w n g i e c cs) (hi : i < e) : 1 ≤ cs.length := by
  cases h with
  | nil => omega
  | snoc => simp
theorem Ch.both (hg : NN n g) (hl : w ≠ "long") (hw : w ≠ "parts") (k : Way w n g i e c cs) : ∀ {t f}, Ch w n g t f → cs.length ≤ t → ∀ j, i < j → j ≤ e → leO (f i j) (some c) := by
  induction k with
  | nil => intro t f _ _ j h1 h2; omega
  | @snoc s x xs a b p k v hp fi ih =>
    intro t f h hlen j h1 h2
    have pn := hg a b p v hp
    have fi2 : a ≤ s ∧ s < b := by unfold fits at fi; rw [if_neg hw] at fi; exact fi
    simp at hlen
    have hx : ∀ {t f}, Ch w n g t f → 1 ≤ t → ∀ j, s < j → j ≤ b → leO (f s j) (some p) := fun h h0 j h1 h2 => by
      have := h.lng h0 hw fi2.1 h1 h2 v.2
      rw [hp] at this; exact this
    by_cases hs : j ≤ s
    · exact (ih h (by omega) j h1 hs).trans (leO.some_ (by omega))
    · rcases Nat.lt_or_ge i s with z | z
      · have l1 := k.ne z
        cases h with
        | zero => omega
        | succ q pp =>
          exact (pp.prt hl i s j z (by omega) (by have := v.2; omega)).trans (addO_mono (ih q (by omega) s z (Nat.le_refl _)) (hx q (by omega) j (by omega) h2))
      · have es : i = s := by have := k.ge; omega
        subst es
        cases k with
        | nil => simpa using hx h (by omega) j h1 h2
        | snoc k2 v2 _ f2 => have := k2.ge; have := fits_lt v2 f2; omega
theorem Ch.parts (hw : w = "parts") (k : Way w n g i e c cs) : ∀ {t f}, Ch w n g t f → cs.length ≤ t → i < e → leO (f i e) (some c) := by
  induction k with
  | nil => intro t f _ _ h; omega
  | @snoc s x xs a b p k v hp fi ih =>
    intro t f h hlen h1
    have fi2 : a = s := by unfold fits at fi; rw [if_pos hw] at fi; exact fi
    subst fi2
    simp at hlen
    have hx : ∀ {t f}, Ch w n g t f → leO (f a b) (some p) := fun h => by
      have := h.low a b v
      rw [hp] at this; exact this
    rcases Nat.lt_or_ge i a with z | z
    · have l1 := k.ne z
      cases h with
      | zero => omega
      | succ q pp => exact (pp.prt (by rw [hw]; decide) i a b z v.1 v.2).trans (addO_mono (ih q (by omega) z) (hx q))
    · have es : i = a := by have := k.ge; omega
      subst es
      cases k with
      | nil => simpa using hx h
      | snoc k2 v2 _ f2 => have := k2.ge; have := fits_lt v2 f2; omega
theorem Ch.cl (hg : NN n g) {cov : Nat → Nat → Option Wy} (hc : CovOk w n g cov) (h : Ch w n g t f) (ht : n ≤ t) : IsCl w n g f := by
  have c0 := hc.cl hg
  have le : ∀ i j, At n i j → leO (f i j) (costO (cov i j)) := fun i j a y e => by
    cases q : cov i j with
    | none => rw [q] at e; cases e
    | some p =>
      rw [q] at e
      cases e
      have s := hc.sound i j p.1 p.2 a q
      unfold Cover at s
      split at s
      · rename_i hl
        obtain ⟨k, l, e1, e2, e3, e4, _⟩ := s
        have := h.lng (by have := a.1; have := a.2; omega) (by rw [hl]; decide) e1 a.1 e2 e3.2
        rw [e4] at this
        exact this _ rfl
      · rename_i hl
        obtain ⟨f1, wy, ef⟩ := s
        have len := wy.len
        have lt := wy.lt (by have := a.1; have := a.2; omega)
        unfold endsOk at ef
        by_cases hp : w = "parts"
        · rw [if_pos hp] at ef
          subst ef
          exact Ch.parts hp wy h (by omega) a.1 _ rfl
        · rw [if_neg hp] at ef
          exact Ch.both hg hl hp wy h (by omega) j a.1 ef _ rfl
  have ee : ∀ i j, At n i j → costO (cov i j) = f i j := fun i j a => (h.top _ c0.keeps c0.below i j a).anti (le i j a)
  exact ⟨h.low, c0.keeps.congr ee, h.top⟩
theorem Ch.stop (h : Ch w n g t f) {f' : Tab} (p : PassOk w n f f') (e : ∀ i j, At n i j → f' i j = f i j) : IsCl w n g f := by
  refine ⟨h.low, ⟨fun hw i j k l h1 h2 h3 h4 => ?_, fun hw i j k h1 h2 h3 => ?_⟩, h.top⟩
  · rw [← e i j ⟨h2, by omega⟩]; exact p.lng hw i j k l h1 h2 h3 h4
  · rw [← e i k ⟨by omega, h3⟩]; exact p.prt hw i j k h1 h2 h3
end
def up2 (f : Tab) (i j : Nat) (v : Option Int) : Tab := fun a b => if a = i ∧ b = j then v else f a b
theorem up2_same {f : Tab} {i j : Nat} {v : Option Int} : up2 f i j v i j = v := by simp [up2]
theorem up2_ne {f : Tab} {i j a b : Nat} {v : Option Int} (h : ¬ (a = i ∧ b = j)) : up2 f i j v a b = f a b := by simp [up2, h]
structure Mid (w : Str) (n : Nat) (f h : Tab) : Prop where
  low : Below n h f
  top : ∀ t, Keeps w n t → Below n t f → Below n t h
section
variable {w : Str} {n : Nat} {f h : Tab}
theorem Mid.refl : Mid w n f f := ⟨fun _ _ _ => leO.refl _, fun _ _ b => b⟩
theorem Mid.trans {k : Tab} (a : Mid w n f h) (b : Mid w n h k) : Mid w n f k := ⟨fun i j v => (b.low i j v).trans (a.low i j v), fun t q r => b.top t q (a.top t q r)⟩
theorem up_low {i j : Nat} {v : Option Int} : Below n (up2 h i j (minO (h i j) v)) h := fun a b _ => by
  by_cases e : a = i ∧ b = j
  · obtain ⟨rfl, rfl⟩ := e; rw [up2_same]; exact minO_l
  · rw [up2_ne e]; exact leO.refl _
theorem Mid.lng (hw : w ≠ "parts") {i j k l : Nat} (h1 : k ≤ i) (h2 : i < j) (h3 : j ≤ l) (h4 : l < n) : Mid w n h (up2 h i j (minO (h i j) (h k l))) :=
  ⟨up_low, fun t q b a c v => by
    by_cases e : a = i ∧ c = j
    · obtain ⟨rfl, rfl⟩ := e
      rw [up2_same]
      exact le_minO (b a c v) ((q.long hw a c k l h1 h2 h3 h4).trans (b k l ⟨by omega, h4⟩))
    · rw [up2_ne e]; exact b a c v⟩
theorem Mid.prt (hw : w ≠ "long") {i j k : Nat} (h1 : i < j) (h2 : j < k) (h3 : k < n) : Mid w n h (up2 h i k (minO (h i k) (addO (h i j) (h j k)))) :=
  ⟨up_low, fun t q b a c v => by
    by_cases e : a = i ∧ c = k
    · obtain ⟨rfl, rfl⟩ := e
      rw [up2_same]
      exact le_minO (b a c v) ((q.parts hw a j c h1 h2 h3).trans (addO_mono (b a j ⟨h1, by omega⟩) (b j c ⟨h2, h3⟩)))
    · rw [up2_ne e]; exact b a c v⟩
end
end HP
set_option maxRecDepth 100000
set_option maxHeartbeats 1000000
namespace HP
open PySem L2
theorem foldl_inv {α β : Type} {s : β → α → β} (P : List α → β → Prop) : ∀ {xs : List α} {b : β}, P [] b → (∀ pre x post c, xs = pre ++ x :: post → P pre c → P (pre ++ [x]) (s c x)) → P xs (xs.foldl s b) := by
  intro xs b h0 h
  have key : ∀ (post pre : List α) (c : β), xs = pre ++ post → P pre c → P xs (post.foldl s c) := by
    intro post
    induction post with
    | nil => intro pre c e p; rw [e, List.append_nil]; exact p
    | cons x post ih => intro pre c e p; exact ih (pre ++ [x]) (s c x) (by simp [e]) (h pre x post c e p)
  exact key xs [] b rfl h0
section
variable {w : Str} {n : Nat} {f h : Tab} {i j : Nat}
end
end HP
set_option maxRecDepth 100000
set_option maxHeartbeats 1000000
namespace MP
open PySem L2
section
variable {f g fa fb fc fk fv a b c : EF} {l l1 l2 : LF} {env : EnvM} {M : List D} {p q : SF} {i j n : Nat} {d x y : D}
@[simp] theorem view_non : view M .non = .non := rfl
@[simp] theorem view_bl {z} : view M (.bl z) = .bl z := rfl
@[simp] theorem view_str {z} : view M (.str z) = .str z := rfl
@[simp] theorem view_intD {z} : view M (.int z) = .int z := rfl
@[simp] theorem view_tup {z} : view M (.tup z) = .tup z := rfl
@[simp] theorem view_ktp {z} : view M (.ktp z) = .ktp z := rfl
@[simp] theorem view_lst {z} : view M (.lst z) = .lst z := rfl
@[simp] theorem view_dT {z} : view M (.dT z) = .dT z := rfl
@[simp] theorem view_dK {z} : view M (.dK z) = .dK z := rfl
@[simp] theorem eDcT_eq {gd ft fe vs} : eDcT l gd ft fk fe vs env M = (l env M).bind fun ds M1 => dcompT gd ft fk fe (wipeE env vs) ds [] M1 := rfl
@[simp] theorem guD_true {r : R} : guD true r = r := rfl
@[simp] theorem eGet1_eq {fo} : eGet1 fo fk env M = (fo env M).bind fun x M1 => guD (dictD (view M1 x)) ((fk env M1).bind fun y M2 => getR .non (getD (view M2 x) y) M2) := rfl
@[simp] theorem eGet2_eq {fo fd} : eGet2 fo fk fd env M = (fo env M).bind fun x M1 => guD (dictD (view M1 x)) ((fk env M1).bind fun y M2 => (fd env M2).bind fun z M3 => getR z (getD (view M3 x) y) M3) := rfl
@[simp] theorem dictD_dK {z} : dictD (.dK z) = true := rfl
@[simp] theorem dictD_dT {z} : dictD (.dT z) = true := rfl
@[simp] theorem getD_dKi {kvs} {z : Int} : getD (.dK kvs) (.int z) = some (valK kvs (.inl z)) := rfl
@[simp] theorem getD_dKs {kvs} {z : Str} : getD (.dK kvs) (.str z) = some (valK kvs (.inr z)) := rfl
@[simp] theorem getR_some : getR d (some (some x)) M = .ok x M := rfl
@[simp] theorem getR_none : getR d (some none) M = .ok d M := rfl
@[simp] theorem bParO_eq : bParO i j fa fb env M = (fa env M).bindS env fun d M1 => (fb env M1).bindS env fun d2 M2 => setR ((gN i d env).bind (oN j d2)) M2 := rfl
@[simp] theorem bPar3_eq {k} : bPar3 i j k fa fb fc env M = (fa env M).bindS env fun d M1 => (fb env M1).bindS env fun d2 M2 => (fc env M2).bindS env fun d3 M3 => setR (gAll [i, j, k] [d, d2, d3] env) M3 := rfl
def dispR (k : Option Key) (y : D) (M : List D) : R := match k with
  | some k => .ok (.dK [(k, y)]) M
  | none => .stuck
@[simp] theorem dispR_some {k} : dispR (some k) y M = .ok (.dK [(k, y)]) M := rfl
@[simp] theorem eDisp1_eq : eDisp1 fk fv env M = (fk env M).bind fun x M1 => (fv env M1).bind fun y M2 => dispR (keyD x) y M2 := rfl
@[simp] theorem keyD_int {z : Int} : keyD (.int z) = some (.inl z) := rfl
@[simp] theorem keyD_str {z : Str} : keyD (.str z) = some (.inr z) := rfl
def starR (o : Option (List D)) (r : RL) : RL := match o with
  | some ds => r.bindL fun ys M2 => .ok (ds ++ ys) M2
  | none => .stuck
@[simp] theorem starR_some {ds r} : starR (some ds) r = r.bindL fun ys M2 => .ok (ds ++ ys) M2 := rfl
@[simp] theorem lStar_eq : lStar f l env M = (f env M).bindL fun x M1 => starR (starD (view M1 x)) (l env M1) := rfl
@[simp] theorem starD_tup {ds} : starD (.tup ds) = some ds := rfl
@[simp] theorem starD_lst {ds} : starD (.lst ds) = some ds := rfl
@[simp] theorem eCallQ_eq {c n np nk ix dd} : eCallQ c n np nk ix dd l1 l2 env M = (l1 env M).bind fun xs M1 => (l2 env M1).bind fun ys M2 => apQ c n np nk ix dd xs ys M2 := rfl
theorem apQ_of {c : List D → List D → R} {n np nk ix dd xs ys zs} (h : xs.length = np ∧ ys.length = nk ∧ (pickL ix (xs ++ ys ++ dd)).length = n) (e : pickL ix (xs ++ ys ++ dd) = zs) : apQ c n np nk ix dd xs ys M = c zs M := by
  subst e; unfold apQ; rw [if_pos h]
@[simp] theorem apQ_11 {c : List D → List D → R} : apQ c 2 1 1 [0, 1] [] [x] [y] M = c [x, y] M := apQ_of ⟨rfl, rfl, rfl⟩ rfl
@[simp] theorem apQ_02 {c : List D → List D → R} : apQ c 2 0 2 [1, 0] [] [] [x, y] M = c [y, x] M := apQ_of ⟨rfl, rfl, rfl⟩ rfl
@[simp] theorem isN_str {z} : (D.str z).isN = false := rfl
@[simp] theorem isN_bl {z} : (D.bl z).isN = false := rfl
@[simp] theorem isN_lst {z} : (D.lst z).isN = false := rfl
@[simp] theorem isN_dT {z} : (D.dT z).isN = false := rfl
@[simp] theorem isN_ins {z w} : (D.ins z w).isN = false := rfl
@[simp] theorem oEq_str {z w : Str} : oEq (.str z) (.str w) M = .ok (.bl (z == w)) M := rfl
@[simp] theorem oNe_str {z w : Str} : oNe (.str z) (.str w) M = .ok (.bl (!(z == w))) M := rfl
@[simp] theorem forK_cont {gd ds} : forK gd p ds (.cont env M) = forL gd p ds env M := rfl
@[simp] theorem forK_brk {gd ds} : forK gd p ds (.brk env M) = .next env M := rfl
@[simp] theorem endE_exc {x} : endE (.exc x env M) = .exc x M := rfl
theorem forL_pre {α : Type} {gd : D → EnvM → Option EnvM} {b : SF} {enc : α → D} {xs : List α} (P : List α → EnvM → List D → Prop)
    (h : ∀ pre x post env M, xs = pre ++ x :: post → P pre env M → ∃ env1, gd (enc x) env = some env1 ∧ ∃ env2 M2, (b env1 M = .next env2 M2 ∨ b env1 M = .cont env2 M2) ∧ P (pre ++ [x]) env2 M2) {env : EnvM} {M : List D} (h0 : P [] env M) :
    ∃ env2 M2, forL gd b (xs.map enc) env M = .next env2 M2 ∧ P xs env2 M2 := by
  have key : ∀ (post pre : List α) (env : EnvM) (M : List D), xs = pre ++ post → P pre env M → ∃ env2 M2, forL gd b (post.map enc) env M = .next env2 M2 ∧ P xs env2 M2 := by
    intro post
    induction post with
    | nil => intro pre env M e p; exact ⟨env, M, rfl, by rw [e, List.append_nil]; exact p⟩
    | cons x post ih =>
      intro pre env M e p
      obtain ⟨env1, h1, env2, M2, h2, h3⟩ := h pre x post env M e p
      obtain ⟨env3, M3, h4, h5⟩ := ih (pre ++ [x]) env2 M2 (by simp [e]) h3
      refine ⟨env3, M3, ?_, h5⟩
      rw [List.map_cons, forL_cons h1]
      rcases h2 with h2 | h2 <;> rw [h2] <;> exact h4
  exact key xs [] env M rfl h0
theorem compL_map {α : Type} {gd : D → EnvM → Option EnvM} {ft fe : EF} {env0 : EnvM} {enc g : α → D} {M : List D} : ∀ {xs : List α} {acc : List D}, acc.length + xs.length ≤ sizeLine →
    (∀ x ∈ xs, ∃ env1, gd (enc x) env0 = some env1 ∧ ft env1 M = .ok (.bl true) M ∧ fe env1 M = .ok (g x) M) → compL gd ft fe env0 (xs.map enc) acc M = .ok (.lst (acc ++ xs.map g)) M
  | [], acc, _, _ => by simp [compL]
  | x :: xs, acc, hl, h => by
    obtain ⟨env1, h1, h2, h3⟩ := h x (by simp)
    simp at hl
    rw [List.map_cons]
    unfold compL
    rw [h1]
    dsimp only
    rw [h2]
    dsimp only
    rw [h3]
    dsimp only
    rw [if_pos (by omega), compL_map (by simp; omega) fun y hy => h y (by simp [hy])]
    simp
theorem compL_filter {α : Type} {gd : D → EnvM → Option EnvM} {ft fe : EF} {env0 : EnvM} {enc g : α → D} {p : α → Bool} {M : List D} : ∀ {xs : List α} {acc : List D}, acc.length + xs.length ≤ sizeLine →
    (∀ x ∈ xs, ∃ env1, gd (enc x) env0 = some env1 ∧ ft env1 M = .ok (.bl (p x)) M ∧ (p x = true → fe env1 M = .ok (g x) M)) → compL gd ft fe env0 (xs.map enc) acc M = .ok (.lst (acc ++ (xs.filter p).map g)) M
  | [], acc, _, _ => by simp [compL]
  | x :: xs, acc, hl, h => by
    obtain ⟨env1, h1, h2, h3⟩ := h x (by simp)
    simp at hl
    rw [List.map_cons]
    unfold compL
    rw [h1]
    dsimp only
    rw [h2]
    cases q : p x with
    | true =>
      dsimp only
      rw [h3 q]
      dsimp only
      rw [if_pos (by omega), compL_filter (by simp; omega) fun y hy => h y (by simp [hy])]
      simp [q]
    | false =>
      dsimp only
      rw [compL_filter (by omega) fun y hy => h y (by simp [hy])]
      simp [q]
end
theorem valK_map {κ α : Type} [DecidableEq κ] {key : α → κ} {v : α → D} : ∀ {xs : List α} {x : α}, x ∈ xs → (∀ a ∈ xs, ∀ b ∈ xs, key a = key b → a = b) → valK (xs.map fun a => (key a, v a)) (key x) = some (v x)
  | a :: xs, x, h, inj => by
    by_cases e : key a = key x
    · have := inj a (by simp) x h e
      subst this
      simp [valK]
    · have hx : x ∈ xs := by
        rcases List.mem_cons.mp h with z | z
        · exact absurd (by rw [z]) e
        · exact z
      have := valK_map (v := v) hx fun a ha b hb => inj a (by simp [ha]) b (by simp [hb])
      simp only [valK, List.map_cons, List.find?_cons] at this ⊢
      rw [show decide (key a = key x) = false from decide_eq_false e]
      exact this
theorem dcompT_map {α : Type} {gd : D → EnvM → Option EnvM} {ft fk fe : EF} {env0 : EnvM} {enc v : α → D} {kd : α → List D} {key : α → List Key} {M : List D} : ∀ {xs : List α} {acc : List (List Key × D)}, acc.length + xs.length ≤ sizeLine →
    (∀ x ∈ xs, ∃ env1, gd (enc x) env0 = some env1 ∧ ft env1 M = .ok (.bl true) M ∧ fk env1 M = .ok (.tup (kd x)) M ∧ keysD (kd x) = some (key x) ∧ fe env1 M = .ok (v x) M) → (xs.map key).Nodup → (∀ x ∈ xs, ∀ p ∈ acc, p.1 ≠ key x) →
    dcompT gd ft fk fe env0 (xs.map enc) acc M = .ok (.dT (acc ++ xs.map fun x => (key x, v x))) M
  | [], acc, _, _, _, _ => by simp [dcompT]
  | x :: xs, acc, hl, h, hn, ha => by
    obtain ⟨env1, h1, h2, h3, h4, h5⟩ := h x (by simp)
    simp at hl
    rw [List.map_cons, List.nodup_cons] at hn
    have nk : insK acc (key x) (v x) = acc ++ [(key x, v x)] := by
      unfold insK
      rw [if_neg]
      intro z
      obtain ⟨p, hp, e⟩ := List.any_eq_true.mp z
      exact ha x (by simp) p hp (of_decide_eq_true e)
    rw [List.map_cons]
    unfold dcompT
    rw [h1]
    dsimp only
    rw [h2]
    dsimp only
    rw [h3]
    dsimp only
    rw [h4]
    dsimp only
    rw [h5]
    dsimp only
    rw [if_pos (by omega), nk, dcompT_map (by simp; omega) (fun y hy => h y (by simp [hy])) hn.2 fun y hy p hp => ?_]
    · simp
    · rcases List.mem_append.mp hp with z | z
      · exact ha y (by simp [hy]) p z
      · simp at z
        subst z
        intro e
        exact hn.1 (List.mem_map.mpr ⟨y, hy, e.symm⟩)
end MP
namespace HP
open MP PySem L2
abbrev hD (i j : Nat) : D := .tup [.int i, .int j]
abbrev hDp (h : Nat × Nat) : D := hD h.1 h.2
abbrev hK (i j : Nat) : List Key := [.inl (i : Int), .inl (j : Int)]
abbrev hKp (h : Nat × Nat) : List Key := hK h.1 h.2
def tab (n : Nat) (f : Nat → Nat → D) : List (List Key × D) := (hauls n).map fun h => (hKp h, f h.1 h.2)
abbrev tabD (n : Nat) (f : Nat → Nat → D) : D := .dT (tab n f)
def od : Option Int → D
  | none => .non
  | some v => .int v
@[simp] theorem od_none : od none = .non := rfl
@[simp] theorem od_some {v} : od (some v) = .int v := rfl
theorem hK_inj {a b : Nat × Nat} (h : hKp a = hKp b) : a = b := by
  obtain ⟨a1, a2⟩ := a
  obtain ⟨b1, b2⟩ := b
  simp at h
  exact Prod.ext (by show a1 = b1; omega) (by show a2 = b2; omega)
@[simp] theorem keysD_h {i j : Int} : keysD [.int i, .int j] = some [.inl i, .inl j] := rfl
theorem val_tab {n i j : Nat} {f : Nat → Nat → D} (h : At n i j) : valK (tab n f) (hK i j) = some (f i j) :=
  valK_map (key := hKp) (v := fun h => f h.1 h.2) (x := (i, j)) (mem_hauls.mpr h) fun _ _ _ _ => hK_inj
theorem ix_tab {n i j : Nat} {f : Nat → Nat → D} {M : List D} (h : At n i j) : oIx (tabD n f) (.tup [.int i, .int j]) M = .ok (f i j) M := by
  show (match keysD [D.int i, D.int j] with | some k => (match valK (tab n f) k with | some d => R.ok d M | none => .stuck) | none => .stuck) = _
  rw [keysD_h]
  dsimp only
  have := val_tab (f := f) h
  rw [this]
theorem ins_map {κ α : Type} [DecidableEq κ] {key : α → κ} {v : α → D} {xs : List α} {x : α} {y : D} (h : x ∈ xs) (inj : ∀ a ∈ xs, ∀ b ∈ xs, key a = key b → a = b) : insK (xs.map fun a => (key a, v a)) (key x) y = xs.map fun a => (key a, if key a = key x then y else v a) := by
  unfold insK
  rw [if_pos (List.any_eq_true.mpr ⟨(key x, v x), List.mem_map.mpr ⟨x, h, rfl⟩, by simp⟩), List.map_map]
  refine List.map_congr_left fun a _ => ?_
  show (if key a = key x then (key a, y) else (key a, v a)) = _
  split <;> rfl
def upD (f : Nat → Nat → D) (i j : Nat) (v : D) : Nat → Nat → D := fun a b => if a = i ∧ b = j then v else f a b
theorem ins_tab {n i j : Nat} {f : Nat → Nat → D} {v : D} (h : At n i j) : insK (tab n f) (hK i j) v = tab n (upD f i j v) := by
  have := ins_map (key := hKp) (v := fun h => f h.1 h.2) (y := v) (x := (i, j)) (mem_hauls.mpr h) fun _ _ _ _ => hK_inj
  refine this.trans (List.map_congr_left fun a _ => ?_)
  obtain ⟨p, q⟩ := a
  show _ = (hKp (p, q), upD f i j v p q)
  unfold upD
  by_cases e : p = i ∧ q = j
  · rw [if_pos e, if_pos (by rw [e.1, e.2])]
  · rw [if_neg e, if_neg (fun z => e (by have := hK_inj (a := (p, q)) (b := (i, j)) z; simpa using this))]
theorem tab_len {n : Nat} {f : Nat → Nat → D} : (tab n f).length = (hauls n).length := by simp [tab]
theorem keys_tab {n : Nat} {f : Nat → Nat → D} : keysT (tab n f) = (hauls n).map hDp := by
  unfold keysT tab
  rw [List.map_map]
  rfl
theorem hKs_nodup (n : Nat) : ((hauls n).map hKp).Nodup := List.Pairwise.map _ (fun _ _ ne e => ne (hK_inj e)) (hauls_nodup n)
theorem ins_new {n : Nat} {f : Nat → Nat → D} {pre post : List (Nat × Nat)} {x : Nat × Nat} {v : D} (e : hauls n = pre ++ x :: post) : insK (pre.map fun h => (hKp h, f h.1 h.2)) (hKp x) v = (pre.map fun h => (hKp h, f h.1 h.2)) ++ [(hKp x, v)] := by
  unfold insK
  rw [if_neg]
  intro z
  obtain ⟨p, hp, q⟩ := List.any_eq_true.mp z
  obtain ⟨a, ha, rfl⟩ := List.mem_map.mp hp
  have hh : a = x := hK_inj (of_decide_eq_true q)
  subst hh
  have nd := hauls_nodup n
  rw [e, List.nodup_append] at nd
  exact nd.2.2 a ha a (by simp) rfl
theorem sz45 {k : Nat} (h : k ≤ 1000) : k ≤ sizeLine := Nat.le_trans h (by decide)
end HP
set_option maxRecDepth 100000
set_option maxHeartbeats 1000000
namespace HP
open MP PySem L2
def sOk (s : Str) : Bool := s.cps.all (· < 0x110000)
def pl : Nat → D → Bool
  | _, .non => true
  | _, .bl _ => true
  | _, .int i => decide (i.natAbs.log2 < 1920)
  | _, .str s => sOk s
  | k + 1, .tup xs => xs.all (pl k)
  | k + 1, .lst xs => xs.all (pl k)
  | _, _ => false
def wt : Nat → D → Nat
  | _, .int _ => 1921
  | _, .str s => (reprText s).length
  | k + 1, .tup xs => (xs.map (wt k)).sum + 2 * xs.length + 3
  | k + 1, .lst xs => (xs.map (wt k)).sum + 2 * xs.length + 3
  | _, _ => 5
theorem pl_all {k : Nat} (ih : ∀ d, pl k d = true → ∃ p, toPy d = some p ∧ d.pd = some p ∧ p.canLay0 = true ∧ p.depth ≤ k ∧ p.showable = true ∧ p.hasDict = false ∧ rsz p ≤ wt k d) :
    ∀ xs : List D, xs.all (pl k) = true → ∃ ps, toPyL xs = some ps ∧ D.pdL xs = some ps ∧ PyData.canLayAll0 ps = true ∧ PyData.depthAll ps ≤ k ∧ PyData.showableAll ps = true ∧ PyData.hasDictAll ps = false ∧ rszL ps ≤ (xs.map (wt k)).sum ∧ ps.length = xs.length
  | [], _ => ⟨[], rfl, rfl, rfl, Nat.zero_le _, rfl, rfl, Nat.le_refl _, rfl⟩
  | x :: xs, h => by
    rw [List.all_cons, Bool.and_eq_true] at h
    obtain ⟨p, a1, a2, a3, a4, a5, a6, a7⟩ := ih x h.1
    obtain ⟨ps, b1, b2, b3, b4, b5, b6, b7, b8⟩ := pl_all ih xs h.2
    refine ⟨p :: ps, by simp only [toPyL, a1, b1], by simp only [D.pdL, a2, b2], by simp only [PyData.canLayAll0, a3, b3]; rfl, ?_, by simp only [PyData.showableAll, a5, b5]; rfl, by simp only [PyData.hasDictAll, a6, b6]; rfl, ?_, by simp [b8]⟩
    · simp only [PyData.depthAll]; exact Nat.max_le.mpr ⟨a4, b4⟩
    · simp only [rszL, List.map_cons, List.sum_cons]; omega
theorem pl_ok : ∀ (k : Nat) (d : D), pl k d = true → ∃ p, toPy d = some p ∧ d.pd = some p ∧ p.canLay0 = true ∧ p.depth ≤ k ∧ p.showable = true ∧ p.hasDict = false ∧ rsz p ≤ wt k d
  | k, .non, _ => ⟨.none, rfl, rfl, rfl, Nat.zero_le _, rfl, rfl, by cases k <;> simp [rsz, wt]⟩
  | k, .bl b, _ => ⟨.bool b, rfl, rfl, rfl, Nat.zero_le _, rfl, rfl, by cases k <;> simp [rsz, wt]⟩
  | k, .int i, h => ⟨.int i, rfl, rfl, rfl, Nat.zero_le _, by cases k <;> (simp only [pl] at h; simp only [PyData.showable]; exact h), rfl, by cases k <;> simp [rsz, wt]⟩
  | k, .str s, h => ⟨.str s, rfl, rfl, by cases k <;> (simp only [pl] at h; simp only [PyData.canLay0]; exact h), Nat.zero_le _, rfl, rfl, by cases k <;> simp [rsz, wt]⟩
  | 0, .tup xs, h => by simp [pl] at h
  | 0, .lst xs, h => by simp [pl] at h
  | k + 1, .tup xs, h => by
    simp only [pl] at h
    obtain ⟨ps, b1, b2, b3, b4, b5, b6, b7, b8⟩ := pl_all (pl_ok k) xs h
    exact ⟨.tuple ps, by simp only [toPy, b1], by simp only [D.pd, b2]; rfl, by simp only [PyData.canLay0]; exact b3, by simp only [PyData.depth]; omega, by simp only [PyData.showable]; exact b5, by simp only [PyData.hasDict]; exact b6, by simp only [rsz, wt]; omega⟩
  | k + 1, .lst xs, h => by
    simp only [pl] at h
    obtain ⟨ps, b1, b2, b3, b4, b5, b6, b7, b8⟩ := pl_all (pl_ok k) xs h
    exact ⟨.list ps, by simp only [toPy, b1], by simp only [D.pd, b2]; rfl, by simp only [PyData.canLay0]; exact b3, by simp only [PyData.depth]; omega, by simp only [PyData.showable]; exact b5, by simp only [PyData.hasDict]; exact b6, by simp only [rsz, wt]; omega⟩
  | 0, .ktp _, h => by simp [pl] at h
  | _ + 1, .ktp _, h => by simp [pl] at h
  | 0, .dK _, h => by simp [pl] at h
  | _ + 1, .dK _, h => by simp [pl] at h
  | 0, .dT _, h => by simp [pl] at h
  | _ + 1, .dT _, h => by simp [pl] at h
  | 0, .ins _ _, h => by simp [pl] at h
  | _ + 1, .ins _ _, h => by simp [pl] at h
  | 0, .cel _, h => by simp [pl] at h
  | _ + 1, .cel _, h => by simp [pl] at h
  | 0, .cls _, h => by simp [pl] at h
  | _ + 1, .cls _, h => by simp [pl] at h
  | 0, .scr _, h => by simp [pl] at h
  | _ + 1, .scr _, h => by simp [pl] at h
theorem repr_ok {k : Nat} {d : D} (h : pl k d = true) (hk : k ≤ 60) (hr : isRef d = true) (hw : wt k d ≤ 10000000) : ∃ s, ∀ M, bRepr [d] M = .ok (.str s) M := by
  obtain ⟨p, a1, _, _, a4, a5, a6, a7⟩ := pl_ok k d h
  refine ⟨p.shown, fun M => ?_⟩
  have sz : rsz p ≤ sizeLine := Nat.le_trans (Nat.le_trans a7 hw) (by decide)
  have ro : rOk p = true := by
    unfold rOk
    rw [a5, a6, decide_eq_true (Nat.le_trans a4 hk), decide_eq_true sz]; rfl
  have vw : view M d = d := by cases d <;> first | rfl | cases hr
  show (if isRef (view M d) = true then (match toPy (view M d) with | some p => if rOk p = true then R.ok (.str p.shown) M else .stuck | none => .stuck) else .stuck) = _
  rw [vw, if_pos hr, a1]
  dsimp only
  rw [if_pos ro]
def nb : Nat → D → Bool
  | _, .bl _ => false
  | k + 1, .tup xs => xs.all (nb k)
  | k + 1, .lst xs => xs.all (nb k)
  | _, _ => true
theorem eqv_ok : ∀ (k : Nat) {d e : D} {p q : PyData}, pl k d = true → pl k e = true → nb k d = true → nb k e = true → d.pd = some p → e.pd = some q → (PyData.eqv p q = true ↔ d = e) := by
  intro k
  induction k with
  | zero =>
    intro d e p q h1 h2 h3 h4 h5 h6
    cases d <;> simp [pl, nb] at h1 h3 <;> cases e <;> simp [pl, nb] at h2 h4 <;> simp [D.pd] at h5 h6 <;> subst h5 h6 <;> simp [PyData.eqv]
  | succ k ih =>
    have lists : ∀ (xs ys : List D) (ps qs : List PyData), xs.all (pl k) = true → ys.all (pl k) = true → xs.all (nb k) = true → ys.all (nb k) = true → D.pdL xs = some ps → D.pdL ys = some qs → (PyData.eqvAll ps qs = true ↔ xs = ys) := by
      intro xs
      induction xs with
      | nil =>
        intro ys ps qs _ _ _ _ h5 h6
        simp [D.pdL] at h5
        subst h5
        cases ys with
        | nil => simp [D.pdL] at h6; subst h6; simp [PyData.eqvAll]
        | cons y ys =>
          simp only [D.pdL] at h6
          split at h6
          · cases h6; simp [PyData.eqvAll]
          · cases h6
      | cons x xs ih2 =>
        intro ys ps qs h1 h2 h3 h4 h5 h6
        rw [List.all_cons, Bool.and_eq_true] at h1 h3
        simp only [D.pdL] at h5
        split at h5
        · rename_i p ps' e1 e2
          cases h5
          cases ys with
          | nil => simp [D.pdL] at h6; subst h6; simp [PyData.eqvAll]
          | cons y ys =>
            rw [List.all_cons, Bool.and_eq_true] at h2 h4
            simp only [D.pdL] at h6
            split at h6
            · rename_i q qs' e3 e4
              cases h6
              simp only [PyData.eqvAll, Bool.and_eq_true, ih h1.1 h2.1 h3.1 h4.1 e1 e3, ih2 ys ps' qs' h1.2 h2.2 h3.2 h4.2 e2 e4, List.cons.injEq]
            · cases h6
        · cases h5
    intro d e p q h1 h2 h3 h4 h5 h6
    cases d with
    | tup xs =>
      simp only [pl, nb] at h1 h3
      simp only [D.pd] at h5
      cases q1 : D.pdL xs with
      | none => rw [q1] at h5; cases h5
      | some ps =>
        rw [q1] at h5; cases h5
        cases e with
        | tup ys =>
          simp only [pl, nb] at h2 h4
          simp only [D.pd] at h6
          cases q2 : D.pdL ys with
          | none => rw [q2] at h6; cases h6
          | some qs => rw [q2] at h6; cases h6; simp only [PyData.eqv, lists xs ys ps qs h1 h2 h3 h4 q1 q2, D.tup.injEq]
        | lst ys =>
          simp only [D.pd] at h6
          cases q2 : D.pdL ys with
          | none => rw [q2] at h6; cases h6
          | some qs => rw [q2] at h6; cases h6; simp [PyData.eqv]
        | _ => first | (simp [pl, nb] at h2 h4; done) | (simp [D.pd] at h6; subst h6; simp [PyData.eqv]) | simp [nb] at h4
    | lst xs =>
      simp only [pl, nb] at h1 h3
      simp only [D.pd] at h5
      cases q1 : D.pdL xs with
      | none => rw [q1] at h5; cases h5
      | some ps =>
        rw [q1] at h5; cases h5
        cases e with
        | lst ys =>
          simp only [pl, nb] at h2 h4
          simp only [D.pd] at h6
          cases q2 : D.pdL ys with
          | none => rw [q2] at h6; cases h6
          | some qs => rw [q2] at h6; cases h6; simp only [PyData.eqv, lists xs ys ps qs h1 h2 h3 h4 q1 q2, D.lst.injEq]
        | tup ys =>
          simp only [D.pd] at h6
          cases q2 : D.pdL ys with
          | none => rw [q2] at h6; cases h6
          | some qs => rw [q2] at h6; cases h6; simp [PyData.eqv]
        | _ => first | (simp [pl, nb] at h2 h4; done) | (simp [D.pd] at h6; subst h6; simp [PyData.eqv]) | simp [nb] at h4
    | bl b => simp [nb] at h3
    | ktp _ => simp [pl] at h1
    | dK _ => simp [pl] at h1
    | dT _ => simp [pl] at h1
    | ins _ _ => simp [pl] at h1
    | cel _ => simp [pl] at h1
    | cls _ => simp [pl] at h1
    | scr _ => simp [pl] at h1
    | non =>
      simp [D.pd] at h5
      subst h5
      cases e with
      | tup ys => simp only [D.pd] at h6; cases q2 : D.pdL ys <;> rw [q2] at h6 <;> cases h6; simp [PyData.eqv]
      | lst ys => simp only [D.pd] at h6; cases q2 : D.pdL ys <;> rw [q2] at h6 <;> cases h6; simp [PyData.eqv]
      | _ => first | (simp [pl, nb] at h2 h4; done) | (simp [D.pd] at h6; subst h6; simp [PyData.eqv]) | simp [nb] at h4
    | int i =>
      simp [D.pd] at h5
      subst h5
      cases e with
      | tup ys => simp only [D.pd] at h6; cases q2 : D.pdL ys <;> rw [q2] at h6 <;> cases h6; simp [PyData.eqv]
      | lst ys => simp only [D.pd] at h6; cases q2 : D.pdL ys <;> rw [q2] at h6 <;> cases h6; simp [PyData.eqv]
      | _ => first | (simp [pl, nb] at h2 h4; done) | (simp [D.pd] at h6; subst h6; simp [PyData.eqv]) | simp [nb] at h4
    | str s =>
      simp [D.pd] at h5
      subst h5
      cases e with
      | tup ys => simp only [D.pd] at h6; cases q2 : D.pdL ys <;> rw [q2] at h6 <;> cases h6; simp [PyData.eqv]
      | lst ys => simp only [D.pd] at h6; cases q2 : D.pdL ys <;> rw [q2] at h6 <;> cases h6; simp [PyData.eqv]
      | _ => first | (simp [pl, nb] at h2 h4; done) | (simp [D.pd] at h6; subst h6; simp [PyData.eqv]) | simp [nb] at h4
end HP
set_option maxRecDepth 100000
set_option maxHeartbeats 1000000
namespace HP
open MP
open PySem PySem.Spec PyProof.Rows L2
def N__law_dip : List Str := [("_law_jar_here" : Str), ("_law_many" : Str), ("_law_digit" : Str), ("_law_seed" : Str)]
def b__law_dip : SF := (bSeq (bSub 0 (eC (.int 2)) (e2 oAdd (e2 oIx (eVB 0) (eC (.int 2))) (eC (.int 1)))) (bSeq (bIf (e2 oGt (e2 oIx (eVB 0) (eC (.int 0))) (eC (.int 0))) (bSeq (bSet 2 (e2 oMod (eCall bInt (lCons (e2 oIx (eVB 0) (eC (.int 0))) lNil)) (eVB 1))) (bSeq (bSub 0 (eC (.int 0)) (e2 oDiv (eCall bInt (lCons (e2 oIx (eVB 0) (eC (.int 0))) lNil)) (eVB 1))) (bRet (eV 2)))) bNext) (bSeq (bSet 3 (eCall bInt (lCons (e2 oIx (eVB 0) (eC (.int 1))) lNil))) (bSeq (bSub 0 (eC (.int 1)) (e2 oMod (eCall bInt (lCons (e2 oAdd (e2 oAdd (e2 oMul (eVB 3) (eC (.int 48271))) (e2 oMul (e2 oIx (eVB 0) (eC (.int 2))) (eC (.int 40503)))) (eC (.int 17))) lNil)) (eC (.int 2147483629)))) (bRet (e2 oMod (eCall bInt (lCons (e2 oDiv (e2 oIx (eVB 0) (eC (.int 1))) (eC (.int 4096))) lNil)) (eVB 1)))))))
def c__law_dip (ds M : List D) : R := endE (b__law_dip (env0 N__law_dip.length ds) M)
def N__law_rides : List Str := [("_law_many" : Str), ("_law_found" : Str), ("_law_begin" : Str), ("_law_end" : Str)]
def b__law_rides_1 : EF := (eTup (lCons (eV 2) (lCons (eV 3) lNil)))
def b__law_rides_2 : SF := (bSet 1 (e2 oAdd (eVB 1) (eComp (iRng2 (e2 oAdd (eVB 2) (eC (.int 1))) (eV 0)) (gN 3) (eC (.bl true)) b__law_rides_1 [3])))
def b__law_rides : SF := (bSeq (bSet 1 (eLst lNil)) (bSeq (bFor (iRng1 (e2 oSub (eVB 0) (eC (.int 1)))) (gN 2) b__law_rides_2) (bRet (eV 1))))
def c__law_rides (ds M : List D) : R := endE (b__law_rides (env0 N__law_rides.length ds) M)
def N__law_spans : List Str := [("_law_jar_here" : Str), ("_law_many" : Str), ("_law_most" : Str), ("_law_found" : Str), ("_law_ride" : Str), ("_law_low" : Str), ("_law_high" : Str)]
def b__law_spans_1 : SF := (bIf (e2 oGt (eCall (apC c__law_dip 2 []) (lCons (eV 0) (lCons (eC (.int 3)) lNil))) (eC (.int 0))) (bSeq (bSet 5 (eIf (e2 oEq (eCall (apC c__law_dip 2 []) (lCons (eV 0) (lCons (eC (.int 2)) lNil))) (eC (.int 0))) (eCall (apC c__law_dip 2 []) (lCons (eV 0) (lCons (e2 oAdd (eVB 2) (eC (.int 1))) lNil))) (eC (.int 0)))) (bSeq (bSet 6 (eIf (e2 oEq (eCall (apC c__law_dip 2 []) (lCons (eV 0) (lCons (eC (.int 3)) lNil))) (eC (.int 0))) (eC .non) (e2 oAdd (eVB 5) (eCall (apC c__law_dip 2 []) (lCons (eV 0) (lCons (e2 oAdd (eVB 2) (eC (.int 1))) lNil)))))) (bApp 3 (eTup (lCons (eV 4) (lCons (eV 5) (lCons (eV 6) lNil))))))) bNext)
def b__law_spans : SF := (bSeq (bOwn 3 (eLst lNil)) (bSeq (bFor (iSeq (eCall (apC c__law_rides 1 []) (lCons (eV 1) lNil))) (gN 4) b__law_spans_1) (bRet (eCall bTup (lCons (eVB 3) lNil)))))
def c__law_spans (ds M : List D) : R := endE (b__law_spans (env0 N__law_spans.length ds) M)
def N__law_pick : List Str := [("_law_jar_here" : Str), ("_law_menu" : Str), ("_law_at" : Str)]
def b__law_pick : SF := (bSeq (bSet 2 (eCall (apC c__law_dip 2 []) (lCons (eV 0) (lCons (eCall bLen (lCons (eVB 1) lNil)) lNil)))) (bRet (e2 oIx (eVB 1) (eVB 2))))
def c__law_pick (ds M : List D) : R := endE (b__law_pick (env0 N__law_pick.length ds) M)
def N_is_integer : List Str := [("value" : Str)]
def b_is_integer : SF := (bRet (eAnd (e1 (oIsi (isT "int" [])) (eVB 0)) (eNot (e1 (oIsi (isT "bool" [])) (eVB 0)))))
def c_is_integer (ds M : List D) : R := endE (b_is_integer (env0 N_is_integer.length ds) M)
def N_is_within : List Str := [("value" : Str), ("low" : Str), ("high" : Str)]
def b_is_within : SF := (bRet (eAnd (eCall (apC c_is_integer 1 []) (lCons (eV 0) lNil)) (eChain oLe oLe (eVB 1) (eVB 0) (eVB 2))))
def c_is_within (ds M : List D) : R := endE (b_is_within (env0 N_is_within.length ds) M)
def N_check_stops : List Str := [("stops" : Str)]
def b_check_stops : SF := (bIf (eNot (eCall (apC c_is_within 3 []) (lCons (eV 0) (lCons (eC (.int 2)) (lCons (eC (.int 10)) lNil))))) bStuck bNext)
def c_check_stops (ds M : List D) : R := endE (b_check_stops (env0 N_check_stops.length ds) M)
def N_is_haul : List Str := [("value" : Str), ("stops" : Str), ("stop" : Str)]
def b_is_haul_1 : EF := (eCall (apC c_is_integer 1 []) (lCons (eV 2) lNil))
def b_is_haul : SF := (bSeq (bIf (eOr (eNot (e1 (oIsi (isT "tuple" [])) (eVB 0))) (eOr (e2 oNe (eCall bLen (lCons (eVB 0) lNil)) (eC (.int 2))) (eNot (eCall bAll (lCons (eComp (iSeq (eV 0)) (gN 2) (eC (.bl true)) b_is_haul_1 [2]) lNil))))) (bRet (eC (.bl false))) bNext) (bRet (eChain3 oLe oLt oLt (eC (.int 0)) (e2 oIx (eVB 0) (eC (.int 0))) (e2 oIx (eVB 0) (eC (.int 1))) (eVB 1))))
def c_is_haul (ds M : List D) : R := endE (b_is_haul (env0 N_is_haul.length ds) M)
def N_is_price : List Str := [("value" : Str)]
def b_is_price : SF := (bRet (eCall (apC c_is_within 3 []) (lCons (eV 0) (lCons (eC (.int 0)) (lCons (eC (.int 1000000000000)) lNil)))))
def c_is_price (ds M : List D) : R := endE (b_is_price (env0 N_is_price.length ds) M)
def N_is_range : List Str := [("value" : Str), ("stops" : Str)]
def b_is_range : SF := (bSeq (bIf (eOr (eNot (e1 (oIsi (isT "tuple" [])) (eVB 0))) (eOr (e2 oNe (eCall bLen (lCons (eVB 0) lNil)) (eC (.int 3))) (eOr (eNot (eCall (apC c_is_haul 2 []) (lCons (e2 oIx (eVB 0) (eC (.int 0))) (lCons (eV 1) lNil)))) (eNot (eCall (apC c_is_price 1 []) (lCons (e2 oIx (eVB 0) (eC (.int 1))) lNil)))))) (bRet (eC (.bl false))) bNext) (bRet (eOr (e2 oIs (e2 oIx (eVB 0) (eC (.int 2))) (eC .non)) (eAnd (eCall (apC c_is_price 1 []) (lCons (e2 oIx (eVB 0) (eC (.int 2))) lNil)) (e2 oLe (e2 oIx (eVB 0) (eC (.int 1))) (e2 oIx (eVB 0) (eC (.int 2))))))))
def c_is_range (ds M : List D) : R := endE (b_is_range (env0 N_is_range.length ds) M)
def N_Bounds___init__ : List Str := [("self" : Str), ("stops" : Str), ("ranges" : Str), ("index" : Str), ("one" : Str)]
def b_Bounds___init___1 : SF := (bIf (eOr (eNot (eCall (apC c_is_range 2 []) (lCons (eV 4) (lCons (eV 1) lNil)))) (eAnd (e2 oGt (eVB 3) (eC (.int 0))) (e2 oGeT (e2 oIx (e2 oIx (eVB 2) (e2 oSub (eVB 3) (eC (.int 1)))) (eC (.int 0))) (e2 oIx (eVB 4) (eC (.int 0)))))) bStuck bNext)
def b_Bounds___init__ : SF := (bSeq (bExpr (eCall (apC c_check_stops 1 []) (lCons (eV 1) lNil))) (bSeq (bIf (eNot (e1 (oIsi (isT "tuple" [])) (eVB 2))) bStuck bNext) (bSeq (bFor (iEnu (eV 2)) (gT [3, 4]) b_Bounds___init___1) (bFld 0 "Bounds" "all" (eTup (lCons (eV 1) (lCons (eV 2) lNil)))))))
def c_Bounds___init__ (ds M : List D) : R := endI (b_Bounds___init__ (env0I N_Bounds___init__.length "Bounds" ds) M)
def N__law_lows : List Str := [("_law_many" : Str), ("_law_spans_here" : Str), ("_law_low" : Str), ("_law_high" : Str), ("_law_ride" : Str), ("_law_least" : Str), ("_law_greatest" : Str)]
def b__law_lows_1 : SF := (bSubT 2 3 (eV 4) (eV 4) (eTup (lCons (eC (.int 0)) (lCons (eC .non) lNil))))
def b__law_lows_2 : SF := (bSubT 2 3 (eV 4) (eV 4) (eTup (lCons (eV 5) (lCons (eV 6) lNil))))
def b__law_lows : SF := (bSeq (bParOO 2 3 (eNew (.dT [])) (eNew (.dT []))) (bSeq (bFor (iSeq (eCall (apC c__law_rides 1 []) (lCons (eV 0) lNil))) (gN 4) b__law_lows_1) (bSeq (bFor (iSeq (eV 1)) (gT [4, 5, 6]) b__law_lows_2) (bSeq (bShare 2) (bSeq (bShare 3) (bRet (eTup (lCons (eV 2) (lCons (eV 3) lNil)))))))))
def c__law_lows (ds M : List D) : R := endE (b__law_lows (env0 N__law_lows.length ds) M)
def N_Bounds_stops : List Str := [("self" : Str)]
def b_Bounds_stops : SF := (bRet (e2 oIx (e1 (fldR "Bounds" "all") (eVB 0)) (eC (.int 0))))
def c_Bounds_stops (ds M : List D) : R := endE (b_Bounds_stops (env0 N_Bounds_stops.length ds) M)
def N_Bounds_ranges : List Str := [("self" : Str)]
def b_Bounds_ranges : SF := (bRet (e2 oIx (e1 (fldR "Bounds" "all") (eVB 0)) (eC (.int 1))))
def c_Bounds_ranges (ds M : List D) : R := endE (b_Bounds_ranges (env0 N_Bounds_ranges.length ds) M)
def N_Bounds___str__ : List Str := [("self" : Str), ("rows" : Str), ("haul" : Str), ("least" : Str), ("greatest" : Str)]
def b_Bounds___str___1 : SF := (bApp 1 (e2 oAdd (eFs [(eFmt (e2 oIx (eVB 2) (eC (.int 0)))), (eC (.str " ")), (eFmt (e2 oIx (eVB 2) (eC (.int 1)))), (eC (.str " ")), (eFmt (eV 3)), (eC (.str " "))]) (eIf (e2 oIs (eVB 4) (eC .non)) (eC (.str "-")) (eCall bStrT (lCons (eVB 4) lNil)))))
def b_Bounds___str__ : SF := (bSeq (bOwn 1 (eLst (lCons (eFs [(eC (.str "stops ")), (eFmt (e1 (propR "Bounds" c_Bounds_stops) (eV 0)))]) lNil))) (bSeq (bFor (iSeq (e1 (propR "Bounds" c_Bounds_ranges) (eV 0))) (gT [2, 3, 4]) b_Bounds___str___1) (bRet (eTx joinR (eC (.str "\n")) (eVB 1)))))
def c_Bounds___str__ (ds M : List D) : R := endE (b_Bounds___str__ (env0 N_Bounds___str__.length ds) M)
def N__law_page : List Str := [("_law_many" : Str), ("_law_spans_here" : Str), ("_law_rows" : Str), ("_law_ride" : Str), ("_law_low" : Str), ("_law_high" : Str)]
def b__law_page_1 : SF := (bApp 2 (eTx joinR (eC (.str " ")) (eLst (lCons (eCall bStrT (lCons (e2 oIx (eVB 3) (eC (.int 0))) lNil)) (lCons (eCall bStrT (lCons (e2 oIx (eVB 3) (eC (.int 1))) lNil)) (lCons (eCall bStrT (lCons (eVB 4) lNil)) (lCons (eIf (e2 oIs (eVB 5) (eC .non)) (eC (.str "-")) (eCall bStrT (lCons (eVB 5) lNil))) lNil)))))))
def b__law_page : SF := (bSeq (bOwn 2 (eLst (lCons (e2 oAdd (eC (.str "stops ")) (eCall bStrT (lCons (eVB 0) lNil))) lNil))) (bSeq (bFor (iSeq (eV 1)) (gT [3, 4, 5]) b__law_page_1) (bRet (eTx joinR (eC (.str "\n")) (eVB 2)))))
def c__law_page (ds M : List D) : R := endE (b__law_page (env0 N__law_page.length ds) M)
def N_check_haul : List Str := [("haul" : Str), ("stops" : Str)]
def b_check_haul : SF := (bIf (eNot (eCall (apC c_is_haul 2 []) (lCons (eV 0) (lCons (eV 1) lNil)))) bStuck bNext)
def c_check_haul (ds M : List D) : R := endE (b_check_haul (env0 N_check_haul.length ds) M)
def N_hauls_of : List Str := [("stops" : Str), ("found" : Str), ("begin" : Str), ("end" : Str)]
def b_hauls_of_1 : EF := (eTup (lCons (eV 2) (lCons (eV 3) lNil)))
def b_hauls_of_2 : SF := (bSet 1 (e2 oAdd (eVB 1) (eComp (iRng2 (e2 oAdd (eVB 2) (eC (.int 1))) (eV 0)) (gN 3) (eC (.bl true)) b_hauls_of_1 [3])))
def b_hauls_of : SF := (bSeq (bSet 1 (eLst lNil)) (bSeq (bFor (iRng1 (e2 oSub (eVB 0) (eC (.int 1)))) (gN 2) b_hauls_of_2) (bRet (eV 1))))
def c_hauls_of (ds M : List D) : R := endE (b_hauls_of (env0 N_hauls_of.length ds) M)
def N_Bounds_leasts : List Str := [("self" : Str), ("told_here" : Str), ("haul" : Str), ("least" : Str), ("greatest" : Str)]
def b_Bounds_leasts_1 : EF := (eV 2)
def b_Bounds_leasts_2 : EF := (eV 3)
def b_Bounds_leasts_3 : EF := (eV 2)
def b_Bounds_leasts_4 : EF := (eGet2 (eVB 1) (eV 2) (eC (.int 0)))
def b_Bounds_leasts : SF := (bSeq (bSet 1 (eDcT (iSeq (e1 (propR "Bounds" c_Bounds_ranges) (eV 0))) (gT [2, 3, 4]) (eC (.bl true)) b_Bounds_leasts_1 b_Bounds_leasts_2 [2, 3, 4])) (bRet (eDcT (iSeq (eCall (apC c_hauls_of 1 []) (lCons (e1 (propR "Bounds" c_Bounds_stops) (eV 0)) lNil))) (gN 2) (eC (.bl true)) b_Bounds_leasts_3 b_Bounds_leasts_4 [2])))
def c_Bounds_leasts (ds M : List D) : R := endE (b_Bounds_leasts (env0 N_Bounds_leasts.length ds) M)
def N_Bounds_greatests : List Str := [("self" : Str), ("told_here" : Str), ("haul" : Str), ("least" : Str), ("greatest" : Str)]
def b_Bounds_greatests_1 : EF := (eV 2)
def b_Bounds_greatests_2 : EF := (eV 4)
def b_Bounds_greatests_3 : EF := (eV 2)
def b_Bounds_greatests_4 : EF := (eGet1 (eVB 1) (eV 2))
def b_Bounds_greatests : SF := (bSeq (bSet 1 (eDcT (iSeq (e1 (propR "Bounds" c_Bounds_ranges) (eV 0))) (gT [2, 3, 4]) (eC (.bl true)) b_Bounds_greatests_1 b_Bounds_greatests_2 [2, 3, 4])) (bRet (eDcT (iSeq (eCall (apC c_hauls_of 1 []) (lCons (e1 (propR "Bounds" c_Bounds_stops) (eV 0)) lNil))) (gN 2) (eC (.bl true)) b_Bounds_greatests_3 b_Bounds_greatests_4 [2])))
def c_Bounds_greatests (ds M : List D) : R := endE (b_Bounds_greatests (env0 N_Bounds_greatests.length ds) M)
def N_Bounds_told : List Str := [("self" : Str), ("haul" : Str)]
def b_Bounds_told : SF := (bSeq (bExpr (eCall (apC c_check_haul 2 []) (lCons (eV 1) (lCons (e1 (propR "Bounds" c_Bounds_stops) (eV 0)) lNil)))) (bRet (eTup (lCons (e2 oIx (eMeth "Bounds" "leasts" c_Bounds_leasts 1 [] (eV 0) lNil) (eVB 1)) (lCons (e2 oIx (eMeth "Bounds" "greatests" c_Bounds_greatests 1 [] (eV 0) lNil) (eVB 1)) lNil)))))
def c_Bounds_told (ds M : List D) : R := endE (b_Bounds_told (env0 N_Bounds_told.length ds) M)
def N__law_is_frame : List Str := [("_law_frame" : Str), ("_law_many" : Str), ("_law_spans_here" : Str), ("_law_low" : Str), ("_law_high" : Str), ("_law_ride" : Str)]
def b__law_is_frame_1 : SF := (bIf (e2 oNe (eCall bReprA (lCons (eMeth "Bounds" "told" c_Bounds_told 2 [] (eV 0) (lCons (eV 5) lNil)) lNil)) (eCall bReprA (lCons (eTup (lCons (e2 oIx (eVB 3) (eVB 5)) (lCons (e2 oIx (eVB 4) (eVB 5)) lNil))) lNil))) (bRet (eC (.bl false))) bNext)
def b__law_is_frame : SF := (bSeq (bSetT [3, 4] (eCall (apC c__law_lows 2 []) (lCons (eV 1) (lCons (eV 2) lNil)))) (bSeq (bIf (e2 oNe (eCall bReprA (lCons (eLst (lCons (e1 (propR "Bounds" c_Bounds_stops) (eV 0)) (lCons (e1 (propR "Bounds" c_Bounds_ranges) (eV 0)) (lCons (eCall (bStrO "Bounds" c_Bounds___str__) (lCons (eV 0) lNil)) lNil)))) lNil)) (eCall bReprA (lCons (eLst (lCons (eV 1) (lCons (eV 2) (lCons (eCall (apC c__law_page 2 []) (lCons (eV 1) (lCons (eV 2) lNil))) lNil)))) lNil))) (bRet (eC (.bl false))) bNext) (bSeq (bFor (iSeq (eV 3)) (gN 5) b__law_is_frame_1) (bRet (eCall (bBoolN "Bounds") (lCons (eV 0) lNil))))))
def c__law_is_frame (ds M : List D) : R := endE (b__law_is_frame (env0 N__law_is_frame.length ds) M)
def N_number_in : List Str := [("word" : Str), ("sign" : Str)]
def b_number_in_1 : EF := (e2 oInS (eVB 1) (eC (.str "0123456789")))
def b_number_in : SF := (bSeq (bIf (eOr (e2 oEq (eVB 0) (eC (.str ""))) (eOr (eNot (eCall bAll (lCons (eComp (iTxt (eV 0)) (gN 1) (eC (.bl true)) b_number_in_1 [1]) lNil))) (eAnd (e2 oEq (e2 oIx (eVB 0) (eC (.int 0))) (eC (.str "0"))) (e2 oNe (eVB 0) (eC (.str "0")))))) (bRet (eC .non)) bNext) (bRet (eCall bIntT (lCons (eVB 0) lNil))))
def c_number_in (ds M : List D) : R := endE (b_number_in (env0 N_number_in.length ds) M)
def N_stops_in : List Str := [("line" : Str), ("words" : Str), ("stops" : Str)]
def b_stops_in : SF := (bSeq (bSet 1 (eTx splitR (eVB 0) (eC (.str " ")))) (bSeq (bSet 2 (eIf (eAnd (e2 oEq (eCall bLen (lCons (eVB 1) lNil)) (eC (.int 2))) (e2 oEq (e2 oIx (eVB 1) (eC (.int 0))) (eC (.str "stops")))) (eCall (apC c_number_in 1 []) (lCons (e2 oIx (eVB 1) (eC (.int 1))) lNil)) (eC .non))) (bRet (eIf (eAnd (e2 oIsnt (eVB 2) (eC .non)) (eChain oLe oLe (eC (.int 2)) (eVB 2) (eC (.int 10)))) (eV 2) (eC .non)))))
def c_stops_in (ds M : List D) : R := endE (b_stops_in (env0 N_stops_in.length ds) M)
def N_range_in : List Str := [("line" : Str), ("stops" : Str), ("words" : Str), ("numbers" : Str), ("found" : Str), ("word" : Str)]
def b_range_in_1 : EF := (eCall (apC c_number_in 1 []) (lCons (eV 5) lNil))
def b_range_in : SF := (bSeq (bSet 2 (eTx splitR (eVB 0) (eC (.str " ")))) (bSeq (bIf (e2 oNe (eCall bLen (lCons (eVB 2) lNil)) (eC (.int 4))) (bRet (eC .non)) bNext) (bSeq (bOwn 3 (eComp (iSeq (eV 2)) (gN 5) (eC (.bl true)) b_range_in_1 [5])) (bSeq (bShare 3) (bSeq (bSet 4 (eTup (lCons (eTup (lCons (e2 oIx (eVB 3) (eC (.int 0))) (lCons (e2 oIx (eVB 3) (eC (.int 1))) lNil))) (lCons (e2 oIx (eVB 3) (eC (.int 2))) (lCons (e2 oIx (eVB 3) (eC (.int 3))) lNil))))) (bRet (eIf (eAnd (eCall (apC c_is_range 2 []) (lCons (eV 4) (lCons (eV 1) lNil))) (eOr (e2 oIsnt (e2 oIx (eVB 3) (eC (.int 3))) (eC .non)) (e2 oEq (e2 oIx (eVB 2) (eC (.int 3))) (eC (.str "-"))))) (eV 4) (eC .non))))))))
def c_range_in (ds M : List D) : R := endE (b_range_in (env0 N_range_in.length ds) M)
def N_Bounds_read : List Str := [("cls" : Str), ("text" : Str), ("lines" : Str), ("stops" : Str), ("ranges" : Str), ("index" : Str), ("line" : Str), ("found" : Str)]
def b_Bounds_read_1 : SF := (bSeq (bSet 7 (eCall (apC c_range_in 2 []) (lCons (eV 6) (lCons (eV 3) lNil)))) (bSeq (bIf (eOr (e2 oIs (eVB 7) (eC .non)) (eAnd (e2 oNe (eVB 4) (eLst lNil)) (e2 oGeT (e2 oIx (e2 oIx (eVB 4) (e1 oNeg (eC (.int 1)))) (eC (.int 0))) (e2 oIx (eVB 7) (eC (.int 0)))))) bStuck bNext) (bApp 4 (eV 7))))
def b_Bounds_read : SF := (bSeq (bIf (eNot (e1 (oIsi (isT "str" [])) (eVB 1))) bStuck bNext) (bSeq (bSet 2 (eTx splitR (eVB 1) (eC (.str "\n")))) (bSeq (bSet 3 (eCall (apC c_stops_in 1 []) (lCons (e2 oIx (eVB 2) (eC (.int 0))) lNil))) (bSeq (bIf (e2 oIs (eVB 3) (eC .non)) bStuck bNext) (bSeq (bOwn 4 (eLst lNil)) (bSeq (bFor (iEnu (eSl oSlE (eVB 2) (eInt (eC (.int 1))) (eC .non))) (gT [5, 6]) b_Bounds_read_1) (bRet (eCls 0 "Bounds" c_Bounds___init__ 2 [] (lCons (eV 3) (lCons (eCall bTup (lCons (eVB 4) lNil)) lNil))))))))))
def c_Bounds_read (ds M : List D) : R := endE (b_Bounds_read (env0 N_Bounds_read.length ds) M)
def N_Bounds___eq__ : List Str := [("self" : Str), ("other" : Str)]
def b_Bounds___eq__ : SF := (bRet (eAnd (e1 (oIsi (isC "Bounds" [])) (eVB 1)) (e2 oEq (e1 (fldR "Bounds" "all") (eVB 0)) (e1 (fldR "Bounds" "all") (eVB 1)))))
def c_Bounds___eq__ (ds M : List D) : R := endE (b_Bounds___eq__ (env0 N_Bounds___eq__.length ds) M)
def N_Bounds_without : List Str := [("self" : Str), ("haul" : Str), ("one" : Str)]
def b_Bounds_without_1 : EF := (eV 2)
def b_Bounds_without_2 : EF := (e2 oNe (e2 oIx (eVB 2) (eC (.int 0))) (eVB 1))
def b_Bounds_without : SF := (bSeq (bExpr (eCall (apC c_check_haul 2 []) (lCons (eV 1) (lCons (e1 (propR "Bounds" c_Bounds_stops) (eV 0)) lNil)))) (bRet (eCall (apC c_Bounds___init__ 2 []) (lCons (e1 (propR "Bounds" c_Bounds_stops) (eV 0)) (lCons (eCall bTup (lCons (eComp (iSeq (e1 (propR "Bounds" c_Bounds_ranges) (eV 0))) (gN 2) b_Bounds_without_2 b_Bounds_without_1 [2]) lNil)) lNil)))))
def c_Bounds_without (ds M : List D) : R := endE (b_Bounds_without (env0 N_Bounds_without.length ds) M)
def N_Bounds_seen : List Str := [("cls" : Str), ("stops" : Str), ("tickets" : Str), ("index" : Str), ("ticket" : Str), ("haul" : Str), ("price" : Str)]
def b_Bounds_seen_1 : SF := (bIf (eOr (eNot (e1 (oIsi (isT "tuple" [])) (eVB 4))) (eOr (e2 oNe (eCall bLen (lCons (eVB 4) lNil)) (eC (.int 2))) (eOr (eNot (eCall (apC c_is_haul 2 []) (lCons (e2 oIx (eVB 4) (eC (.int 0))) (lCons (eV 1) lNil)))) (eOr (eNot (eCall (apC c_is_price 1 []) (lCons (e2 oIx (eVB 4) (eC (.int 1))) lNil))) (eAnd (e2 oGt (eVB 3) (eC (.int 0))) (e2 oGeT (e2 oIx (e2 oIx (eVB 2) (e2 oSub (eVB 3) (eC (.int 1)))) (eC (.int 0))) (e2 oIx (eVB 4) (eC (.int 0))))))))) bStuck bNext)
def b_Bounds_seen_2 : EF := (eTup (lCons (eV 5) (lCons (eV 6) (lCons (eV 6) lNil))))
def b_Bounds_seen : SF := (bSeq (bExpr (eCall (apC c_check_stops 1 []) (lCons (eV 1) lNil))) (bSeq (bIf (eNot (e1 (oIsi (isT "tuple" [])) (eVB 2))) bStuck bNext) (bSeq (bFor (iEnu (eV 2)) (gT [3, 4]) b_Bounds_seen_1) (bRet (eCls 0 "Bounds" c_Bounds___init__ 2 [] (lCons (eV 1) (lCons (eCall bTup (lCons (eComp (iSeq (eV 2)) (gT [5, 6]) (eC (.bl true)) b_Bounds_seen_2 [5, 6]) lNil)) lNil)))))))
def c_Bounds_seen (ds M : List D) : R := endE (b_Bounds_seen (env0 N_Bounds_seen.length ds) M)
def N__law_right : List Str := [("_law_jar_here" : Str), ("_law_lap" : Str), ("_law_many" : Str), ("_law_spans_here" : Str), ("_law_mates" : Str), ("_law_frame" : Str), ("_law_twin" : Str), ("_law_thing" : Str), ("_law_ride" : Str), ("_law_rest" : Str), ("_law_tickets_here" : Str), ("_law_due" : Str), ("_law_one" : Str), ("_law_low" : Str), ("_law_high" : Str)]
def b__law_right_1 : EF := (eV 12)
def b__law_right_2 : EF := (e2 oNe (e2 oIx (eVB 12) (eC (.int 0))) (eVB 8))
def b__law_right_3 : EF := (eTup (lCons (eV 12) (lCons (eV 13) lNil)))
def b__law_right_4 : EF := (eTup (lCons (eV 12) (lCons (eV 13) (lCons (eV 13) lNil))))
def b__law_right_5 : SF := (bSeq (bSet 2 (e2 oAdd (eC (.int 2)) (eCall (apC c__law_dip 2 []) (lCons (eV 0) (lCons (eC (.int 9)) lNil))))) (bSeq (bSet 3 (eCall (apC c__law_spans 3 []) (lCons (eV 0) (lCons (eV 2) (lCons (eCall (apC c__law_pick 2 []) (lCons (eV 0) (lCons (eLst (lCons (eC (.int 3)) (lCons (eC (.int 60)) (lCons (e2 oMul (eC (.int 5)) (e2 oPow (eC (.int 10)) (eC (.int 11)))) lNil)))) lNil))) lNil))))) (bSeq (bSet 4 (eCall (apC c__law_pick 2 []) (lCons (eV 0) (lCons (eLst (lCons (eV 3) (lCons (eSl oSlE (eVB 3) (eC .non) (eInt (e1 oNeg (eC (.int 1))))) (lCons (eCall (apC c__law_spans 3 []) (lCons (eV 0) (lCons (eV 2) (lCons (eC (.int 3)) lNil)))) lNil)))) lNil)))) (bSeq (bPar 5 6 (eCall (apC c_Bounds___init__ 2 []) (lCons (eV 2) (lCons (eV 3) lNil))) (eCallQ c_Bounds___init__ 2 0 2 [1, 0] [] lNil (lCons (eV 4) (lCons (eV 2) lNil)))) (bSeq (bIf (eOr (eNot (eCall (apC c__law_is_frame 3 []) (lCons (eV 5) (lCons (eV 2) (lCons (eV 3) lNil))))) (eNot (eCall (apC c__law_is_frame 3 []) (lCons (eV 6) (lCons (eV 2) (lCons (eV 4) lNil)))))) (bRet (eC (.bl false))) bNext) (bSeq (bIf (eNot (eCall (apC c__law_is_frame 3 []) (lCons (eCM "Bounds" c_Bounds_read 2 [] (lCons (eCall (apC c__law_page 2 []) (lCons (eV 2) (lCons (eV 3) lNil))) lNil)) (lCons (eV 2) (lCons (eV 3) lNil))))) (bRet (eC (.bl false))) bNext) (bSeq (bIf (eOr (eNot (e2 (oEqI "Bounds" c_Bounds___eq__) (eCMQ "Bounds" c_Bounds_read 2 1 [0, 1] [] (lCons (eCall (bStrO "Bounds" c_Bounds___str__) (lCons (eV 6) lNil)) lNil)) (eV 6))) (e2 oNe (e2 (oEqI "Bounds" c_Bounds___eq__) (eV 5) (eV 6)) (e2 oEq (eVB 3) (eVB 4)))) (bRet (eC (.bl false))) bNext) (bSeq (bIf (e2 oEq (e2 (oNeI "Bounds" c_Bounds___eq__) (eV 5) (eV 6)) (e2 oEq (eVB 3) (eVB 4))) (bRet (eC (.bl false))) bNext) (bSeq (bSet 7 (eCall (apC c__law_pick 2 []) (lCons (eV 0) (lCons (eLst (lCons (eC .non) (lCons (eC (.int 0)) (lCons (eCall (bStrO "Bounds" c_Bounds___str__) (lCons (eV 5) lNil)) (lCons (eV 3) (lCons (eTup (lCons (eV 2) (lCons (eV 3) lNil))) (lCons (eLst lNil) (lCons (eNew (.dK [])) lNil)))))))) lNil)))) (bSeq (bIf (eOr (e2 (oEqX "Bounds" c_Bounds___eq__) (eV 5) (eV 7)) (eNot (e2 (oNeX "Bounds" c_Bounds___eq__) (eV 5) (eV 7)))) (bRet (eC (.bl false))) bNext) (bSeq (bSet 8 (eCall (apC c__law_pick 2 []) (lCons (eV 0) (lCons (eCall (apC c__law_rides 1 []) (lCons (eV 2) lNil)) lNil)))) (bSeq (bSet 9 (eCall bTup (lCons (eComp (iSeq (eV 3)) (gN 12) b__law_right_2 b__law_right_1 [12]) lNil))) (bSeq (bIf (eOr (eNot (e2 (oEqI "Bounds" c_Bounds___eq__) (eMeth "Bounds" "without" c_Bounds_without 2 [] (eV 5) (lCons (eV 8) lNil)) (eCall (apC c_Bounds___init__ 2 []) (lCons (eV 2) (lCons (eV 9) lNil))))) (eNot (eCall (apC c__law_is_frame 3 []) (lCons (eMethQ "Bounds" "without" c_Bounds_without 2 1 1 [0, 1] [] (eV 5) lNil (lCons (eV 8) lNil)) (lCons (eV 2) (lCons (eV 9) lNil)))))) (bRet (eC (.bl false))) bNext) (bSeq (bSet 10 (eCall bTup (lCons (eComp (iSeq (eV 3)) (gT [12, 13, 14]) (eC (.bl true)) b__law_right_3 [12, 13, 14]) lNil))) (bSeq (bSet 11 (eCall bTup (lCons (eComp (iSeq (eV 3)) (gT [12, 13, 14]) (eC (.bl true)) b__law_right_4 [12, 13, 14]) lNil))) (bSeq (bIf (eNot (e2 (oEqI "Bounds" c_Bounds___eq__) (eCM "Bounds" c_Bounds_seen 3 [] (lCons (eV 2) (lCons (eV 10) lNil))) (eCall (apC c_Bounds___init__ 2 []) (lCons (eV 2) (lCons (eV 11) lNil))))) (bRet (eC (.bl false))) bNext) (bIf (eNot (e2 (oEqI "Bounds" c_Bounds___eq__) (eCMQ "Bounds" c_Bounds_seen 3 2 [0, 2, 1] [] (lCons (eTup lNil) (lCons (eV 2) lNil))) (eCall (apC c_Bounds___init__ 2 [.tup []]) (lCons (eV 2) lNil)))) (bRet (eC (.bl false))) bNext)))))))))))))))))
def b__law_right : SF := (bSeq (bFor (iRng1 (eC (.int 2))) (gN 1) b__law_right_5) (bRet (e2 oEq (eCall bReprA (lCons (e1 (propR "Bounds" c_Bounds_ranges) (eCall (apC c_Bounds___init__ 2 [.tup []]) (lCons (eC (.int 3)) lNil))) lNil)) (eC (.str "()")))))
def c__law_right (ds M : List D) : R := endE (b__law_right (env0 N__law_right.length ds) M)
def N__law_jar : List Str := [("_law_script" : Str), ("_law_k" : Str), ("_law_mixed" : Str), ("_law_cell" : Str), ("_law_own" : Str), ("_law_digits" : Str)]
def b__law_jar_1 : SF := (bSet 2 (e2 oMod (eCall bInt (lCons (e2 oAdd (e2 oMul (eVB 2) (eC (.int 617))) (eVB 3)) lNil)) (eC (.int 1000000007))))
def b__law_jar : SF := (bSeq (bSet 2 (e2 oAdd (e2 oMul (e2 oMul (eC (.int 6007)) (e2 oAdd (eVB 1) (eC (.int 4)))) (e2 oAdd (eVB 1) (eC (.int 3)))) (e2 oMul (eC (.int 17)) (eCall bLen (lCons (eVB 0) lNil))))) (bSeq (bFor (iSeq (eSl oSlE (eVB 0) (eC .non) (eInt (eC (.int 4))))) (gN 3) b__law_jar_1) (bSeq (bSet 4 (eIf (e2 oLt (eVB 1) (eCall bLen (lCons (eVB 0) lNil))) (e2 oIx (eVB 0) (eVB 1)) (eC (.int 0)))) (bSeq (bSet 5 (eIf (eOr (e2 oLt (eVB 4) (eC (.int 0))) (e2 oGe (eVB 4) (e2 oPow (eC (.int 10)) (eC (.int 18))))) (eCall bAbs (lCons (eVB 4) lNil)) (eC (.int 0)))) (bRet (eCell (eLst (lCons (eV 5) (lCons (e2 oMod (eCall bInt (lCons (e2 oAdd (e2 oAdd (e2 oMul (eVB 2) (eC (.int 7907))) (e2 oMul (eVB 4) (eC (.int 65537)))) (e2 oMul (eC (.int 104729)) (e2 oAdd (eVB 1) (eC (.int 1))))) lNil)) (eC (.int 2147483587))) (lCons (eC (.int 0)) lNil))))))))))
def c__law_jar (ds M : List D) : R := endE (b__law_jar (env0 N__law_jar.length ds) M)
def N_law : List Str := [("_law_script" : Str), ("_law_k" : Str)]
def b_law_1 : EF := (eCall (apC c__law_right 1 []) (lCons (eCall (apC c__law_jar 2 []) (lCons (eV 0) (lCons (eV 1) lNil))) lNil))
def b_law : SF := (bRet (eCall bAll (lCons (eComp (iRng1 (eCall bMax (lCons (eC (.int 2)) (lCons (eCall bMin (lCons (eCall bLen (lCons (eVB 0) lNil)) (lCons (eC (.int 5)) lNil))) lNil)))) (gN 1) (eC (.bl true)) b_law_1 [1]) lNil)))
def c_law (ds M : List D) : R := endE (b_law (env0 N_law.length ds) M)
end HP
set_option maxRecDepth 100000
set_option maxHeartbeats 1000000
namespace HP
open MP PySem L2
def jr (a b c : Int) : D := .lst [.int a, .int b, .int c]
def JarAt (M : List D) (n : Nat) : Prop := ∃ a b c : Int, 0 ≤ a ∧ 0 ≤ b ∧ M[n]? = some (jr a b c)
@[simp] theorem atI3_0 {a b c : D} : atI [a, b, c] 0 = some a := rfl
@[simp] theorem atI3_1 {a b c : D} : atI [a, b, c] 1 = some b := rfl
@[simp] theorem atI3_2 {a b c : D} : atI [a, b, c] 2 = some c := rfl
theorem st_0 {a b c v : Int} : stSub (.int 0) (.int v) (jr a b c) = some (jr v b c) := rfl
theorem st_1 {a b c v : Int} : stSub (.int 1) (.int v) (jr a b c) = some (jr a v c) := rfl
theorem st_2 {a b c v : Int} : stSub (.int 2) (.int v) (jr a b c) = some (jr a b v) := rfl
@[simp] theorem has_c {d : D} {r : EnvM} : has 0 (.shr d :: r) = true := rfl
theorem store_0 {n : Nat} {r : EnvM} {u d d'} {M : List D} (hm : M[n]? = some d) (hu : u d = some d') : store 0 u (.shr (.cel n) :: r) M = .next (.shr (.cel n) :: r) (M.set n d') := store_cel rfl hm hu
theorem dip_ok {M : List D} {n : Nat} {m : Int} (hj : JarAt M n) (hm : 0 < m) (hm2 : m < 2 ^ 200) :
    ∃ v M', c__law_dip [.cel n, .int m] M = .ok (.int v) M' ∧ 0 ≤ v ∧ v < m ∧ JarAt M' n := by
  obtain ⟨a, b, c, ha, hb, hM⟩ := hj
  have hlt : n < M.length := (List.getElem?_eq_some_iff.mp hM).1
  have e0 : env0 N__law_dip.length [.cel n, .int m] = [.shr (.cel n), .shr (.int m), .no, .no] := rfl
  have c1 : ∀ i, CMulB i 48271 := fun i => cmul_r (by decide)
  have c2 : ∀ i, CMulB i 40503 := fun i => cmul_r (by decide)
  have c3 : ∀ i, CDivW i 4096 := fun i => cdiv_s (by decide) (by decide)
  have c4 : ∀ i, CDivW i m := fun i => cdiv_s hm hm2
  have i0 := oIx_celL (i := 2) hM
  have hM1 : (M.set n (jr a b (c + 1)))[n]? = some (jr a b (c + 1)) := by simp [hlt]
  have s1 := fun (r : EnvM) => store_0 (r := r) hM (st_2 (v := c + 1))
  unfold c__law_dip
  rw [e0]
  by_cases h0 : 0 < a
  · refine ⟨a % m, M.set n (jr (a / m) b (c + 1)), ?_, Int.emod_nonneg _ (by omega), Int.emod_lt_of_pos _ hm, ⟨a / m, b, c + 1, Int.ediv_nonneg ha (by omega), hb, by simp [hlt]⟩⟩
    have s2 := fun (r : EnvM) => store_0 (r := r) hM1 (st_0 (v := a / m))
    simp [b__law_dip, i0, s1, s2, oIx_celL hM1, h0, hm, c4]
  · refine ⟨(b * 48271 + (c + 1) * 40503 + 17) % 2147483629 / 4096 % m, M.set n (jr a ((b * 48271 + (c + 1) * 40503 + 17) % 2147483629) (c + 1)), ?_, Int.emod_nonneg _ (by omega), Int.emod_lt_of_pos _ hm, ⟨a, (b * 48271 + (c + 1) * 40503 + 17) % 2147483629, c + 1, ha, Int.emod_nonneg _ (by decide), by simp [hlt]⟩⟩
    have s2 := fun (r : EnvM) => store_0 (r := r) hM1 (st_1 (v := (b * 48271 + (c + 1) * 40503 + 17) % 2147483629))
    have hM2 : (M.set n (jr a ((b * 48271 + (c + 1) * 40503 + 17) % 2147483629) (c + 1)))[n]? = some (jr a ((b * 48271 + (c + 1) * 40503 + 17) % 2147483629) (c + 1)) := by simp [hlt]
    simp [b__law_dip, i0, s1, s2, oIx_celL hM1, oIx_celL hM2, h0, hm, c1, c2, c3, c4]
theorem jar_ok {ns : List Int} {k : Nat} (hk : k ≤ 4) (hl : ns.length ≤ 63) (M : List D) : ∃ d s : Int, 0 ≤ d ∧ 0 ≤ s ∧ c__law_jar [.scr ns, .int k] M = .ok (.cel M.length) (M ++ [jr d s 0]) := by
  have e0 : env0 N__law_jar.length [.scr ns, .int k] = [.shr (.scr ns), .shr (.int k), .no, .no, .no, .no] := rfl
  unfold c__law_jar
  rw [e0]
  have c1 : CMulB 6007 ((k : Int) + 4) := cmul_l (by decide)
  have c2 : ∀ i, CMulB i ((k : Int) + 3) := fun i => cmul_r (by omega)
  have c3 : ∀ i, CMulB 17 i := fun i => cmul_l (by decide)
  have c4 : ∀ i, CMulB i 617 := fun i => cmul_r (by decide)
  have c5 : ∀ i, CMulB i 7907 := fun i => cmul_r (by decide)
  have c6 : ∀ i, CMulB i 65537 := fun i => cmul_r (by decide)
  have c7 : ∀ i, CMulB 104729 i := fun i => cmul_l (by decide)
  have p1 : CPow 10 18 := by decide
  obtain ⟨m0, hm0⟩ : ∃ m0 : Int, m0 = 6007 * ((k : Int) + 4) * ((k : Int) + 3) + 17 * (ns.length : Int) := ⟨_, rfl⟩
  obtain ⟨env2, M2, e1, m, x3, f3, rfl, rfl⟩ := forL_inv (gd := gN 3) (b := b__law_jar_1) (ds := cutD (ns.map D.int) none (some 4))
    (fun i env M' => ∃ m x3, MP.B.free x3 ∧ env = [.shr (.scr ns), .shr (.int k), .shr (.int m), x3, .no, .no] ∧ M' = M)
    (by
      rintro i d env M' hd ⟨m, x3, f3, rfl, rfl⟩
      have hm := List.mem_of_getElem? hd
      unfold cutD at hm
      obtain ⟨v, _, rfl⟩ := List.mem_map.mp (List.mem_of_mem_drop (List.mem_of_mem_take hm))
      exact ⟨[.shr (.scr ns), .shr (.int k), .shr (.int m), .shr (.int v), .no, .no], by simp [f3], [.shr (.scr ns), .shr (.int k), .shr (.int ((m * 617 + v) % 1000000007)), .shr (.int v), .no, .no], M', by simp [b__law_jar_1, c4], _, _, free_shr, rfl, rfl⟩)
    (env := [.shr (.scr ns), .shr (.int k), .shr (.int m0), .no, .no, .no]) (M := M) ⟨m0, .no, trivial, rfl, rfl⟩
  obtain ⟨own, ho⟩ : ∃ own : Int, own = if h : k < ns.length then ns[k] else 0 := ⟨_, rfl⟩
  have hs : (0 : Int) < 2147483587 := by decide
  have eOwn : (eIf (MP.e2 oLt (eVB 1) (eCall bLen (lCons (eVB 0) lNil))) (MP.e2 oIx (eVB 0) (eVB 1)) (eC (.int 0))) [.shr (.scr ns), .shr (.int k), .shr (.int m), x3, .no, .no] M2 = .ok (.int own) M2 := by
    by_cases h : k < ns.length
    · have hh : (k : Int) < (ns.length : Int) := by omega
      have ha : atI ns (k : Int) = some ns[k] := atI_nat (by simp [h])
      rw [ho, dif_pos h]
      simp [h, oIx_scr ha]
    · rw [ho, dif_neg h]
      simp [h]
  have hab : (0 : Int) ≤ (if own < 0 then -own else own) := by split <;> omega
  have sl : ∀ M, oSlE (.scr ns) none (some 4) M = .ok (.lst (cutD (ns.map D.int) none (some 4))) M := fun M => rfl
  have es : ∀ {env : EnvM} {M : List D}, env[0]? = some (.shr (.scr ns)) → (eSl oSlE (eVB 0) (eC .non) (eInt (eC (.int 4)))) env M = .ok (.lst (cutD (ns.map D.int) none (some 4))) M := fun {env M} h => by
    show ((eVB 0) env M).bind _ = _
    rw [eVB_eq, h]; rfl
  have es2 := es (env := [.shr (.scr ns), .shr (.int k), .shr (.int m0), .no, .no, .no]) (M := M2) rfl
  by_cases hd : own < 0 ∨ 1000000000000000000 ≤ own
  · refine ⟨(if own < 0 then -own else own), (m * 7907 + own * 65537 + 104729 * ((k : Int) + 1)) % 2147483587, hab, Int.emod_nonneg _ (by decide), ?_⟩
    simp [b__law_jar, -eIf_eq, c1, c2, c3, c5, c6, c7, p1, ← hm0, es2, e1, f3]
    rw [eOwn]
    rcases hd with hd | hd
    · simp [hd, c5, c6, c7, jr]
    · have hn : ¬ own < 0 := by omega
      simp [hd, hn, p1, c5, c6, c7, jr]
  · refine ⟨0, (m * 7907 + own * 65537 + 104729 * ((k : Int) + 1)) % 2147483587, Int.le_refl _, Int.emod_nonneg _ (by decide), ?_⟩
    have h1 : ¬ own < 0 := fun h => hd (.inl h)
    have h2 : ¬ 1000000000000000000 ≤ own := fun h => hd (.inr h)
    simp [b__law_jar, -eIf_eq, c1, c2, c3, c5, c6, c7, p1, ← hm0, es2, e1, f3]
    rw [eOwn]
    simp [h1, h2, p1, c5, c6, c7, jr]
theorem pick_ok {M : List D} {n : Nat} {ms : List D} (hj : JarAt M n) (h1 : ms ≠ []) (h2 : ms.length < 1000) :
    ∃ v M', c__law_pick [.cel n, .lst ms] M = .ok v M' ∧ v ∈ ms ∧ JarAt M' n := by
  have hl : 0 < ms.length := List.length_pos_iff.mpr h1
  obtain ⟨v, M', e, h3, h4, h5⟩ := dip_ok (m := (ms.length : Int)) hj (by omega) (by omega)
  have e0 : env0 N__law_pick.length [.cel n, .lst ms] = [.shr (.cel n), .shr (.lst ms), .no] := rfl
  obtain ⟨k, rfl⟩ : ∃ k : Nat, v = (k : Int) := ⟨v.toNat, by omega⟩
  have hk : k < ms.length := by omega
  have e2 : atI ms ((k : Nat) : Int) = some ms[k] := atI_nat (by simp [hk])
  refine ⟨ms[k], M', ?_, List.getElem_mem _, h5⟩
  unfold c__law_pick
  rw [e0]
  simp [b__law_pick, e, e2]
end HP
set_option maxRecDepth 100000
set_option maxHeartbeats 1000000
namespace HP
open MP PySem L2
theorem inRn {n : Nat} (h : n ≤ 1000000) : inR (n : Int) := inR_of (by omega) (by omega)
theorem inRn1 {n : Nat} (h : n ≤ 1000000) : inR ((n : Int) + 1) := inR_of (by omega) (by omega)
theorem inRnm {n : Nat} (h : n ≤ 1000000) : inR ((n : Int) - 1) := inR_of (by omega) (by omega)
theorem rng0 {n : Nat} : rngD 0 n = (List.range n).map fun (k : Nat) => D.int (k : Int) := by
  unfold rngD
  refine List.map_congr_left fun k _ => ?_
  rw [Int.zero_add]
theorem rngn {a n : Nat} : rngD (a : Int) n = (List.range n).map fun (k : Nat) => D.int ((a + k : Nat) : Int) := by
  unfold rngD
  refine List.map_congr_left fun k _ => ?_
  rw [Int.natCast_add]
section
variable {M : List D} {n a b : Nat}
theorem rngL1_m (h : n ≤ 1000000) : rngL1 (.int ((n : Int) - 1)) M = .ok ((List.range (n - 1)).map fun (k : Nat) => D.int (k : Int)) M := by
  rw [rngL1_int (inRnm h), rng0]
  congr 3
  omega
theorem rngL2_1 (h : a ≤ 1000000) (h2 : b ≤ 1000000) : rngL2 (.int ((a : Int) + 1)) (.int (b : Int)) M = .ok ((List.range (b - (a + 1))).map fun (k : Nat) => D.int ((a + 1 + k : Nat) : Int)) M := by
  rw [rngL2_int (inRn1 h) (inRn h2), show (a : Int) + 1 = ((a + 1 : Nat) : Int) from rfl, rngn]
  congr 3
  omega
end
def row (n i : Nat) : List (Nat × Nat) := (List.range (n - (i + 1))).map fun k => (i, i + 1 + k)
theorem hauls_eq {n : Nat} : hauls n = (List.range (n - 1)).flatMap (row n) := rfl
theorem row_len {n i : Nat} : (row n i).length = n - (i + 1) := by simp [row]
theorem flat_len {n : Nat} : ∀ {xs : List Nat}, (xs.flatMap (row n)).length ≤ xs.length * n
  | [] => by simp
  | x :: xs => by
    rw [List.flatMap_cons, List.length_append, row_len, List.length_cons, Nat.succ_mul]
    have := flat_len (n := n) (xs := xs)
    omega
theorem pre_range {n x : Nat} {pre post : List Nat} (e : List.range n = pre ++ x :: post) : pre = List.range x ∧ x < n := by
  have hl : pre.length < n := by have := congrArg List.length e; simp at this; omega
  have hx : (List.range n)[pre.length]? = some x := by rw [e]; simp
  rw [List.getElem?_range hl] at hx
  have hx : pre.length = x := by simpa using hx
  refine ⟨?_, by omega⟩
  have h1 : (List.range n).take pre.length = pre := by rw [e]; simp
  rw [List.take_range] at h1
  rw [← h1, hx]
  congr 1
  omega
theorem hauls_of_ok {n : Nat} (hn : n ≤ 10) {M : List D} : c_hauls_of [.int (n : Int)] M = .ok (.lst ((hauls n).map hDp)) M := by
  have e0 : env0 N_hauls_of.length [.int (n : Int)] = [.shr (.int n), .no, .no, .no] := rfl
  obtain ⟨env2, M2, e1, x2, f2, rfl, rfl⟩ := forL_pre (gd := gN 2) (b := b_hauls_of_2) (enc := fun (k : Nat) => D.int (k : Int)) (xs := List.range (n - 1))
    (P := fun pre env M' => ∃ x2 : MP.B, x2.free ∧ env = [.shr (.int n), .shr (.lst ((pre.flatMap (row n)).map hDp)), x2, .no] ∧ M' = M) (by
      rintro pre x post env M' e ⟨x2, f2, rfl, rfl⟩
      obtain ⟨hp, hx⟩ := pre_range e
      refine ⟨_, by simp [f2]; rfl, _, _, .inl ?_, .shr (.int x), trivial, rfl, rfl⟩
      have cm := compL_map (gd := gN 3) (ft := eC (.bl true)) (fe := b_hauls_of_1) (env0 := [.shr (.int n), .shr (.lst ((pre.flatMap (row n)).map hDp)), .shr (.int x), .no]) (enc := fun (k : Nat) => D.int ((x + 1 + k : Nat) : Int)) (g := fun k => hD x (x + 1 + k)) (M := M') (xs := List.range (n - (x + 1))) (acc := [])
        (sz45 (by simp; omega)) fun k _ => ⟨_, by simp; rfl, rfl, by simp [b_hauls_of_1]⟩
      have fl := flat_len (n := n) (xs := pre)
      have pl : pre.length ≤ 10 := by rw [hp]; simp; omega
      have pm : pre.length * n ≤ 10 * 10 := Nat.mul_le_mul pl hn
      have ad := fun M => oAdd_lst (M := M) (xs := (pre.flatMap (row n)).map hDp) (ys := (List.range (n - (x + 1))).map fun k => hD x (x + 1 + k)) (by simp only [List.length_map, List.length_range]; omega)
      simp [b_hauls_of_2, rngL2_1 (show x ≤ 1000000 by omega) (show n ≤ 1000000 by omega), cm, ad, -Int.natCast_add, row, Function.comp_def])
    (env := [.shr (.int n), .shr (.lst []), .no, .no]) (M := M) ⟨.no, trivial, rfl, rfl⟩
  unfold c_hauls_of
  rw [e0]
  simp [b_hauls_of, rngL1_m (show n ≤ 1000000 by omega), e1, ← hauls_eq]
end HP
set_option maxRecDepth 100000
set_option maxHeartbeats 1000000
namespace HP
open MP PySem L2
section
variable {M : List D} {n i j k l : Nat} {f : Nat → Nat → D}
theorem rides_ok (hn : n ≤ 10) : c__law_rides [.int (n : Int)] M = .ok (.lst ((hauls n).map hDp)) M := hauls_of_ok hn
@[simp] theorem at0 {x : D} {xs : List D} : atI (x :: xs) 0 = some x := atI_nat (j := 0) rfl
@[simp] theorem at1 {x y : D} {xs : List D} : atI (x :: y :: xs) 1 = some y := atI_nat (j := 1) rfl
@[simp] theorem at2 {x y z : D} {xs : List D} : atI (x :: y :: z :: xs) 2 = some z := atI_nat (j := 2) rfl
end
end HP
set_option maxRecDepth 100000
set_option maxHeartbeats 1000000
namespace HP
open MP PySem L2
def odT (f : Tab) : Nat → Nat → D := fun i j => od (f i j)
theorem odT_up {f : Tab} {i j : Nat} {v : Option Int} : upD (odT f) i j (od v) = odT (up2 f i j v) := by
  funext a b
  unfold upD odT up2
  split <;> rfl
section
variable {M : List D} {n i j k l : Nat} {f : Nat → Nat → D} {h : Tab} {w : Str}
theorem ix_odT (a : At n i j) : oIx (tabD n (odT h)) (.tup [.int i, .int j]) M = .ok (od (h i j)) M := ix_tab a
theorem sub_tab (hn : n ≤ 10) (a : At n i j) {v : D} : stSub (hD i j) v (tabD n f) = some (tabD n (upD f i j v)) := by
  show (match keysD [D.int i, D.int j] with | some q => if (tab n f).length < sizeLine then some (D.dT (insK (tab n f) q v)) else none | none => none) = _
  rw [keysD_h]
  dsimp only
  rw [if_pos (by rw [tab_len]; exact Nat.lt_of_le_of_lt (hauls_len n hn) (by decide))]
  have := ins_tab (f := f) (v := v) a
  rw [this]
@[simp] theorem isN_od {o : Option Int} : (od o).isN = o.isNone := by cases o <;> rfl
end
end HP
set_option maxRecDepth 100000
set_option maxHeartbeats 1000000
namespace HP
open MP PySem L2
section
variable {M : List D} {n i j k l : Nat} {h : Tab} {w : Str}
end
end HP
set_option maxRecDepth 100000
set_option maxHeartbeats 1000000
namespace HP
open MP PySem L2
section
variable {M : List D} {n : Nat} {g : Tab} {w : Str}
end
end HP
set_option maxRecDepth 100000
set_option maxHeartbeats 1000000
namespace HP
open MP PySem L2
def InB (n : Nat) (g : Tab) (B : Int) : Prop := ∀ i j, At n i j → ∃ v, g i j = some v ∧ 0 ≤ v ∧ v ≤ B
theorem InB.nn {n : Nat} {g : Tab} {B : Int} (h : InB n g B) : NN n g := fun i j v a e => by
  obtain ⟨u, e1, l, _⟩ := h i j a
  rw [e1] at e; cases e; exact l
end HP
set_option maxRecDepth 100000
set_option maxHeartbeats 1000000
namespace HP
open MP PySem L2
def wayD : Option Wy → D
  | none => .non
  | some p => .tup [.int p.1, .tup (p.2.map hDp)]
@[simp] theorem wayD_none : wayD none = .non := rfl
@[simp] theorem wayD_some {p : Wy} : wayD (some p) = .tup [.int p.1, .tup (p.2.map hDp)] := rfl
def cheaper (a b : Wy) : Bool := HT.lexLt [b.1, (b.2.length : Int)] [a.1, (a.2.length : Int)]
def betterW : Option Wy → Option Wy → Option Wy
  | none, o => o
  | some a, none => some a
  | some a, some b => if cheaper a b = true then some b else some a
theorem cheaper_le {a b : Wy} : if cheaper a b = true then b.1 ≤ a.1 else a.1 ≤ b.1 := by
  split
  · rename_i h
    unfold cheaper at h
    rw [HT.lexLt_cons] at h
    split at h
    · omega
    · have := of_decide_eq_true h; omega
  · rename_i h
    unfold cheaper at h
    rw [HT.lexLt_cons] at h
    split at h
    · omega
    · have : ¬ b.1 < a.1 := fun z => h (decide_eq_true z)
      omega
theorem betterW_ss {a b : Wy} : betterW (some a) (some b) = if cheaper a b = true then some b else some a := rfl
def bestW (xs : List (Option Wy)) : Option Wy := xs.foldl betterW none
theorem betterW_l {a : Wy} {b : Option Wy} : ∃ x, betterW (some a) b = some x ∧ x.1 ≤ a.1 := by
  cases b with
  | none => exact ⟨a, rfl, Int.le_refl _⟩
  | some b =>
    have := cheaper_le (a := a) (b := b)
    rw [betterW_ss]
    split
    · rename_i h; rw [if_pos h] at this; exact ⟨b, rfl, this⟩
    · exact ⟨a, rfl, Int.le_refl _⟩
theorem betterW_r {a : Option Wy} {b : Wy} : ∃ x, betterW a (some b) = some x ∧ x.1 ≤ b.1 := by
  cases a with
  | none => exact ⟨b, rfl, Int.le_refl _⟩
  | some a =>
    have := cheaper_le (a := a) (b := b)
    rw [betterW_ss]
    split
    · exact ⟨b, rfl, Int.le_refl _⟩
    · rename_i h; rw [if_neg h] at this; exact ⟨a, rfl, this⟩
theorem betterW_mem {a b : Option Wy} {x : Wy} (h : betterW a b = some x) : a = some x ∨ b = some x := by
  cases a with
  | none => exact .inr h
  | some a =>
    cases b with
    | none => exact .inl h
    | some b =>
      rw [betterW_ss] at h
      split at h
      · exact .inr h
      · exact .inl h
theorem bestW_mem {xs : List (Option Wy)} {x : Wy} (h : bestW xs = some x) : some x ∈ xs := by
  have key := foldl_inv (s := betterW) (xs := xs) (b := (none : Option Wy)) (fun pre c => ∀ x, c = some x → some x ∈ pre) (fun x e => nomatch e) (by
    intro pre y post c e p x hx
    rcases betterW_mem hx with h | h
    · exact List.mem_append_left _ (p x h)
    · rw [h]; simp)
  exact key x h
theorem bestW_le {xs : List (Option Wy)} {y : Wy} (h : some y ∈ xs) : ∃ x, bestW xs = some x ∧ x.1 ≤ y.1 := by
  have key := foldl_inv (s := betterW) (xs := xs) (b := (none : Option Wy)) (fun pre c => ∀ y, some y ∈ pre → ∃ x, c = some x ∧ x.1 ≤ y.1) (fun y e => nomatch e) (by
    intro pre z post c e p y hy
    rcases List.mem_append.mp hy with h | h
    · obtain ⟨x, rfl, l⟩ := p y h
      obtain ⟨x', e', l'⟩ := betterW_l (a := x) (b := z)
      exact ⟨x', e', by omega⟩
    · simp at h
      subst h
      exact betterW_r)
  exact key y h
end HP
set_option maxRecDepth 100000
set_option maxHeartbeats 1000000
namespace HP
open MP PySem L2
abbrev WF := Nat → Option Wy
def upF (F : WF) (b : Nat) (v : Option Wy) : WF := fun e => if e = b then v else F e
def wStep (w : Str) (g : Tab) (s : Nat) (way : Option Wy) (F : WF) (h : Nat × Nat) : WF := match way, g h.1 h.2 with
  | some x, some p => if fits w h.1 h.2 s then upF F h.2 (betterW (F h.2) (some (x.1 + p, x.2 ++ [h]))) else F
  | _, _ => F
def sStep (w : Str) (n : Nat) (g : Tab) (F : WF) (s : Nat) : WF := (hauls n).foldl (wStep w g s (F s)) F
def f0 (i : Nat) : WF := fun e => if e = i then some (0, []) else none
def waysF (w : Str) (n : Nat) (g : Tab) (i : Nat) : WF := ((List.range (n - i)).map fun k => i + k).foldl (sStep w n g) (f0 i)
section
variable {w : Str} {n : Nat} {g : Tab} {i s : Nat} {F : WF}
def Snd (w : Str) (n : Nat) (g : Tab) (i : Nat) (F : WF) : Prop := ∀ e c cs, F e = some (c, cs) → Way w n g i e c cs
def Imp (F F' : WF) : Prop := ∀ e x, F e = some x → ∃ y, F' e = some y ∧ y.1 ≤ x.1
theorem Imp.refl : Imp F F := fun _ x h => ⟨x, h, Int.le_refl _⟩
theorem Imp.trans {F' F2 : WF} (a : Imp F F') (b : Imp F' F2) : Imp F F2 := fun e x h => by
  obtain ⟨y, h1, l1⟩ := a e x h
  obtain ⟨z, h2, l2⟩ := b e y h1
  exact ⟨z, h2, by omega⟩
theorem upF_same {b : Nat} {v : Option Wy} : upF F b v b = v := by simp [upF]
theorem upF_ne {b e : Nat} {v : Option Wy} (h : e ≠ b) : upF F b v e = F e := by simp [upF, h]
theorem wStep_imp {way : Option Wy} {h : Nat × Nat} : Imp F (wStep w g s way F h) := by
  unfold wStep
  split
  · split
    · intro e x hx
      by_cases q : e = h.2
      · subst q
        rw [upF_same, hx]
        exact betterW_l
      · rw [upF_ne q]; exact ⟨x, hx, Int.le_refl _⟩
    · exact Imp.refl
  · exact Imp.refl
theorem wStep_snd {way : Option Wy} {h : Nat × Nat} (hh : h ∈ hauls n) (hw : ∀ x, way = some x → Way w n g i s x.1 x.2) (hF : Snd w n g i F) : Snd w n g i (wStep w g s way F h) := by
  unfold wStep
  split
  · rename_i x p e1
    split
    · rename_i hf
      intro e c cs he
      by_cases q : e = h.2
      · subst q
        rw [upF_same] at he
        rcases betterW_mem he with z | z
        · exact hF _ c cs z
        · cases z
          exact (hw x rfl).snoc (hauls_lt hh) e1 hf
      · rw [upF_ne q] at he; exact hF e c cs he
    · exact hF
  · exact hF
theorem sStep_ok (hF : Snd w n g i F) : Snd w n g i (sStep w n g F s) ∧ Imp F (sStep w n g F s) ∧ ∀ x, F s = some x → ∀ a b p, At n a b → g a b = some p → fits w a b s → ∃ y, sStep w n g F s b = some y ∧ y.1 ≤ x.1 + p := by
  have key := foldl_inv (s := wStep w g s (F s)) (xs := hauls n) (b := F) (fun pre c => Snd w n g i c ∧ Imp F c ∧ ∀ x, F s = some x → ∀ h ∈ pre, ∀ p, g h.1 h.2 = some p → fits w h.1 h.2 s → ∃ y, c h.2 = some y ∧ y.1 ≤ x.1 + p) ⟨hF, Imp.refl, fun _ _ _ h => nomatch h⟩ (by
    rintro pre h post c e ⟨k1, k2, k3⟩
    have hh : h ∈ hauls n := by rw [e]; simp
    refine ⟨wStep_snd hh (fun x hx => hF s x.1 x.2 hx) k1, k2.trans wStep_imp, fun x hx h' hm p hp hf => ?_⟩
    rcases List.mem_append.mp hm with z | z
    · obtain ⟨y, y1, y2⟩ := k3 x hx h' z p hp hf
      obtain ⟨y', y3, y4⟩ := wStep_imp (w := w) (g := g) (s := s) (way := F s) (h := h) h'.2 y y1
      exact ⟨y', y3, by omega⟩
    · simp at z
      subst z
      have e2 : wStep w g s (F s) c h' = upF c h'.2 (betterW (c h'.2) (some (x.1 + p, x.2 ++ [h']))) := by
        unfold wStep
        rw [hx, hp]
        dsimp only
        rw [if_pos hf]
      rw [e2, upF_same]
      exact betterW_r)
  exact ⟨key.1, key.2.1, fun x hx a b p v hp hf => key.2.2 x hx (a, b) (mem_hauls.mpr v) p hp hf⟩
def Opt (w : Str) (n : Nat) (g : Tab) (i s : Nat) (F : WF) : Prop := (∃ y, F i = some y ∧ y.1 ≤ 0) ∧ ∀ s' < s, ∀ c cs, Way w n g i s' c cs → ∀ a b p, At n a b → g a b = some p → fits w a b s' → ∃ y, F b = some y ∧ y.1 ≤ c + p
theorem Opt.get (h : Opt w n g i s F) {e : Nat} {c : Int} {cs : List (Nat × Nat)} (k : Way w n g i e c cs) (he : e ≤ s) : ∃ y, F e = some y ∧ y.1 ≤ c := by
  cases k with
  | nil => exact h.1
  | snoc k v hp hf => exact h.2 _ (by have := fits_lt v hf; omega) _ _ k _ _ _ v hp hf
theorem waysF_ok (hi : i < n) : Snd w n g i (waysF w n g i) ∧ ∀ e c cs, Way w n g i e c cs → ∃ y, waysF w n g i e = some y ∧ y.1 ≤ c := by
  have b1 : Snd w n g i (f0 i) := fun e c cs h => by
    unfold f0 at h
    split at h
    · rename_i q; subst q; cases h; exact .nil
    · cases h
  have b2 : Opt w n g i (i + ([] : List Nat).length) (f0 i) := ⟨⟨(0, []), by simp [f0], Int.le_refl _⟩, fun s' hs c cs k => by
    have := k.ge
    simp at hs
    omega⟩
  have key := foldl_inv (s := sStep w n g) (xs := (List.range (n - i)).map fun k => i + k) (b := f0 i) (fun pre c => Snd w n g i c ∧ Opt w n g i (i + pre.length) c) ⟨b1, b2⟩ (by
    rintro pre s post c e ⟨k1, k2⟩
    have hs : s = i + pre.length := by
      have e2 : ((List.range (n - i)).map fun k => i + k)[pre.length]? = some s := by rw [e]; simp
      have hl : pre.length < n - i := by have := congrArg List.length e; simp at this; omega
      rw [List.getElem?_map, List.getElem?_range hl] at e2
      simpa using e2.symm
    obtain ⟨j1, j2, j3⟩ := sStep_ok (s := s) k1
    refine ⟨j1, ?_, fun s' hs' cc cs k a b p v hp hf => ?_⟩
    · obtain ⟨y, y1, y2⟩ := k2.1
      obtain ⟨z, z1, z2⟩ := j2 i y y1
      exact ⟨z, z1, by omega⟩
    · simp at hs'
      by_cases q : s' < i + pre.length
      · obtain ⟨y, y1, y2⟩ := k2.2 s' q cc cs k a b p v hp hf
        obtain ⟨z, z1, z2⟩ := j2 b y y1
        exact ⟨z, z1, by omega⟩
      · have e3 : s' = s := by omega
        subst e3
        obtain ⟨y, y1, y2⟩ := k2.get k (by omega)
        obtain ⟨z, z1, z2⟩ := j3 y y1 a b p v hp hf
        exact ⟨z, z1, by omega⟩)
  refine ⟨key.1, fun e c cs k => ?_⟩
  refine key.2.get k ?_
  have := k.lt hi
  simp
  omega
end
def KF (kvs : List (Key × D)) (F : WF) : Prop := ∀ e : Nat, valK kvs (.inl (e : Int)) = (F e).map fun x => wayD (some x)
theorem KF.get {kvs : List (Key × D)} {F : WF} (h : KF kvs F) (e : Nat) {M : List D} : getR .non (some (valK kvs (.inl (e : Int)))) M = .ok (wayD (F e)) M := by
  rw [h e]
  cases F e <;> rfl
section
variable {M : List D} {n s i : Nat} {g : Tab} {w : Str} {F : WF} {kvs : List (Key × D)}
end
end HP
set_option maxRecDepth 100000
set_option maxHeartbeats 1000000
namespace HP
open MP PySem L2
section
variable {n s i : Nat} {g : Tab} {w : Str} {F : WF} {kvs : List (Key × D)}
end
end HP
set_option maxRecDepth 100000
set_option maxHeartbeats 1000000
namespace HP
open MP PySem L2
def arL (n : Nat) (g : Tab) (i j : Nat) : List (Nat × Nat) := ((hauls n).filter fun o => decide (o.1 ≤ i ∧ j ≤ o.2)).filter fun o => (g o.1 o.2).isSome
def oneW (g : Tab) (o : Nat × Nat) : Option Wy := (g o.1 o.2).map fun p => (p, [o])
def covT (w : Str) (n : Nat) (g : Tab) (i j : Nat) : Option Wy :=
  if w = "long" then bestW ((arL n g i j).map (oneW g)) else if w = "parts" then waysF w n g i j else bestW ((List.range (n - j)).map fun k => waysF w n g i (j + k))
theorem covT_ok {w : Str} {n : Nat} {g : Tab} : CovOk w n g (covT w n g) := by
  refine ⟨fun i j c cs a e => ?_, fun i j c cs a h => ?_⟩
  · unfold covT at e
    unfold Cover
    by_cases hl : w = "long"
    · rw [if_pos hl] at e ⊢
      obtain ⟨o, ho, e2⟩ := List.mem_map.mp (bestW_mem e)
      unfold arL at ho
      rw [List.mem_filter, List.mem_filter] at ho
      obtain ⟨⟨h1, h2⟩, h3⟩ := ho
      obtain ⟨h4, h5⟩ := of_decide_eq_true h2
      unfold oneW at e2
      cases q : g o.1 o.2 with
      | none => rw [q] at e2; cases e2
      | some p => rw [q] at e2; cases e2; exact ⟨o.1, o.2, h4, h5, hauls_lt h1, q, rfl⟩
    · rw [if_neg hl] at e ⊢
      have ok := waysF_ok (w := w) (n := n) (g := g) (i := i) (by have := a.1; have := a.2; omega)
      by_cases hp : w = "parts"
      · rw [if_pos hp] at e
        exact ⟨j, ok.1 j c cs e, by unfold endsOk; rw [if_pos hp]⟩
      · rw [if_neg hp] at e
        obtain ⟨k, hk, e2⟩ := List.mem_map.mp (bestW_mem e)
        exact ⟨j + k, ok.1 _ c cs e2, by unfold endsOk; rw [if_neg hp]; omega⟩
  · unfold Cover at h
    unfold covT
    by_cases hl : w = "long"
    · rw [if_pos hl] at h ⊢
      obtain ⟨k, l, h1, h2, h3, h4, _⟩ := h
      have : some (c, [(k, l)]) ∈ (arL n g i j).map (oneW g) := by
        refine List.mem_map.mpr ⟨(k, l), ?_, by unfold oneW; rw [h4]; rfl⟩
        unfold arL
        rw [List.mem_filter, List.mem_filter]
        exact ⟨⟨mem_hauls.mpr h3, decide_eq_true ⟨h1, h2⟩⟩, by rw [h4]; rfl⟩
      obtain ⟨x, hx, lx⟩ := bestW_le this
      exact ⟨x.1, x.2, hx, lx⟩
    · rw [if_neg hl] at h ⊢
      have ok := waysF_ok (w := w) (n := n) (g := g) (i := i) (by have := a.1; have := a.2; omega)
      obtain ⟨e, wy, he⟩ := h
      obtain ⟨y, y1, y2⟩ := ok.2 e c cs wy
      by_cases hp : w = "parts"
      · rw [if_pos hp]
        unfold endsOk at he
        rw [if_pos hp] at he
        subst he
        exact ⟨y.1, y.2, y1, y2⟩
      · rw [if_neg hp]
        unfold endsOk at he
        rw [if_neg hp] at he
        have le := wy.lt (by have := a.1; have := a.2; omega)
        have : some y ∈ (List.range (n - j)).map fun k => waysF w n g i (j + k) := List.mem_map.mpr ⟨e - j, by simp; omega, by rw [show j + (e - j) = e by omega]; exact y1⟩
        obtain ⟨x, hx, lx⟩ := bestW_le this
        exact ⟨x.1, x.2, hx, by omega⟩
section
variable {M : List D} {n i j : Nat} {g : Tab} {w : Str}
end
end HP
set_option maxRecDepth 100000
set_option maxHeartbeats 1000000
namespace HP
open MP PySem L2
section
variable {M : List D} {n i j k : Nat} {g : Tab} {w : Str}
end
end HP
set_option maxRecDepth 100000
set_option maxHeartbeats 1000000
namespace HP
open MP PySem L2
section
variable {M : List D} {n i j k : Nat} {f : Tab} {w : Str}
theorem isprice_ok {v : Int} : c_is_price [.int v] M = .ok (.bl (decide (0 ≤ v ∧ v ≤ 1000000000000))) M := by
  have e0 : env0 N_is_price.length [.int v] = [.shr (.int v)] := rfl
  have e1 : env0 N_is_within.length [.int v, .int 0, .int 1000000000000] = [.shr (.int v), .shr (.int 0), .shr (.int 1000000000000)] := rfl
  have e2 : env0 N_is_integer.length [.int v] = [.shr (.int v)] := rfl
  have t1 : isT "int" [] (.int v) = some true := rfl
  have t2 : isT "bool" [] (.int v) = some false := rfl
  unfold c_is_price
  rw [e0]
  by_cases h : 0 ≤ v
  · simp [b_is_price, c_is_within, e1, b_is_within, c_is_integer, e2, b_is_integer, t1, t2, h]
  · simp [b_is_price, c_is_within, e1, b_is_within, c_is_integer, e2, b_is_integer, t1, t2, h]
@[simp] theorem oIsi_str {kk : D → Option Bool} {z : Str} : oIsi kk (.str z) M = (match kk (.str z) with | some b => .ok (.bl b) M | none => .stuck) := rfl
@[simp] theorem isT_tup {xs} : isT "tuple" [] (.tup xs) = some true := rfl
@[simp] theorem isT_str {z} : isT "str" [] (.str z) = some true := rfl
end
end HP
set_option maxRecDepth 100000
set_option maxHeartbeats 1000000
namespace HP
open MP PySem L2
theorem forL_same {α : Type} {gd : D → EnvM → Option EnvM} {b : SF} {enc : α → D} {xs : List α} (P : EnvM → Prop) {M : List D}
    (h : ∀ x ∈ xs, ∀ env, P env → ∃ env1, gd (enc x) env = some env1 ∧ ∃ env2, b env1 M = .next env2 M ∧ P env2) {env : EnvM} (h0 : P env) : ∃ env2, forL gd b (xs.map enc) env M = .next env2 M ∧ P env2 := by
  obtain ⟨env2, M2, e, p, rfl⟩ := forL_pre (gd := gd) (b := b) (enc := enc) (xs := xs) (P := fun _ env M' => P env ∧ M' = M) (by
    rintro pre x post env M' e ⟨p, rfl⟩
    obtain ⟨env1, h1, env2, h2, h3⟩ := h x (by rw [e]; simp) env p
    exact ⟨env1, h1, env2, M', .inl h2, h3, rfl⟩) (env := env) (M := M) ⟨h0, rfl⟩
  exact ⟨env2, e, p⟩
def Tot (n : Nat) (f : Tab) : Prop := ∀ i j, At n i j → ∃ v, f i j = some v
section
variable {M : List D} {n i j k : Nat} {f : Tab} {w : Str}
def clT (w : Str) (n : Nat) (g : Tab) : Tab := fun i j => costO (covT w n g i j)
theorem clT_ok {g : Tab} (hg : NN n g) : IsCl w n g (clT w n g) := covT_ok.cl hg
end
end HP
set_option maxRecDepth 100000
set_option maxHeartbeats 1000000
namespace HP
open MP PySem L2
section
variable {M : List D} {n i j k : Nat} {f g : Tab} {w : Str}
theorem sum_le {α : Type} {h : α → Nat} {b : Nat} : ∀ {xs : List α}, (∀ x ∈ xs, h x ≤ b) → (xs.map h).sum ≤ xs.length * b
  | [], _ => by simp
  | x :: xs, hh => by
    have := sum_le fun y hy => hh y (List.mem_cons_of_mem x hy)
    have := hh x (by simp)
    simp only [List.map_cons, List.sum_cons, List.length_cons, Nat.succ_mul]
    omega
def Wr (n : Nat) (f : Tab) : Prop := ∀ i j, At n i j → ∃ v, f i j = some v ∧ v.natAbs < 2 ^ 1900
theorem log2_lt {m k : Nat} (hk : 0 < k) (h : m < 2 ^ k) : m.log2 < k := by
  by_cases z : m = 0
  · subst z; simpa using hk
  · exact (Nat.log2_lt z).mpr h
theorem InB.wr {B : Int} (h : InB n f B) (hB : B ≤ 10 ^ 400) : Wr n f := fun i j a => by
  obtain ⟨v, e, l1, l2⟩ := h i j a
  refine ⟨v, e, ?_⟩
  have : (10 : Int) ^ 400 < 2 ^ 1900 := by decide
  have h2 : v < 2 ^ 1900 := by omega
  have h3 : (v.natAbs : Int) < ((2 ^ 1900 : Nat) : Int) := by rw [Int.natAbs_of_nonneg l1]; exact h2
  exact Int.ofNat_lt.mp h3
theorem oEq_pl {k : Nat} {d e : D} (h1 : pl k d = true) (h2 : pl k e = true) (h3 : nb k d = true) (h4 : nb k e = true) (hk : k ≤ 64) (hd : isRef d = true) : ∃ b, (∀ M, oEq d e M = .ok (.bl b) M) ∧ (b = true ↔ d = e) := by
  obtain ⟨p, _, p2, p3, p4, _⟩ := pl_ok k d h1
  obtain ⟨q, _, q2, q3, q4, _⟩ := pl_ok k e h2
  have ev := eqv_ok k h1 h2 h3 h4 p2 q2
  refine ⟨PyData.eqv p q, fun M => ?_, ev⟩
  have vd : view M d = d := by cases d <;> first | rfl | cases hd
  have ve : view M e = e := by cases e <;> first | rfl | (cases k <;> simp [pl] at h2)
  have sp : SeqAt.shaped p = true := by unfold SeqAt.shaped; rw [p3, decide_eq_true (Nat.le_trans p4 hk)]; rfl
  have sq : SeqAt.shaped q = true := by unfold SeqAt.shaped; rw [q3, decide_eq_true (Nat.le_trans q4 hk)]; rfl
  have e1 : eqS d e = none := by cases d <;> first | (cases hd; done) | (cases e <;> rfl)
  have e2 : eqD d e = some (PyData.eqv p q) := by
    unfold eqD eqP
    rw [e1, p2, q2]
    dsimp only
    rw [if_pos ⟨sp, sq⟩]
  show (match eqD (view M d) (view M e) with | some b => R.ok (.bl b) M | none => .stuck) = _
  rw [vd, ve, e2]
@[simp] theorem isRef_tup {xs} : isRef (.tup xs) = true := rfl
@[simp] theorem isRef_lst {xs} : isRef (.lst xs) = true := rfl
theorem int_pl {v : Int} (h : v.natAbs < 2 ^ 1900) : pl k (.int v) = true := by
  have : decide (v.natAbs.log2 < 1920) = true := decide_eq_true (Nat.lt_of_lt_of_le (log2_lt (by decide) h) (by decide))
  cases k <;> exact this
theorem wt_int {v : Int} : wt k (.int v) = 1921 := by cases k <;> rfl
theorem wt_str : wt k (.str w) = (reprText w).length := by cases k <;> rfl
end
end HP
set_option maxRecDepth 100000
set_option maxHeartbeats 2000000
namespace HP
open MP PySem L2
section
variable {M : List D} {n i j k c : Nat} {f g : Tab} {w : Str} {most : Int}
end
end HP
set_option maxRecDepth 100000
set_option maxHeartbeats 2000000
namespace HP
open MP PySem L2
section
variable {M : List D} {n i j k c : Nat} {f g : Tab} {w : Str}
def mxO : Option Int → Option Int → Option Int
  | some a, some b => some (mx2 a b)
  | _, _ => none
def mnO : Option Int → Option Int → Option Int
  | some a, some b => some (mn2 a b)
  | _, _ => none
def maxT (f g : Tab) : Tab := fun i j => mxO (f i j) (g i j)
def minT (f g : Tab) : Tab := fun i j => mnO (f i j) (g i j)
def cutT (f : Tab) (b : Nat) : Tab := fun i j => f (b + i) (b + j)
theorem mx2_le {a b : Int} : a ≤ mx2 a b ∧ b ≤ mx2 a b ∧ (mx2 a b = a ∨ mx2 a b = b) := by unfold mx2; split <;> omega
theorem mn2_le {a b : Int} : mn2 a b ≤ a ∧ mn2 a b ≤ b ∧ (mn2 a b = a ∨ mn2 a b = b) := by unfold mn2; split <;> omega
theorem InB.max {B : Int} (hf : InB n f B) (hg : InB n g B) : InB n (maxT f g) B := fun i j a => by
  obtain ⟨v, e, l1, l2⟩ := hf i j a
  obtain ⟨u, e2, l3, l4⟩ := hg i j a
  obtain ⟨m1, m2, m3⟩ := mx2_le (a := v) (b := u)
  exact ⟨mx2 v u, by show mxO _ _ = _; rw [e, e2]; rfl, by omega, by omega⟩
theorem InB.min {B : Int} (hf : InB n f B) (hg : InB n g B) : InB n (minT f g) B := fun i j a => by
  obtain ⟨v, e, l1, l2⟩ := hf i j a
  obtain ⟨u, e2, l3, l4⟩ := hg i j a
  obtain ⟨m1, m2, m3⟩ := mn2_le (a := v) (b := u)
  exact ⟨mn2 v u, by show mnO _ _ = _; rw [e, e2]; rfl, by omega, by omega⟩
theorem mxO_le {a b c d : Option Int} (h : leO a c) (k : leO b d) : leO (mxO a b) (mxO c d) := fun y e => by
  cases c with
  | none => cases e
  | some c =>
    cases d with
    | none => cases e
    | some d =>
      obtain ⟨x, rfl, l1⟩ := h c rfl
      obtain ⟨z, rfl, l2⟩ := k d rfl
      cases e
      obtain ⟨m1, m2, m3⟩ := mx2_le (a := x) (b := z)
      obtain ⟨q1, q2, q3⟩ := mx2_le (a := c) (b := d)
      exact ⟨_, rfl, by omega⟩
theorem mxO_add {a b c d : Option Int} : leO (mxO (addO a b) (addO c d)) (addO (mxO a c) (mxO b d)) := fun y e => by
  cases a with
  | none => cases e
  | some a =>
    cases c with
    | none => cases e
    | some c =>
      cases b with
      | none => cases e
      | some b =>
        cases d with
        | none => cases e
        | some d =>
          cases e
          obtain ⟨m1, m2, m3⟩ := mx2_le (a := a + b) (b := c + d)
          obtain ⟨q1, q2, q3⟩ := mx2_le (a := a) (b := c)
          obtain ⟨r1, r2, r3⟩ := mx2_le (a := b) (b := d)
          exact ⟨_, rfl, by omega⟩
theorem Keeps.max (hf : Keeps w n f) (hg : Keeps w n g) : Keeps w n (maxT f g) :=
  ⟨fun hw i j k l h1 h2 h3 h4 => mxO_le (hf.long hw i j k l h1 h2 h3 h4) (hg.long hw i j k l h1 h2 h3 h4),
   fun hw i j k h1 h2 h3 => (mxO_le (hf.parts hw i j k h1 h2 h3) (hg.parts hw i j k h1 h2 h3)).trans mxO_add⟩
theorem Keeps.cut {b m : Nat} (hf : Keeps w n f) (h : b + m ≤ n) : Keeps w m (cutT f b) :=
  ⟨fun hw i j k l h1 h2 h3 h4 => hf.long hw (b + i) (b + j) (b + k) (b + l) (by omega) (by omega) (by omega) (by omega),
   fun hw i j k h1 h2 h3 => hf.parts hw (b + i) (b + j) (b + k) (by omega) (by omega) (by omega)⟩
theorem InB.cut {b m : Nat} {B : Int} (hf : InB n f B) (h : b + m ≤ n) : InB m (cutT f b) B := fun i j a => hf (b + i) (b + j) ⟨by have := a.1; omega, by have := a.2; omega⟩
theorem sub_new (hn : n ≤ 10) {pre post : List (Nat × Nat)} {x : Nat × Nat} {h : Nat → Nat → D} (e : hauls n = pre ++ x :: post) :
    stSub (hDp x) (h x.1 x.2) (.dT (pre.map fun a => (hKp a, h a.1 a.2))) = some (.dT ((pre ++ [x]).map fun a => (hKp a, h a.1 a.2))) := by
  have pl : pre.length < sizeLine := by
    have := congrArg List.length e
    simp at this
    have := hauls_len n hn
    exact Nat.lt_of_le_of_lt (show pre.length ≤ 45 by omega) (by decide)
  show (match keysD [D.int x.1, D.int x.2] with | some q => if (pre.map fun a => (hKp a, h a.1 a.2)).length < sizeLine then some (D.dT (insK (pre.map fun a => (hKp a, h a.1 a.2)) q (h x.1 x.2))) else none | none => none) = _
  rw [keysD_h]
  dsimp only
  rw [if_pos (by rw [List.length_map]; exact pl), List.map_append]
  exact congrArg some (congrArg D.dT (ins_new (f := h) e))
def nv (f : Tab) (i j : Nat) : Int := (f i j).getD 0
theorem Tot.nv (h : Tot n f) (a : At n i j) : f i j = some (nv f i j) := by
  obtain ⟨v, e⟩ := h i j a
  unfold HP.nv; rw [e]; rfl
theorem ixn (ht : Tot n f) {a b : Nat} (h : At n a b) : oIx (tabD n (odT f)) (.tup [.int a, .int b]) M = .ok (.int (nv f a b)) M := by
  have := ix_odT (h := f) (M := M) h
  rw [ht.nv h] at this; exact this
end
end HP
set_option maxRecDepth 100000
set_option maxHeartbeats 2000000
namespace HP
open MP PySem L2
section
variable {M : List D} {n i j k c : Nat} {f g : Tab} {w : Str}
theorem oNe_of {d e : D} {b : Bool} (h : ∀ M, oEq d e M = .ok (.bl b) M) : oNe d e M = .ok (.bl !b) M := by
  have h := h M
  unfold oEq at h
  unfold oNe
  split at h
  · rename_i c hc; cases h; rfl
  · cases h
theorem isint_ok {v : Int} : c_is_integer [.int v] M = .ok (.bl true) M := rfl
theorem nat_pl (hn : n ≤ 10) : pl k (.int (n : Int)) = true := int_pl (by have : (n : Int).natAbs = n := rfl; rw [this]; exact Nat.lt_of_le_of_lt hn (by decide))
end
end HP
set_option maxRecDepth 100000
set_option maxHeartbeats 2000000
namespace HP
open MP PySem L2
section
variable {M : List D} {n i j k c : Nat} {f g : Tab} {w : Str}
theorem ishaul_ok {b e : Int} (h0 : 0 ≤ b) (h : b < e) (he : e < (n : Int)) : c_is_haul [.tup [.int b, .int e], .int (n : Int)] M = .ok (.bl true) M := by
  have e0 : env0 N_is_haul.length [.tup [.int b, .int e], .int (n : Int)] = [.shr (.tup [.int b, .int e]), .shr (.int n), .no] := rfl
  have cm := compL_map (gd := gN 2) (ft := eC (.bl true)) (fe := b_is_haul_1) (env0 := [.shr (.tup [.int b, .int e]), .shr (.int n), .no]) (enc := D.int) (g := fun _ => .bl true) (M := M) (xs := [b, e]) (acc := [])
    (by simp; decide) (fun h hh => ⟨_, by simp; rfl, rfl, by simp [b_is_haul_1, isint_ok]⟩)
  have ba := bAll_bools (ns := [true, true]) (M := M)
  simp only [List.map_cons, List.map_nil, List.nil_append] at cm ba
  unfold c_is_haul
  rw [e0]
  simp [b_is_haul, cm, ba, h0, h, he]
theorem checkhaul_ok {b e : Int} (h0 : 0 ≤ b) (h : b < e) (he : e < (n : Int)) : c_check_haul [.tup [.int b, .int e], .int (n : Int)] M = .ok .non M := by
  have e0 : env0 N_check_haul.length [.tup [.int b, .int e], .int (n : Int)] = [.shr (.tup [.int b, .int e]), .shr (.int n)] := rfl
  have ih := fun M => ishaul_ok (M := M) h0 h he
  unfold c_check_haul
  rw [e0]
  simp [b_check_haul, ih]
end
end HP
set_option maxRecDepth 100000
set_option maxHeartbeats 2000000
namespace HP
open MP PySem L2
section
variable {M : List D} {n i j k c : Nat} {f g : Tab} {w : Str}
end
end HP
set_option maxRecDepth 100000
set_option maxHeartbeats 8000000
namespace HP
open MP PySem L2
section
variable {M : List D} {n i j k c : Nat} {f g : Tab} {w : Str}
end
end HP
set_option maxRecDepth 100000
set_option maxHeartbeats 2000000
namespace HP
open MP PySem L2
section
variable {M : List D} {n i j k : Nat} {f : Tab} {w : Str}
end
end HP
set_option maxRecDepth 100000
set_option maxHeartbeats 2000000
namespace HP
open MP PySem L2
abbrev Span := (Nat × Nat) × Int × Option Int
def spanD (s : Span) : D := .tup [hDp s.1, .int s.2.1, od s.2.2]
structure Spans (n : Nat) (B : Int) (ss : List Span) : Prop where
  sub : (ss.map (·.1)).Sublist (hauls n)
  ok : ∀ s ∈ ss, 0 ≤ s.2.1 ∧ s.2.1 ≤ B ∧ ∀ h, s.2.2 = some h → s.2.1 ≤ h ∧ h ≤ B
section
variable {M : List D} {n i j k c : Nat} {f g : Tab} {w : Str} {ss : List Span} {B : Int}
theorem Spans.nd (h : Spans n B ss) : (ss.map (·.1)).Nodup := h.sub.nodup (hauls_nodup n)
theorem Spans.at_ (h : Spans n B ss) {s : Span} (hs : s ∈ ss) : At n s.1.1 s.1.2 := hauls_lt (h.sub.subset (List.mem_map_of_mem hs))
theorem Spans.len (h : Spans n B ss) (hn : n ≤ 10) : ss.length ≤ 45 := by
  have := h.sub.length_le
  have := hauls_len n hn
  rw [List.length_map] at *
  omega
def told (ss : List Span) (i j : Nat) : Option Span := ss.find? fun s => decide (s.1 = (i, j))
def lowT (ss : List Span) : Tab := fun i j => some (match told ss i j with | some s => s.2.1 | none => 0)
def highT (ss : List Span) : Tab := fun i j => match told ss i j with | some s => s.2.2 | none => none
theorem told_mem {s : Span} (h : told ss i j = some s) : s ∈ ss ∧ s.1 = (i, j) := by
  unfold told at h
  exact ⟨List.mem_of_find?_eq_some h, by simpa using List.find?_some h⟩
theorem foldl_told {α : Type} {v : Span → Option Int} : ∀ {ss : List Span} {f : Tab}, (ss.map (·.1)).Nodup → ∀ i j, ss.foldl (fun f s => up2 f s.1.1 s.1.2 (v s)) f i j = match told ss i j with | some s => v s | none => f i j
  | [], f, _, i, j => rfl
  | s :: ss, f, h, i, j => by
    rw [List.map_cons, List.nodup_cons] at h
    rw [List.foldl_cons, foldl_told (α := α) h.2]
    by_cases e : s.1 = (i, j)
    · have no : told ss i j = none := by
        unfold told
        rw [List.find?_eq_none]
        intro x hx z
        have z : x.1 = (i, j) := by simpa using z
        exact h.1 (List.mem_map.mpr ⟨x, hx, z.trans e.symm⟩)
      have ye : told (s :: ss) i j = some s := by unfold told; rw [List.find?_cons_of_pos (by simp [e])]
      rw [no, ye]
      show up2 f s.1.1 s.1.2 (v s) i j = v s
      rw [e]; exact up2_same
    · have ye : told (s :: ss) i j = told ss i j := by unfold told; rw [List.find?_cons_of_neg (by simp [e])]
      rw [ye]
      cases told ss i j with
      | some x => rfl
      | none =>
        show up2 f s.1.1 s.1.2 (v s) i j = f i j
        exact up2_ne fun z => e (Prod.ext z.1.symm z.2.symm)
theorem high_nn (h : Spans n B ss) : NN n (highT ss) := fun i j v a e => by
  unfold highT at e
  cases q : told ss i j with
  | none => rw [q] at e; cases e
  | some s =>
    rw [q] at e
    have := h.ok s (told_mem q).1
    have := this.2.2 v e
    omega
end
end HP
set_option maxRecDepth 100000
set_option maxHeartbeats 4000000
namespace HP
open MP PySem L2
section
variable {M : List D} {n i j k c : Nat} {f g : Tab} {w : Str} {ss : List Span} {B most : Int}
structure SpanB (B : Int) (s : Span) : Prop where
  lo : 0 ≤ s.2.1
  hi : s.2.1 ≤ B
  gr : ∀ h, s.2.2 = some h → s.2.1 ≤ h ∧ h ≤ B
theorem span_1 (hj : JarAt M c) (h0 : 0 ≤ most) (hm : most ≤ 10 ^ 12) (hl : ss.length < 1000) {h : Nat × Nat} {x5 x6 : MP.B} (f5 : x5.free) (f6 : x6.free) :
    ∃ (y5 y6 : MP.B) (ss' : List Span) (M' : List D), y5.free ∧ y6.free ∧ b__law_spans_1 [.shr (.cel c), .shr (.int n), .shr (.int most), .own (.lst (ss.map spanD)), .shr (hDp h), x5, x6] M = .next [.shr (.cel c), .shr (.int n), .shr (.int most), .own (.lst (ss'.map spanD)), .shr (hDp h), y5, y6] M' ∧ JarAt M' c ∧ (ss' = ss ∨ ∃ s : Span, s.1 = h ∧ SpanB (most * 2) s ∧ ss' = ss ++ [s]) := by
  have m200 : most + 1 < 2 ^ 200 := by
    have : (10 : Int) ^ 11 + 1 < 2 ^ 200 := by decide
    omega
  obtain ⟨d1, M1, e1, a1, b1, j1⟩ := dip_ok (m := 3) hj (by decide) (by decide)
  by_cases q1 : 0 < d1
  · obtain ⟨d2, M2, e2, a2, b2, j2⟩ := dip_ok (m := 2) j1 (by decide) (by decide)
    obtain ⟨low, M3, l0, l1, j3, el⟩ : ∃ (low : Int) (M3 : List D), 0 ≤ low ∧ low ≤ most ∧ JarAt M3 c ∧ (if d2 = 0 then c__law_dip [.cel c, .int (most + 1)] M2 = .ok (.int low) M3 else low = 0 ∧ M3 = M2) := by
      by_cases q2 : d2 = 0
      · obtain ⟨v, M3, e3, a3, b3, j3⟩ := dip_ok (m := most + 1) j2 (by omega) m200
        exact ⟨v, M3, a3, by omega, j3, by rw [if_pos q2]; exact e3⟩
      · exact ⟨0, M2, Int.le_refl _, h0, j2, by rw [if_neg q2]; exact ⟨rfl, rfl⟩⟩
    obtain ⟨d3, M4, e4, a4, b4, j4⟩ := dip_ok (m := 3) j3 (by decide) (by decide)
    obtain ⟨high, M5, lh, j5, eh⟩ : ∃ (high : Option Int) (M5 : List D), (∀ h, high = some h → low ≤ h ∧ h ≤ most * 2) ∧ JarAt M5 c ∧ (if d3 = 0 then high = none ∧ M5 = M4 else ∃ v, c__law_dip [.cel c, .int (most + 1)] M4 = .ok (.int v) M5 ∧ high = some (low + v)) := by
      by_cases q3 : d3 = 0
      · exact ⟨none, M4, fun h z => (nomatch z), j4, by rw [if_pos q3]; exact ⟨rfl, rfl⟩⟩
      · obtain ⟨v, M5, e5, a5, b5, j5⟩ := dip_ok (m := most + 1) j4 (by omega) m200
        exact ⟨some (low + v), M5, fun h z => by cases z; omega, j5, by rw [if_neg q3]; exact ⟨v, e5, rfl⟩⟩
    refine ⟨.shr (.int low), .shr (od high), ss ++ [(h, low, high)], M5, trivial, trivial, ?_, j5, .inr ⟨(h, low, high), rfl, ⟨l0, (by show low ≤ most * 2; omega), lh⟩, rfl⟩⟩
    have sz : (ss.map spanD).length < sizeLine := by rw [List.length_map]; exact Nat.lt_trans hl (by decide)
    have st : stApp (.tup [hDp h, .int low, od high]) (.lst (ss.map spanD)) = some (.lst (ss.map spanD ++ [.tup [hDp h, .int low, od high]])) := by
      show (if (ss.map spanD).length < sizeLine then _ else none) = _
      rw [if_pos sz]
    have s1 := store_own (M := M5) (i := 3) (env := [.shr (.cel c), .shr (.int n), .shr (.int most), .own (.lst (ss.map spanD)), .shr (hDp h), .shr (.int low), .shr (od high)]) rfl st
    have ct := isLst_own (M := M3) (i := 3) (env := [.shr (.cel c), .shr (.int n), .shr (.int most), .own (.lst (ss.map spanD)), .shr (hDp h), .shr (.int low), .shr (od high)]) rfl
    have ct5 := isLst_own (M := M5) (i := 3) (env := [.shr (.cel c), .shr (.int n), .shr (.int most), .own (.lst (ss.map spanD)), .shr (hDp h), .shr (.int low), .shr (od high)]) rfl
    simp only [List.set_cons_succ, List.set_cons_zero] at s1
    rw [List.map_append]
    show _ = RS.next [_, _, _, .own (.lst (ss.map spanD ++ [.tup [hDp h, .int low, od high]])), _, _, _] M5
    by_cases q2 : d2 = 0
    · rw [if_pos q2] at el
      subst q2
      by_cases q3 : d3 = 0
      · rw [if_pos q3] at eh
        obtain ⟨rfl, rfl⟩ := eh
        subst q3
        simp only [od_none] at s1 ct5
        simp [b__law_spans_1, e1, q1, e2, el, f5, e4, f6, ct5, s1]
      · rw [if_neg q3] at eh
        obtain ⟨v, e5, rfl⟩ := eh
        simp only [od_some] at s1 ct5
        simp [b__law_spans_1, e1, q1, e2, el, f5, e4, f6, q3, e5, ct5, s1]
    · rw [if_neg q2] at el
      obtain ⟨rfl, rfl⟩ := el
      by_cases q3 : d3 = 0
      · rw [if_pos q3] at eh
        obtain ⟨rfl, rfl⟩ := eh
        subst q3
        simp only [od_none] at s1 ct5
        simp [b__law_spans_1, e1, q1, e2, q2, f5, e4, f6, ct5, s1]
      · rw [if_neg q3] at eh
        obtain ⟨v, e5, rfl⟩ := eh
        simp only [od_some, Int.zero_add] at s1 ct5
        simp [b__law_spans_1, e1, q1, e2, q2, f5, e4, f6, q3, e5, ct5, s1]
  · refine ⟨x5, x6, ss, M1, f5, f6, ?_, j1, .inl rfl⟩
    simp [b__law_spans_1, e1, q1]
theorem law_spans_ok (hn : n ≤ 10) (hj : JarAt M c) (h0 : 0 ≤ most) (hm : most ≤ 10 ^ 12) :
    ∃ ss M', c__law_spans [.cel c, .int (n : Int), .int most] M = .ok (.tup (ss.map spanD)) M' ∧ Spans n (most * 2) ss ∧ JarAt M' c := by
  have e0 : env0 N__law_spans.length [.cel c, .int (n : Int), .int most] = [.shr (.cel c), .shr (.int n), .shr (.int most), .no, .no, .no, .no] := rfl
  obtain ⟨env2, M2, e1, jj, ss, y4, y5, y6, f4, f5, f6, sb, ok, rfl⟩ := forL_pre (gd := gN 4) (b := b__law_spans_1) (enc := hDp) (xs := hauls n)
    (P := fun pre env M' => JarAt M' c ∧ ∃ (ss : List Span) (y4 y5 y6 : MP.B), y4.free ∧ y5.free ∧ y6.free ∧ (ss.map (·.1)).Sublist pre ∧ (∀ s ∈ ss, SpanB (most * 2) s) ∧ env = [.shr (.cel c), .shr (.int n), .shr (.int most), .own (.lst (ss.map spanD)), y4, y5, y6]) (by
      rintro pre h post env M' e ⟨jj, ss, y4, y5, y6, f4, f5, f6, sb, ok, rfl⟩
      have ln : ss.length < 1000 := by
        have a := sb.length_le
        have b := congrArg List.length e
        have d := hauls_len n hn
        simp at a b
        omega
      obtain ⟨z5, z6, ss', M3, g5, g6, eq, j3, or⟩ := span_1 (n := n) (h := h) jj h0 hm ln f5 f6
      refine ⟨_, by simp [f4], _, M3, .inl eq, j3, ss', .shr (hDp h), z5, z6, trivial, g5, g6, ?_, ?_, rfl⟩
      · rcases or with rfl | ⟨s, rfl, _, rfl⟩
        · exact sb.trans (List.sublist_append_left _ _)
        · rw [List.map_append]; exact sb.append (List.Sublist.refl _)
      · rcases or with rfl | ⟨s, rfl, hs, rfl⟩
        · exact ok
        · intro x hx
          rcases List.mem_append.mp hx with hx | hx
          · exact ok x hx
          · rw [List.mem_singleton.mp hx]; exact hs)
    (env := [.shr (.cel c), .shr (.int n), .shr (.int most), .own (.lst []), .no, .no, .no]) (M := M) ⟨hj, [], .no, .no, .no, trivial, trivial, trivial, List.Sublist.refl _, (fun _ h => nomatch h), rfl⟩
  refine ⟨ss, M2, ?_, ⟨sb, fun s hs => ⟨(ok s hs).lo, (ok s hs).hi, (ok s hs).gr⟩⟩, jj⟩
  unfold c__law_spans
  rw [e0]
  simp [b__law_spans, rides_ok hn, e1]
end
end HP
set_option maxRecDepth 100000
set_option maxHeartbeats 4000000
namespace HP
open MP PySem L2
section
variable {M : List D} {n i j k c : Nat} {f g : Tab} {w : Str} {ss : List Span} {B : Int}
theorem bSubT_run {i j : Nat} {fk fl fv : EF} {env : EnvM} {d1 d2 d d' dk dl : D} {M1 M2 M3 : List D} {r : RS} (h1 : fv env M = .ok (.tup [d1, d2]) M1) (h2 : env[i]? = some (.own d)) (h3 : fk env M1 = .ok dk M2) (h4 : stSub dk d1 d = some d') (h5 : has j (env.set i (.own d')) = true)
    (h6 : fl (env.set i (.own d')) M2 = .ok dl M3) (h7 : store j (stSub dl d2) (env.set i (.own d')) M3 = r) : bSubT i j fk fl fv env M = r := by
  unfold bSubT
  rw [h1, R.bindS_ok, h2]
  dsimp only
  rw [h3, R.bindS_ok, h4]
  dsimp only
  rw [if_pos h5, h6, R.bindS_ok, h7]
def zeroT : Tab := fun _ _ => some 0
def openT : Tab := fun _ _ => none
def lowF (ss : List Span) (f : Tab) : Tab := ss.foldl (fun f s => up2 f s.1.1 s.1.2 (some s.2.1)) f
def highF (ss : List Span) (f : Tab) : Tab := ss.foldl (fun f s => up2 f s.1.1 s.1.2 s.2.2) f
theorem lowF_eq (h : (ss.map (·.1)).Nodup) : lowF ss zeroT = lowT ss := by
  funext i j
  unfold lowF lowT
  rw [foldl_told (α := Unit) h]
  cases told ss i j <;> rfl
theorem highF_eq (h : (ss.map (·.1)).Nodup) : highF ss openT = highT ss := by
  funext i j
  unfold highF highT
  rw [foldl_told (α := Unit) h]
  cases told ss i j <;> rfl
theorem law_lows_ok (hn : n ≤ 10) (hs : Spans n B ss) : c__law_lows [.int (n : Int), .tup (ss.map spanD)] M = .ok (.tup [tabD n (odT (lowT ss)), tabD n (odT (highT ss))]) M := by
  have e0 : env0 N__law_lows.length [.int (n : Int), .tup (ss.map spanD)] = [.shr (.int n), .shr (.tup (ss.map spanD)), .no, .no, .no, .no, .no] := rfl
  have ro := fun M => rides_ok (M := M) hn
  have po : ∀ M, bParOO 2 3 (eNew (.dT [])) (eNew (.dT [])) [.shr (.int n), .shr (.tup (ss.map spanD)), .no, .no, .no, .no, .no] M = .next [.shr (.int n), .shr (.tup (ss.map spanD)), .own (.dT []), .own (.dT []), .no, .no, .no] M := fun _ => rfl
  obtain ⟨env2, M2, e1, y4, f4, rfl, rfl⟩ := forL_pre (gd := gN 4) (b := b__law_lows_1) (enc := hDp) (xs := hauls n)
    (P := fun pre env M' => ∃ y4 : MP.B, y4.free ∧ env = [.shr (.int n), .shr (.tup (ss.map spanD)), .own (.dT (pre.map fun h => (hKp h, odT zeroT h.1 h.2))), .own (.dT (pre.map fun h => (hKp h, odT openT h.1 h.2))), y4, .no, .no] ∧ M' = M) (by
      rintro pre x post env M' e ⟨y4, f4, rfl, rfl⟩
      have s1 : stSub (hDp x) (.int 0) (.dT (pre.map fun h => (hKp h, odT zeroT h.1 h.2))) = _ := sub_new (h := odT zeroT) hn e
      have s2 : stSub (hDp x) .non (.dT (pre.map fun h => (hKp h, odT openT h.1 h.2))) = _ := sub_new (h := odT openT) hn e
      refine ⟨[.shr (.int n), .shr (.tup (ss.map spanD)), .own (.dT (pre.map fun h => (hKp h, odT zeroT h.1 h.2))), .own (.dT (pre.map fun h => (hKp h, odT openT h.1 h.2))), .shr (hDp x), .no, .no], by simp [f4], [.shr (.int n), .shr (.tup (ss.map spanD)), .own (.dT ((pre ++ [x]).map fun h => (hKp h, odT zeroT h.1 h.2))), .own (.dT ((pre ++ [x]).map fun h => (hKp h, odT openT h.1 h.2))), .shr (hDp x), .no, .no], M', .inl ?_, .shr (hDp x), trivial, rfl, rfl⟩
      have q2 := store_own (M := M') (i := 3) (env := [.shr (.int n), .shr (.tup (ss.map spanD)), .own (.dT ((pre ++ [x]).map fun h => (hKp h, odT zeroT h.1 h.2))), .own (.dT (pre.map fun h => (hKp h, odT openT h.1 h.2))), .shr (hDp x), .no, .no]) rfl s2
      exact bSubT_run (d1 := .int 0) (d2 := .non) (M1 := M') (M2 := M') (M3 := M') (dk := hDp x) (dl := hDp x) rfl rfl rfl s1 rfl rfl q2)
    (env := [.shr (.int n), .shr (.tup (ss.map spanD)), .own (.dT []), .own (.dT []), .no, .no, .no]) (M := M) ⟨.no, trivial, rfl, rfl⟩
  have main : ∀ (ss' : List Span), (∀ s ∈ ss', At n s.1.1 s.1.2) → ∀ (f g : Tab) (y4 y5 y6 : MP.B), y4.free → y5.free → y6.free → ∃ z4 z5 z6 : MP.B, z4.free ∧ z5.free ∧ z6.free ∧
      forL (gT [4, 5, 6]) b__law_lows_2 (ss'.map spanD) [.shr (.int n), .shr (.tup (ss.map spanD)), .own (tabD n (odT f)), .own (tabD n (odT g)), y4, y5, y6] M2 = .next [.shr (.int n), .shr (.tup (ss.map spanD)), .own (tabD n (odT (lowF ss' f))), .own (tabD n (odT (highF ss' g))), z4, z5, z6] M2 := by
    intro ss'
    induction ss' with
    | nil => exact fun _ f g y4 y5 y6 f4 f5 f6 => ⟨y4, y5, y6, f4, f5, f6, rfl⟩
    | cons s ss' ih =>
      intro ha f g y4 y5 y6 f4 f5 f6
      have a := ha s (by simp)
      have s1 := sub_tab (f := odT f) (v := od (some s.2.1)) hn a
      have s2 := sub_tab (f := odT g) (v := od s.2.2) hn a
      rw [odT_up] at s1 s2
      have q2 := store_own (M := M2) (i := 3) (env := [.shr (.int n), .shr (.tup (ss.map spanD)), .own (tabD n (odT (up2 f s.1.1 s.1.2 (some s.2.1)))), .own (tabD n (odT g)), .shr (hDp s.1), .shr (.int s.2.1), .shr (od s.2.2)]) rfl s2
      have st : b__law_lows_2 [.shr (.int n), .shr (.tup (ss.map spanD)), .own (tabD n (odT f)), .own (tabD n (odT g)), .shr (hDp s.1), .shr (.int s.2.1), .shr (od s.2.2)] M2 = .next [.shr (.int n), .shr (.tup (ss.map spanD)), .own (tabD n (odT (up2 f s.1.1 s.1.2 (some s.2.1)))), .own (tabD n (odT (up2 g s.1.1 s.1.2 s.2.2))), .shr (hDp s.1), .shr (.int s.2.1), .shr (od s.2.2)] M2 :=
        bSubT_run (d1 := .int s.2.1) (d2 := od s.2.2) (M1 := M2) (M2 := M2) (M3 := M2) (dk := hDp s.1) (dl := hDp s.1) rfl rfl rfl s1 rfl rfl q2
      have gt : gT [4, 5, 6] (spanD s) [.shr (.int n), .shr (.tup (ss.map spanD)), .own (tabD n (odT f)), .own (tabD n (odT g)), y4, y5, y6] = some [.shr (.int n), .shr (.tup (ss.map spanD)), .own (tabD n (odT f)), .own (tabD n (odT g)), .shr (hDp s.1), .shr (.int s.2.1), .shr (od s.2.2)] := by
        simp [spanD, f4, f5, f6]
      obtain ⟨z4, z5, z6, g4, g5, g6, e⟩ := ih (fun x hx => ha x (List.mem_cons_of_mem _ hx)) (up2 f s.1.1 s.1.2 (some s.2.1)) (up2 g s.1.1 s.1.2 s.2.2) (.shr (hDp s.1)) (.shr (.int s.2.1)) (.shr (od s.2.2)) trivial trivial trivial
      refine ⟨z4, z5, z6, g4, g5, g6, ?_⟩
      rw [List.map_cons, forL_cons gt, st]
      exact e
  obtain ⟨z4, z5, z6, g4, g5, g6, e2⟩ := main ss (fun s h => hs.at_ h) zeroT openT y4 .no .no f4 trivial trivial
  rw [lowF_eq hs.nd, highF_eq hs.nd] at e2
  have e2' : forL (gT [4, 5, 6]) b__law_lows_2 (ss.map spanD) [.shr (.int n), .shr (.tup (ss.map spanD)), .own (.dT ((hauls n).map fun h => (hKp h, odT zeroT h.1 h.2))), .own (.dT ((hauls n).map fun h => (hKp h, odT openT h.1 h.2))), y4, .no, .no] M2 = _ := e2
  have sh1 := bShare_own (M := M2) (i := 2) (env := [.shr (.int n), .shr (.tup (ss.map spanD)), .own (tabD n (odT (lowT ss))), .own (tabD n (odT (highT ss))), z4, z5, z6]) rfl
  have sh2 := bShare_own (M := M2) (i := 3) (env := [.shr (.int n), .shr (.tup (ss.map spanD)), .shr (tabD n (odT (lowT ss))), .own (tabD n (odT (highT ss))), z4, z5, z6]) rfl
  simp only [List.set_cons_succ, List.set_cons_zero] at sh1 sh2
  unfold c__law_lows
  rw [e0]
  simp [b__law_lows, po, ro, e1, e2', sh1, sh2]
end
end HP
set_option maxRecDepth 100000
set_option maxHeartbeats 4000000
namespace HP
open MP PySem L2
section
variable {M : List D} {n i j k c : Nat} {f g : Tab} {w : Str} {ss : List Span} {B : Int}
def boundsD (n : Nat) (ss : List Span) : D := .ins "Bounds" [("all", .tup [.int (n : Int), .tup (ss.map spanD)])]
theorem view_bounds : view M (boundsD n ss) = boundsD n ss := rfl
theorem meth_bounds {m : Str} {r : R} (h : ("all" == m) = false) : methR "Bounds" m (boundsD n ss) r = r := methR_ins (by simp [List.lookup, BEq.comm, h]; split <;> simp_all)
def lexP (a b : Nat × Nat) : Prop := a.1 < b.1 ∨ (a.1 = b.1 ∧ a.2 < b.2)
instance : DecidableRel lexP := fun a b => inferInstanceAs (Decidable (_ ∨ _))
theorem hauls_lex (hn : n ≤ 10) : (hauls n).Pairwise lexP := by
  match n, hn with
  | 0, _ | 1, _ | 2, _ | 3, _ | 4, _ | 5, _ | 6, _ | 7, _ | 8, _ | 9, _ | 10, _ => decide +kernel
theorem Spans.lex (h : Spans n B ss) (hn : n ≤ 10) : (ss.map (·.1)).Pairwise lexP := (hauls_lex hn).sublist h.sub
theorem is_range_ok {s : Span} (a : At n s.1.1 s.1.2) (hn : n ≤ 10) (h : SpanB B s) (hB : B ≤ 1000000000000) : c_is_range [spanD s, .int (n : Int)] M = .ok (.bl true) M := by
  have e0 : env0 N_is_range.length [spanD s, .int (n : Int)] = [.shr (spanD s), .shr (.int n)] := rfl
  have ih := fun M => ishaul_ok (M := M) (b := (s.1.1 : Int)) (e := (s.1.2 : Int)) (n := n) (by omega) (by have := a.1; omega) (by have := a.2; omega)
  have ip := fun (v : Int) M => isprice_ok (M := M) (v := v)
  have l0 := h.lo
  have l1 : s.2.1 ≤ 1000000000000 := Int.le_trans h.hi hB
  unfold c_is_range
  rw [e0]
  cases q : s.2.2 with
  | none => simp [b_is_range, spanD, q, ih, ip, l0, l1]
  | some v =>
    obtain ⟨g1, g2⟩ := h.gr v q
    have v0 : 0 ≤ v := Int.le_trans l0 g1
    have v1 : v ≤ 1000000000000 := Int.le_trans g2 hB
    simp [b_is_range, spanD, q, ih, ip, l0, l1, v0, v1, g1]
theorem check_stops_ok (h2 : 2 ≤ n) (hn : n ≤ 10) : c_check_stops [.int (n : Int)] M = .ok .non M := by
  have e0 : env0 N_check_stops.length [.int (n : Int)] = [.shr (.int n)] := rfl
  have e1 : env0 N_is_within.length [.int (n : Int), .int 2, .int 10] = [.shr (.int n), .shr (.int 2), .shr (.int 10)] := rfl
  have ii := fun M => isint_ok (M := M) (v := (n : Int))
  have a : (2 : Int) ≤ (n : Int) := by omega
  have b : (n : Int) ≤ 10 := by omega
  unfold c_check_stops
  rw [e0]
  simp [b_check_stops, c_is_within, e1, b_is_within, ii, a, b]
def nthS (ss : List Span) (k : Nat) : Span := ss.getD k ((0, 0), 0, none)
theorem nthS_eq {k : Nat} (h : k < ss.length) : nthS ss k = ss[k] := by unfold nthS; simp [h]
theorem enum_spans : enumD (ss.map spanD) = (List.range ss.length).map fun (k : Nat) => D.tup [.int (k : Int), spanD (nthS ss k)] := by
  unfold enumD
  refine List.ext_getElem (by simp) fun k h1 h2 => ?_
  simp at h1
  simp [nthS_eq h1]
theorem binit_ok (h2 : 2 ≤ n) (hn : n ≤ 10) (hs : Spans n B ss) (hB : B ≤ 1000000000000) : c_Bounds___init__ [.int (n : Int), .tup (ss.map spanD)] M = .ok (boundsD n ss) M := by
  have e0 : env0I N_Bounds___init__.length "Bounds" [.int (n : Int), .tup (ss.map spanD)] = [.slf (.ins "Bounds" []), .shr (.int n), .shr (.tup (ss.map spanD)), .no, .no] := rfl
  have cs := fun M => check_stops_ok (M := M) h2 hn
  obtain ⟨env2, e1, y3, y4, f3, f4, rfl⟩ := forL_same (gd := gT [3, 4]) (b := b_Bounds___init___1) (enc := fun (k : Nat) => D.tup [.int (k : Int), spanD (nthS ss k)]) (xs := List.range ss.length) (M := M)
    (fun env => ∃ y3 y4 : MP.B, y3.free ∧ y4.free ∧ env = [.slf (.ins "Bounds" []), .shr (.int n), .shr (.tup (ss.map spanD)), y3, y4]) (by
      rintro k hk env ⟨y3, y4, f3, f4, rfl⟩
      rw [List.mem_range] at hk
      obtain ⟨s, hsk⟩ : ∃ s, s = nthS ss k := ⟨_, rfl⟩
      have hs1 : ss[k] = s := by rw [hsk, nthS_eq hk]
      have mem : s ∈ ss := by rw [← hs1]; exact List.getElem_mem hk
      rw [← hsk]
      have ok := hs.ok s mem
      have ir := fun M => is_range_ok (M := M) (s := s) (hs.at_ mem) hn ⟨ok.1, ok.2.1, ok.2.2⟩ hB
      refine ⟨[.slf (.ins "Bounds" []), .shr (.int n), .shr (.tup (ss.map spanD)), .shr (.int k), .shr (spanD s)], by simp [f3, f4], [.slf (.ins "Bounds" []), .shr (.int n), .shr (.tup (ss.map spanD)), .shr (.int k), .shr (spanD s)], ?_, .shr (.int k), .shr (spanD s), trivial, trivial, rfl⟩
      cases k with
      | zero => simp [b_Bounds___init___1, ir]
      | succ k =>
        have hk2 : k < ss.length := by omega
        have at1 : ∀ M, oIx (.tup (ss.map spanD)) (.int (k : Int)) M = .ok (spanD ss[k]) M := fun M => by
          have : atI (ss.map spanD) (k : Int) = some (spanD ss[k]) := atI_nat (by simp [hk2])
          show (match atI (ss.map spanD) (k : Int) with | some d => R.ok d M | none => .stuck) = _
          rw [this]
        have lx := hs.lex hn
        rw [List.pairwise_map, List.pairwise_iff_getElem] at lx
        have lt := lx k (k + 1) hk2 hk (by omega)
        rw [hs1] at lt
        have ge : ∀ M, oGeT (hDp ss[k].1) (hDp s.1) M = .ok (.bl false) M := fun M => by
          refine oGeT_2.trans ?_
          have : ¬ ((s.1.1 : Int) < (ss[k].1.1 : Int) ∨ ((ss[k].1.1 : Int) = (s.1.1 : Int) ∧ (s.1.2 : Int) ≤ (ss[k].1.2 : Int))) := by
            unfold lexP at lt
            omega
          rw [decide_eq_false this]
        have k1 : ((k : Int) + 1) - 1 = (k : Int) := by omega
        have sp0 : ∀ (s : Span) M, oIx (spanD s) (.int 0) M = .ok (hDp s.1) M := fun _ _ => rfl
        simp [b_Bounds___init___1, ir, k1, at1, sp0, ge])
    (env := [.slf (.ins "Bounds" []), .shr (.int n), .shr (.tup (ss.map spanD)), .no, .no]) ⟨.no, .no, trivial, trivial, rfl⟩
  have s1 := fun M => store_slf (M := M) (i := 0) (u := stFld "Bounds" "all" (.tup [.int (n : Int), .tup (ss.map spanD)])) (d := .ins "Bounds" []) (d' := boundsD n ss) (env := [.slf (.ins "Bounds" []), .shr (.int n), .shr (.tup (ss.map spanD)), y3, y4]) rfl rfl
  unfold c_Bounds___init__
  rw [e0]
  simp [b_Bounds___init__, cs, enum_spans, e1, s1]
  rfl
end
end HP
set_option maxRecDepth 100000
set_option maxHeartbeats 4000000
namespace HP
open MP PySem L2
section
variable {M : List D} {n i j k c : Nat} {f g : Tab} {w : Str} {ss : List Span} {B : Int}
theorem told_get {v : Span → D} : ∀ {ss : List Span}, valK (ss.map fun s => (hKp s.1, v s)) (hK i j) = (told ss i j).map v
  | [] => rfl
  | s :: ss => by
    by_cases e : s.1 = (i, j)
    · have y : told (s :: ss) i j = some s := by unfold told; rw [List.find?_cons_of_pos (by simp [e])]
      rw [y]
      unfold valK
      rw [List.map_cons, List.find?_cons_of_pos (by simp [e, hKp])]
      rfl
    · have y : told (s :: ss) i j = told ss i j := by unfold told; rw [List.find?_cons_of_neg (by simp [e])]
      have ih := told_get (v := v) (ss := ss)
      rw [y, ← ih]
      unfold valK
      have ne : ¬ hKp s.1 = hK i j := fun z => e (hK_inj (a := s.1) (b := (i, j)) z)
      rw [List.map_cons, List.find?_cons_of_neg (by simp [ne])]
theorem bnd_stops : c_Bounds_stops [boundsD n ss] M = .ok (.int (n : Int)) M := by
  have e0 : env0 N_Bounds_stops.length [boundsD n ss] = [.shr (boundsD n ss)] := rfl
  have f1 : fldR "Bounds" "all" (boundsD n ss) M = .ok (.tup [.int (n : Int), .tup (ss.map spanD)]) M := fldR_ins rfl
  unfold c_Bounds_stops
  rw [e0]
  simp [b_Bounds_stops, f1]
theorem bnd_ranges : c_Bounds_ranges [boundsD n ss] M = .ok (.tup (ss.map spanD)) M := by
  have e0 : env0 N_Bounds_ranges.length [boundsD n ss] = [.shr (boundsD n ss)] := rfl
  have f1 : fldR "Bounds" "all" (boundsD n ss) M = .ok (.tup [.int (n : Int), .tup (ss.map spanD)]) M := fldR_ins rfl
  unfold c_Bounds_ranges
  rw [e0]
  simp [b_Bounds_ranges, f1]
theorem prop_bstops : propR "Bounds" c_Bounds_stops (boundsD n ss) M = .ok (.int (n : Int)) M :=
  propR_ins (cn := "Bounds") (c := c_Bounds_stops) (M := M) (M1 := M) (fs := [("all", .tup [.int (n : Int), .tup (ss.map spanD)])]) bnd_stops
theorem prop_branges : propR "Bounds" c_Bounds_ranges (boundsD n ss) M = .ok (.tup (ss.map spanD)) M :=
  propR_ins (cn := "Bounds") (c := c_Bounds_ranges) (M := M) (M1 := M) (fs := [("all", .tup [.int (n : Int), .tup (ss.map spanD)])]) bnd_ranges
theorem sp_nodup (hs : Spans n B ss) : (ss.map fun s => hKp s.1).Nodup := by
  have := hs.nd
  rw [show (ss.map fun s => hKp s.1) = (ss.map (·.1)).map hKp by rw [List.map_map]; rfl]
  exact List.Pairwise.map _ (fun _ _ ne e => ne (hK_inj e)) this
theorem getD_told {v : Span → D} : getD (.dT (ss.map fun s => (hKp s.1, v s))) (hD i j) = some ((told ss i j).map v) := by
  show (keysD [D.int i, D.int j]).map (fun k => valK (ss.map fun s => (hKp s.1, v s)) k) = _
  rw [keysD_h, Option.map_some]
  exact congrArg some told_get
theorem greatests_ok (hn : n ≤ 10) (hs : Spans n B ss) : c_Bounds_greatests [boundsD n ss] M = .ok (tabD n (odT (highT ss))) M := by
  have e0 : env0 N_Bounds_greatests.length [boundsD n ss] = [.shr (boundsD n ss), .no, .no, .no, .no] := rfl
  have p1 := fun M => prop_bstops (M := M) (n := n) (ss := ss)
  have p2 := fun M => prop_branges (M := M) (n := n) (ss := ss)
  have ho := fun M => hauls_of_ok (M := M) hn
  have c1 := dcompT_map (gd := gT [2, 3, 4]) (ft := eC (.bl true)) (fk := b_Bounds_greatests_1) (fe := b_Bounds_greatests_2) (env0 := [.shr (boundsD n ss), .no, .no, .no, .no]) (enc := spanD) (v := fun s => od s.2.2) (kd := fun s => [.int s.1.1, .int s.1.2]) (key := fun s => hKp s.1) (M := M) (xs := ss) (acc := [])
    (sz45 (by have := hs.len hn; simp; omega)) (fun s hh => ⟨[.shr (boundsD n ss), .no, .shr (hDp s.1), .shr (.int s.2.1), .shr (od s.2.2)], by simp [spanD], rfl, by simp [b_Bounds_greatests_1], rfl, by simp [b_Bounds_greatests_2]⟩) (sp_nodup hs) (by simp)
  rw [List.nil_append] at c1
  obtain ⟨T, hT⟩ : ∃ T, T = ss.map fun s => (hKp s.1, od s.2.2) := ⟨_, rfl⟩
  rw [← hT] at c1
  have c2 := dcompT_map (gd := gN 2) (ft := eC (.bl true)) (fk := b_Bounds_greatests_3) (fe := b_Bounds_greatests_4) (env0 := [.shr (boundsD n ss), .shr (.dT T), .no, .no, .no]) (enc := hDp) (v := fun h => odT (highT ss) h.1 h.2) (kd := fun h => [.int h.1, .int h.2]) (key := hKp) (M := M) (xs := hauls n) (acc := [])
    (sz45 (by have := hauls_len n hn; simp; omega)) (fun h hh => ⟨_, by simp; rfl, rfl, by simp [b_Bounds_greatests_3], rfl, by
      have gt : getD (.dT T) (hDp h) = some ((told ss h.1 h.2).map fun s => od s.2.2) := by rw [hT]; exact getD_told
      have vv : odT (highT ss) h.1 h.2 = ((told ss h.1 h.2).map fun s => od s.2.2).getD .non := by
        show od (highT ss h.1 h.2) = _
        unfold highT
        cases told ss h.1 h.2 <;> rfl
      rw [vv]
      cases q : told ss h.1 h.2 with
      | none => rw [q] at gt; simp [b_Bounds_greatests_4, gt]
      | some s => rw [q] at gt; simp [b_Bounds_greatests_4, gt]⟩) (hKs_nodup n) (by simp)
  have c2' : dcompT (gN 2) (eC (.bl true)) b_Bounds_greatests_3 b_Bounds_greatests_4 [.shr (boundsD n ss), .shr (.dT T), .no, .no, .no] ((hauls n).map hDp) [] M = .ok (tabD n (odT (highT ss))) M := c2
  unfold c_Bounds_greatests
  rw [e0]
  simp [b_Bounds_greatests, p1, p2, c1, ho, c2']
theorem leasts_ok (hn : n ≤ 10) (hs : Spans n B ss) : c_Bounds_leasts [boundsD n ss] M = .ok (tabD n (odT (lowT ss))) M := by
  have e0 : env0 N_Bounds_leasts.length [boundsD n ss] = [.shr (boundsD n ss), .no, .no, .no, .no] := rfl
  have p1 := fun M => prop_bstops (M := M) (n := n) (ss := ss)
  have p2 := fun M => prop_branges (M := M) (n := n) (ss := ss)
  have ho := fun M => hauls_of_ok (M := M) hn
  have c1 := dcompT_map (gd := gT [2, 3, 4]) (ft := eC (.bl true)) (fk := b_Bounds_leasts_1) (fe := b_Bounds_leasts_2) (env0 := [.shr (boundsD n ss), .no, .no, .no, .no]) (enc := spanD) (v := fun s => .int s.2.1) (kd := fun s => [.int s.1.1, .int s.1.2]) (key := fun s => hKp s.1) (M := M) (xs := ss) (acc := [])
    (sz45 (by have := hs.len hn; simp; omega)) (fun s hh => ⟨[.shr (boundsD n ss), .no, .shr (hDp s.1), .shr (.int s.2.1), .shr (od s.2.2)], by simp [spanD], rfl, by simp [b_Bounds_leasts_1], rfl, by simp [b_Bounds_leasts_2]⟩) (sp_nodup hs) (by simp)
  rw [List.nil_append] at c1
  obtain ⟨T, hT⟩ : ∃ T, T = ss.map fun s => (hKp s.1, D.int s.2.1) := ⟨_, rfl⟩
  rw [← hT] at c1
  have c2 := dcompT_map (gd := gN 2) (ft := eC (.bl true)) (fk := b_Bounds_leasts_3) (fe := b_Bounds_leasts_4) (env0 := [.shr (boundsD n ss), .shr (.dT T), .no, .no, .no]) (enc := hDp) (v := fun h => odT (lowT ss) h.1 h.2) (kd := fun h => [.int h.1, .int h.2]) (key := hKp) (M := M) (xs := hauls n) (acc := [])
    (sz45 (by have := hauls_len n hn; simp; omega)) (fun h hh => ⟨_, by simp; rfl, rfl, by simp [b_Bounds_leasts_3], rfl, by
      have gt : getD (.dT T) (hDp h) = some ((told ss h.1 h.2).map fun s => D.int s.2.1) := by rw [hT]; exact getD_told
      have vv : odT (lowT ss) h.1 h.2 = ((told ss h.1 h.2).map fun s => D.int s.2.1).getD (.int 0) := by
        show od (lowT ss h.1 h.2) = _
        unfold lowT
        cases told ss h.1 h.2 <;> rfl
      rw [vv]
      cases q : told ss h.1 h.2 with
      | none => rw [q] at gt; simp [b_Bounds_leasts_4, gt]
      | some s => rw [q] at gt; simp [b_Bounds_leasts_4, gt]⟩) (hKs_nodup n) (by simp)
  have c2' : dcompT (gN 2) (eC (.bl true)) b_Bounds_leasts_3 b_Bounds_leasts_4 [.shr (boundsD n ss), .shr (.dT T), .no, .no, .no] ((hauls n).map hDp) [] M = .ok (tabD n (odT (lowT ss))) M := c2
  unfold c_Bounds_leasts
  rw [e0]
  simp [b_Bounds_leasts, p1, p2, c1, ho, c2']
end
end HP
set_option maxRecDepth 100000
set_option maxHeartbeats 2000000
namespace HP
open MP PySem L2
section
variable {w : Str} {n : Nat} {g : Tab} {i j s t e : Nat} {F : WF} {c : Int} {cs : List (Nat × Nat)}
def LexLe (x y : Wy) : Prop := x.1 < y.1 ∨ (x.1 = y.1 ∧ x.2.length ≤ y.2.length)
theorem LexLe.trans {x y z : Wy} (a : LexLe x y) (b : LexLe y z) : LexLe x z := by
  unfold LexLe at *
  omega
end
end HP
set_option maxRecDepth 100000
set_option maxHeartbeats 4000000
namespace HP
open MP PySem L2
section
variable {M : List D} {w : Str} {n : Nat} {g : Tab} {i j s e : Nat} {c : Int} {cs : List (Nat × Nat)}
def endAt (i : Nat) (cs : List (Nat × Nat)) (k : Nat) : Nat := if k = 0 then i else (cs.getD (k - 1) (0, 0)).2
structure Walk (w : Str) (n : Nat) (i j : Nat) (cs : List (Nat × Nat)) : Prop where
  ne : cs ≠ []
  len : cs.length ≤ 100
  mem : ∀ h ∈ cs, h ∈ hauls n
  long : w = "long" → ∃ h, cs = [h] ∧ h.1 ≤ i ∧ j ≤ h.2
  fit : w ≠ "long" → ∀ k (hk : k < cs.length), fits w cs[k].1 cs[k].2 (endAt i cs k)
  parts : w = "parts" → endAt i cs cs.length = j
  both : w = "both" → ∀ k (hk : k < cs.length), j ≤ cs[k].2 ↔ k + 1 = cs.length
@[simp] theorem oNe_bl {a b : Bool} : oNe (.bl a) (.bl b) M = .ok (.bl (!(a == b))) M := rfl
end
end HP
set_option maxRecDepth 100000
set_option maxHeartbeats 4000000
namespace HP
open MP PySem L2
section
variable {M : List D} {w : Str} {n : Nat} {g : Tab} {i j s e : Nat} {c B : Int} {cs : List (Nat × Nat)}
end
end HP
set_option maxRecDepth 100000
set_option maxHeartbeats 1000000
namespace HP
open MP PySem L2
section
variable {w : Str} {n : Nat} {g c t : Tab} {a b i j k : Nat} {v : Int}
theorem zero_le {p : Option Int} (hp : ∀ y, p = some y → 0 ≤ y) : leO (some 0) p := fun y e => ⟨0, rfl, hp y e⟩
end
end HP
set_option maxRecDepth 100000
set_option maxHeartbeats 2000000
namespace HP
open MP PySem L2
section
variable {M : List D} {w : Str} {n : Nat} {lo hi c : Tab} {a b i j : Nat} {ss : List Span} {B : Int}
def FitT (n : Nat) (lo c : Tab) : Prop := ∀ i j, At n i j → ∀ m, c i j = some m → nv lo i j ≤ m
end
end HP
set_option maxRecDepth 100000
set_option maxHeartbeats 4000000
namespace HP
open MP PySem L2
section
variable {M : List D} {w : Str} {n : Nat} {lo hi c : Tab} {a b i j : Nat} {ss : List Span} {B : Int}
end
end HP
set_option maxRecDepth 100000
set_option maxHeartbeats 4000000
namespace HP
open MP PySem L2
section
variable {M : List D} {w : Str} {n : Nat} {lo hi c : Tab} {a b i j : Nat} {ss : List Span} {B : Int}
def FitS (w : Str) (n : Nat) (ss : List Span) : Prop := FitT n (lowT ss) (clT w n (highT ss))
theorem low_tot (ss : List Span) : Tot n (lowT ss) := fun i j _ => ⟨_, rfl⟩
end
end HP
set_option maxRecDepth 100000
set_option maxHeartbeats 4000000
namespace HP
open MP PySem L2
section
variable {M : List D} {w : Str} {n : Nat} {lo hi c : Tab} {a b i j : Nat} {ss : List Span} {B : Int}
def wout (ss : List Span) (h : Nat × Nat) : List Span := ss.filter fun s => decide (s.1 ≠ h)
theorem Spans.wout (hs : Spans n B ss) (h : Nat × Nat) : Spans n B (wout ss h) :=
  ⟨((List.filter_sublist (p := fun s : Span => decide (s.1 ≠ h))).map _).trans hs.sub, fun s hm => hs.ok s ((List.mem_filter.mp hm).1)⟩
theorem told_wout {h : Nat × Nat} : told (wout ss h) i j = if (i, j) = h then none else told ss i j := by
  unfold told wout
  rw [List.find?_filter]
  by_cases q : (i, j) = h
  · rw [if_pos q, List.find?_eq_none]
    intro s _
    simp only [Bool.and_eq_true, decide_eq_true_eq, Bool.not_eq_true]
    simp
    intro z1 z2
    exact z1 (z2.trans q)
  · rw [if_neg q]
    congr 1
    funext s
    by_cases z : s.1 = (i, j)
    · simp [z, q]
    · simp [z]
theorem FitS.wout (h : Nat × Nat) (hs : Spans n B ss) (hf : FitS w n ss) : FitS w n (wout ss h) := by
  have c1 := clT_ok (w := w) (high_nn hs)
  have c2 := clT_ok (w := w) (high_nn (hs.wout h))
  have below : Below n (clT w n (highT ss)) (clT w n (highT (HP.wout ss h))) := by
    refine c2.top _ c1.keeps fun i j a => (c1.below i j a).trans ?_
    unfold highT
    rw [told_wout]
    by_cases q : (i, j) = h
    · rw [if_pos q]; exact leO.none
    · rw [if_neg q]; exact leO.refl _
  intro i j a m e
  obtain ⟨x, ex, l⟩ := below i j a m e
  have h1 := hf i j a x ex
  have x0 := c1.nn (high_nn hs) i j x a ex
  have : nv (lowT (HP.wout ss h)) i j ≤ nv (lowT ss) i j ∨ nv (lowT (HP.wout ss h)) i j = 0 := by
    unfold nv lowT
    rw [told_wout]
    by_cases q : (i, j) = h
    · rw [if_pos q]; right; rfl
    · rw [if_neg q]; left; exact Int.le_refl _
  omega
theorem haul_pl (hn : n ≤ 10) {h : Nat × Nat} (a : At n h.1 h.2) : pl 1 (hDp h) = true ∧ nb 1 (hDp h) = true := by
  have p1 : pl 0 (.int (h.1 : Int)) = true := nat_pl (by have := a.1; have := a.2; omega)
  have p2 : pl 0 (.int (h.2 : Int)) = true := nat_pl (by have := a.2; omega)
  refine ⟨?_, rfl⟩
  show [D.int h.1, D.int h.2].all (pl 0) = true
  simp only [List.all_cons, List.all_nil, p1, p2, Bool.and_self]
theorem hDp_inj {h o : Nat × Nat} (e : hDp h = hDp o) : h = o := by
  obtain ⟨a, b⟩ := h
  obtain ⟨c, d⟩ := o
  simp at e
  exact Prod.ext (by show a = c; omega) (by show b = d; omega)
theorem oNe_haul (hn : n ≤ 10) {h o : Nat × Nat} (a : At n h.1 h.2) (b : At n o.1 o.2) : oNe (hDp h) (hDp o) M = .ok (.bl (decide (h ≠ o))) M := by
  obtain ⟨x, ex, hx⟩ := oEq_pl (haul_pl hn a).1 (haul_pl hn b).1 (haul_pl hn a).2 (haul_pl hn b).2 (by decide) rfl
  rw [oNe_of ex]
  congr 2
  by_cases q : h = o
  · have : x = true := hx.mpr (by rw [q])
    simp [this, q]
  · have : x = false := by
      cases x
      · rfl
      · exact absurd (hDp_inj (hx.mp rfl)) q
    simp [this, q]
theorem without_ok (h2 : 2 ≤ n) (hn : n ≤ 10) (hs : Spans n B ss) (hB : B ≤ 1000000000000) {h : Nat × Nat} (a : At n h.1 h.2) : c_Bounds_without [boundsD n ss, hDp h] M = .ok (boundsD n (wout ss h)) M := by
  have e0 : env0 N_Bounds_without.length [boundsD n ss, hDp h] = [.shr (boundsD n ss), .shr (hDp h), .no] := rfl
  have ch := fun M => checkhaul_ok (M := M) (b := (h.1 : Int)) (e := (h.2 : Int)) (n := n) (by omega) (by have := a.1; omega) (by have := a.2; omega)
  have p1 := fun M => prop_bstops (M := M) (n := n) (ss := ss)
  have p2 := fun M => prop_branges (M := M) (n := n) (ss := ss)
  have bi := fun M => binit_ok (M := M) h2 hn (hs.wout h) hB
  have s0 : ∀ (s : Span) M, oIx (spanD s) (.int 0) M = .ok (hDp s.1) M := fun _ _ => rfl
  have cm := compL_filter (gd := gN 2) (ft := b_Bounds_without_2) (fe := b_Bounds_without_1) (env0 := [.shr (boundsD n ss), .shr (hDp h), .no]) (enc := spanD) (g := spanD) (p := fun s => decide (s.1 ≠ h)) (M := M) (xs := ss) (acc := [])
    (sz45 (by have := hs.len hn; simp; omega)) (fun s hh => ⟨[.shr (boundsD n ss), .shr (hDp h), .shr (spanD s)], by simp, by
      have ne := fun M => oNe_haul (M := M) hn (hs.at_ hh) a
      simp only [b_Bounds_without_2, e2_eq, eVB_eq, List.getElem?_cons_succ, List.getElem?_cons_zero, getB_shr, R.bind_ok, eC_eq, s0, ne], fun _ => by simp [b_Bounds_without_1]⟩)
  have cm' : compL (gN 2) b_Bounds_without_2 b_Bounds_without_1 [.shr (boundsD n ss), .shr (hDp h), .no] (ss.map spanD) [] M = .ok (.lst ((wout ss h).map spanD)) M := cm
  unfold c_Bounds_without
  rw [e0]
  simp [b_Bounds_without, ch, p1, p2, cm', bi]
end
end HP
set_option maxRecDepth 100000
set_option maxHeartbeats 16000000
namespace HP
open MP PySem L2
section
variable {M : List D}
theorem natAbs_lt {v : Int} (h0 : 0 ≤ v) (h1 : v ≤ 10 ^ 20) : v.natAbs < 2 ^ 1900 := by
  have : (10 : Int) ^ 20 < 2 ^ 1900 := by decide
  have a : v < 2 ^ 1900 := by omega
  have b : (v.natAbs : Int) < ((2 ^ 1900 : Nat) : Int) := by rw [Int.natAbs_of_nonneg h0]; exact a
  exact Int.ofNat_lt.mp b
theorem oNe_pl {k : Nat} {d e : D} (h1 : pl k d = true) (h2 : pl k e = true) (h3 : nb k d = true) (h4 : nb k e = true) (hk : k ≤ 64) (hd : isRef d = true) [Decidable (d ≠ e)] : oNe d e M = .ok (.bl (decide (d ≠ e))) M := by
  obtain ⟨x, ex, hx⟩ := oEq_pl h1 h2 h3 h4 hk hd
  rw [oNe_of ex]
  congr 2
  by_cases q : d = e
  · have : x = true := hx.mpr q
    simp [this, q]
  · have : x = false := by
      cases x
      · rfl
      · exact absurd (hx.mp rfl) q
    simp [this, q]
end
end HP
set_option maxRecDepth 100000
set_option maxHeartbeats 1000000
namespace MP
open PySem L2
section
variable {f g fa fb fo fe : EF} {l : LF} {env : EnvM} {M : List D} {p q : SF} {i j n : Nat} {d x y : D}
@[simp] theorem isTx_str {z} : isTx (.str z) = true := rfl
@[simp] theorem eTx_eq {g : D → D → List D → R} : eTx g fo fe env M = (fo env M).bind fun x M1 => guD (isTx (view M1 x)) ((fe env M1).bind fun y M2 => g (view M1 x) y M2) := rfl
@[simp] theorem eFmt_eq : eFmt f env M = (f env M).bind fmtR := rfl
@[simp] theorem bTry_eq : bTry p env M = (match p env M with | .exc _ _ _ => .stuck | r => r) := rfl
@[simp] theorem eTabIx_eq {vs} : eTabIx vs f env M = (f env M).bind (tabR vs) := rfl
@[simp] theorem oIsB_bl {a b : Bool} : oIsB (.bl a) (.bl b) M = .ok (.bl (a == b)) M := rfl
theorem fmtR_int {i : Int} (h : i.natAbs.log2 < 1920) : fmtR (.int i) M = .ok (.str (toString i)) M := by
  show (if i.natAbs.log2 < 1920 then R.ok (D.str (toString i)) M else .stuck) = _
  rw [if_pos h]
theorem bStrT_int {i : Int} (h : i.natAbs.log2 < 1920) : bStrT [.int i] M = .ok (.str (toString i)) M := by
  show (if i.natAbs.log2 < 1920 then R.ok (D.str (toString i)) M else .stuck) = _
  rw [if_pos h]
end
end MP
namespace HP
open MP PySem L2 TL PySem.StrLaws
section
variable {M : List D} {n m : Nat}
def nT (n : Nat) : Str := Str.ofString (toString ((n : Nat) : Int))
theorem tl_nT : tl (nT n) = numL n := tl_num n
theorem nT_len (h : n < 10 ^ 13) : (nT n).length ≤ 13 := by rw [len_tl, tl_nT]; exact numL_len (by decide) h
theorem log_of (h : n < 10 ^ 13) : ((n : Int)).natAbs.log2 < 1920 := by
  have h1 : ((n : Int)).natAbs = n := rfl
  rw [h1]
  by_cases z : n = 0
  · subst z; decide
  · have := (Nat.log2_lt z (k := 44)).mpr (Nat.lt_trans h (by decide))
    omega
theorem numL_head : ∀ n : Nat, 1 ≤ n → ∃ c r, numL n = c :: r ∧ c ≠ 48 := fun n => by
  induction n using Nat.strongRecOn with
  | _ n ih =>
    intro h1
    by_cases h : n < 10
    · exact ⟨48 + n, [], numL_lt h, by omega⟩
    · obtain ⟨c, r, e, ne⟩ := ih (n / 10) (by omega) (by omega)
      exact ⟨c, r ++ [48 + n % 10], by rw [numL_step (by omega), e]; rfl, ne⟩
theorem dig_in {c : Nat} (h : 48 ≤ c ∧ c ≤ 57) : c ∈ ("0123456789" : Str).cps.toList := by
  obtain ⟨h1, h2⟩ := h
  have : c = 48 ∨ c = 49 ∨ c = 50 ∨ c = 51 ∨ c = 52 ∨ c = 53 ∨ c = 54 ∨ c = 55 ∨ c = 56 ∨ c = 57 := by omega
  rcases this with rfl | rfl | rfl | rfl | rfl | rfl | rfl | rfl | rfl | rfl <;> decide
theorem inS_sign {c : Nat} {z : Str} : oInS (.str ⟨#[c]⟩) (.str z) M = .ok (.bl (decide (c ∈ z.cps.toList))) M := rfl
theorem str_ne {a b : Str} (h : tl a ≠ tl b) : (a == b) = false := by
  rw [beq_eq_false_iff_ne]
  exact fun e => h (congrArg tl e)
theorem number_in_ok (h : n < 10 ^ 13) : c_number_in [.str (nT n)] M = .ok (.int n) M := by
  have e0 : env0 N_number_in.length [.str (nT n)] = [.shr (.str (nT n)), .no] := rfl
  have hl := nT_len h
  have cm := compL_map (gd := gN 1) (ft := eC (.bl true)) (fe := b_number_in_1) (env0 := [.shr (.str (nT n)), .no]) (enc := fun (c : Nat) => D.str ⟨#[c]⟩) (g := fun _ => .bl true) (M := M) (xs := numL n) (acc := [])
    (by rw [len_tl, tl_nT] at hl; exact Nat.le_trans (by simpa using hl) (by decide)) (fun c hc => ⟨[.shr (.str (nT n)), .shr (.str ⟨#[c]⟩)], by simp, rfl, by
      have := dig_in (numL_digits n c hc)
      simp [b_number_in_1, inS_sign, this]⟩)
  have cm' : compL (gN 1) (eC (.bl true)) b_number_in_1 [.shr (.str (nT n)), .no] (signsD (nT n)) [] M = .ok (.lst (((numL n).map fun _ => true).map D.bl)) M := by
    have e : signsD (nT n) = (numL n).map fun (c : Nat) => D.str ⟨#[c]⟩ := by
      unfold signsD
      rw [show (nT n).cps.toList = numL n from tl_nT]
    rw [e, cm, List.map_map]
    rfl
  have ba := bAll_bools (ns := (numL n).map fun _ => true) (M := M)
  have al : ((numL n).map fun _ => true).all id = true := by simp
  rw [al] at ba
  have ne1 : (nT n == ("" : Str)) = false := str_ne (by rw [tl_nT]; exact numL_ne n)
  have it : PySem.intText? (nT n) = some (n : Int) := int_num (by have := numL_len (k := 13) (by decide) h; omega)
  have bi : ∀ M, bIntT [.str (nT n)] M = .ok (.int n) M := fun M => by
    show (match PySem.intText? (nT n) with | some k => if (nT n).length ≤ 640 then R.ok (D.int k) M else .stuck | none => .stuck) = _
    rw [it]
    show (if (nT n).length ≤ 640 then _ else _) = _
    rw [if_pos (by omega)]
  have ib : ∀ M, iTxt (eV 0) [.shr (.str (nT n)), .no] M = .ok (signsD (nT n)) M := fun M => rfl
  unfold c_number_in
  rw [e0]
  by_cases z : n = 0
  · subst z
    have e : nT 0 = ("0" : Str) := by decide
    have i0 : ∀ M, oIx (.str (nT 0)) (.int 0) M = .ok (.str "0") M := fun M => rfl
    have t0 : (nT 0 == ("0" : Str)) = true := by rw [e]; rfl
    simp [b_number_in, ne1, ib, -List.map_map, cm', ba, i0, t0, bi]
  · obtain ⟨c, r, e, ne⟩ := numL_head n (by omega)
    have i0 : ∀ M, oIx (.str (nT n)) (.int 0) M = .ok (.str ⟨#[c]⟩) M := fun M => by
      show (if (nT n).length ≤ sizeLine then (match atI (nT n).cps.toList 0 with | some c => R.ok (D.str ⟨#[c]⟩) M | none => .stuck) else .stuck) = _
      rw [if_pos (Nat.le_trans hl (by decide)), show (nT n).cps.toList = numL n from tl_nT, e, show atI (c :: r) 0 = some c from atI_nat (j := 0) rfl]
    have t0 : ((⟨#[c]⟩ : Str) == ("0" : Str)) = false := str_ne (by
      intro z
      have : [c] = [48] := z
      exact ne (List.cons.inj this).1)
    simp [b_number_in, ne1, ib, -List.map_map, cm', ba, i0, t0, bi]
theorem number_in_dash : c_number_in [.str "-"] M = .ok .non M := by
  have e0 : env0 N_number_in.length [.str "-"] = [.shr (.str "-"), .no] := rfl
  have cm' : compL (gN 1) (eC (.bl true)) b_number_in_1 [.shr (.str "-"), .no] (signsD "-") [] M = .ok (.lst ([false].map D.bl)) M := rfl
  have ba := bAll_bools (ns := [false]) (M := M)
  have ib : ∀ M, iTxt (eV 0) [.shr (.str "-"), .no] M = .ok (signsD "-") M := fun M => rfl
  have n1 : (("-" : Str) == ("" : Str)) = false := by decide
  unfold c_number_in
  rw [e0]
  simp only [List.map_cons, List.map_nil] at cm' ba
  simp [b_number_in, ib, cm', ba, n1]
end
end HP
set_option maxRecDepth 100000
set_option maxHeartbeats 4000000
namespace HP
open MP PySem L2 TL PySem.StrLaws
section
variable {M : List D} {n m i j k : Nat} {ss : List Span} {B : Int} {env : EnvM}
def hiT : Option Int → Str
  | none => "-"
  | some v => nT v.toNat
def rowW (s : Span) : List Str := [nT s.1.1, nT s.1.2, nT s.2.1.toNat, hiT s.2.2]
def rowT (s : Span) : Str := Txt.join " " (rowW s)
def headT (n : Nat) : Str := Txt.join " " ["stops", nT n]
def textS (n : Nat) (ss : List Span) : Str := Txt.join "\n" (headT n :: ss.map rowT)
theorem app_len (a b : Str) : (a ++ b).length = a.length + b.length := by rw [len_tl, len_tl, len_tl, tl_append, List.length_append]
theorem join_len (y : Str) : ∀ ts : List Str, (Txt.join y ts).length ≤ (ts.map (·.length)).sum + ts.length * y.length
  | [] => by rw [join_eq]; exact Nat.zero_le _
  | [x] => by
    rw [join_eq]
    show x.length ≤ x.length + 0 + 1 * y.length
    omega
  | x :: z :: r => by
    have ih := join_len y (z :: r)
    rw [join_eq] at ih ⊢
    show (x ++ y ++ Str.join y (z :: r)).length ≤ _
    rw [app_len, app_len]
    simp only [List.map_cons, List.sum_cons, List.length_cons, Nat.add_mul, Nat.one_mul] at ih ⊢
    omega
theorem hi_len {o : Option Int} (h : ∀ v, o = some v → v ≤ 1000000000000) : (hiT o).length ≤ 13 := by
  cases o with
  | none => decide
  | some v => exact nT_len (by have := h v rfl; show v.toNat < _; omega)
theorem free_nT {c : Nat} (h : c < 48 ∨ 57 < c) : c ∉ tl (nT n) := by rw [tl_nT]; exact numL_free h
theorem free_hi {c : Nat} {o : Option Int} (h : c < 45 ∨ 57 < c) : c ∉ tl (hiT o) := by
  cases o with
  | none =>
    show c ∉ [45]
    rw [List.mem_singleton]
    omega
  | some v => exact free_nT (by omega)
theorem join_free {c : Nat} {y : Str} (hy : c ∉ tl y) : ∀ ts : List Str, (∀ t ∈ ts, c ∉ tl t) → c ∉ tl (Txt.join y ts)
  | [], _ => by
    rw [join_eq]
    show c ∉ ([] : List Nat)
    simp
  | [x], h => by rw [join_eq]; exact h x (by simp)
  | x :: z :: r, h => by
    have ih := join_free hy (z :: r) fun t ht => h t (List.mem_cons_of_mem _ ht)
    rw [join_eq] at ih ⊢
    show c ∉ tl (x ++ y ++ Str.join y (z :: r))
    rw [tl_append, tl_append, List.mem_append, List.mem_append]
    rintro ((h1 | h1) | h1)
    · exact h x (by simp) h1
    · exact hy h1
    · exact ih h1
def Few (s : Span) : Prop := s.1.1 < 100 ∧ s.1.2 < 100 ∧ 0 ≤ s.2.1 ∧ s.2.1 ≤ 1000000000000 ∧ ∀ h, s.2.2 = some h → 0 ≤ h ∧ h ≤ 1000000000000
theorem Spans.few (hs : Spans n B ss) (hn : n ≤ 10) (hB : B ≤ 1000000000000) : ∀ s ∈ ss, Few s := fun s h => by
  have a := hs.at_ h
  have ok := hs.ok s h
  have a1 := a.1
  have a2 := a.2
  exact ⟨by omega, by omega, ok.1, by omega, fun v e => by have := ok.2.2 v e; omega⟩
theorem row_words {s : Span} (f : Few s) : (∀ t ∈ rowW s, t.length ≤ 13) ∧ (∀ t ∈ rowW s, ∀ c : Nat, c < 45 → c ∉ tl t) := by
  obtain ⟨f1, f2, f3, f4, f5⟩ := f
  unfold rowW
  constructor
  · intro t ht
    simp only [List.mem_cons, List.not_mem_nil, or_false] at ht
    rcases ht with rfl | rfl | rfl | rfl
    · exact nT_len (by omega)
    · exact nT_len (by omega)
    · exact nT_len (by omega)
    · exact hi_len fun v e => (f5 v e).2
  · intro t ht c hc
    simp only [List.mem_cons, List.not_mem_nil, or_false] at ht
    rcases ht with rfl | rfl | rfl | rfl
    · exact free_nT (by omega)
    · exact free_nT (by omega)
    · exact free_nT (by omega)
    · exact free_hi (by omega)
theorem sp_tl : tl (" " : Str) = [32] := rfl
theorem rowT_len {s : Span} (f : Few s) : (rowT s).length ≤ 60 := by
  have h := join_len " " (rowW s)
  have w := (row_words f).1
  have s1 : ((rowW s).map (·.length)).sum ≤ 52 := by
    unfold rowW at w ⊢
    simp only [List.map_cons, List.map_nil, List.sum_cons, List.sum_nil]
    have a := w _ (List.mem_cons_self ..)
    have b := w (nT s.1.2) (by simp)
    have c := w (nT s.2.1.toNat) (by simp)
    have d := w (hiT s.2.2) (by simp)
    omega
  have l4 : (rowW s).length * (" " : Str).length = 4 := rfl
  unfold rowT
  omega
theorem row_free {s : Span} (f : Few s) : 10 ∉ tl (rowT s) := join_free (by rw [sp_tl]; decide) _ fun t ht => (row_words f).2 t ht 10 (by decide)
theorem head_len (hn : n ≤ 10) : (headT n).length ≤ 60 := by
  have h := join_len " " ["stops", nT n]
  have w := nT_len (n := n) (by omega)
  have l5 : ("stops" : Str).length = 5 := rfl
  have l1 : (" " : Str).length = 1 := rfl
  simp only [List.map_cons, List.map_nil, List.sum_cons, List.sum_nil, List.length_cons, List.length_nil, l5, l1] at h
  unfold headT
  omega
theorem head_free : 10 ∉ tl (headT n) := join_free (by rw [sp_tl]; decide) _ fun t ht => by
  simp only [List.mem_cons, List.not_mem_nil, or_false] at ht
  rcases ht with rfl | rfl
  · decide
  · exact free_nT (by decide)
theorem text_len (hn : n ≤ 10) (hf : ∀ s ∈ ss, Few s) (hl : ss.length ≤ 45) : ((headT n :: ss.map rowT).map (·.length)).sum ≤ 3000 ∧ (textS n ss).length ≤ 4000 := by
  have s1 : ((headT n :: ss.map rowT).map (·.length)).sum ≤ (ss.length + 1) * 60 := by
    have key : ∀ l : List Str, (∀ t ∈ l, t.length ≤ 60) → (l.map (·.length)).sum ≤ l.length * 60 := by
      intro l
      induction l with
      | nil => intro _; exact Nat.zero_le _
      | cons t l ih =>
        intro h
        have a := h t (by simp)
        have b := ih fun x hx => h x (by simp [hx])
        simp only [List.map_cons, List.sum_cons, List.length_cons, Nat.add_mul, Nat.one_mul]
        omega
    have := key (headT n :: ss.map rowT) fun t ht => by
      rcases List.mem_cons.mp ht with rfl | ht
      · exact head_len hn
      · obtain ⟨s, hs, rfl⟩ := List.mem_map.mp ht
        exact rowT_len (hf s hs)
    simpa using this
  have h := join_len "\n" (headT n :: ss.map rowT)
  have l1 : ("\n" : Str).length = 1 := rfl
  rw [l1, List.length_cons, List.length_map] at h
  have m : (ss.length + 1) * 60 ≤ 46 * 60 := Nat.mul_le_mul_right _ (by omega)
  unfold textS
  omega
theorem fs_cons {f : EF} {fs : List EF} {acc y : Str} (h : f env M = .ok (.str y) M) (hl : (acc ++ y).length ≤ sizeLine) : fsR (f :: fs) acc env M = fsR fs (acc ++ y) env M := by
  show (f env M).bind _ = _
  rw [h]
  show (if (acc ++ y).length ≤ sizeLine then _ else _) = _
  rw [if_pos hl]
theorem add_str {a b : Str} (h : a.length + b.length ≤ sizeLine) : oAdd (.str a) (.str b) M = .ok (.str (a ++ b)) M := by
  show (if a.length + b.length ≤ sizeLine then R.ok (D.str (a ++ b)) M else .stuck) = _
  rw [if_pos h]
theorem sz1000 {x : Nat} (h : x ≤ 10000) : x ≤ sizeLine := Nat.le_trans h (by decide)
theorem row_eq {a b c d : Str} : Str.empty ++ a ++ " " ++ b ++ " " ++ c ++ " " ++ d = Txt.join " " [a, b, c, d] := by
  rw [join_eq]
  show _ = a ++ " " ++ (b ++ " " ++ (c ++ " " ++ d))
  refine ext_tl ?_
  simp only [tl_append]
  have e : tl Str.empty = [] := rfl
  rw [e]
  simp
theorem head_eq {b : Str} : Str.empty ++ ("stops " : Str) ++ b = Txt.join " " ["stops", b] := by
  rw [join_eq]
  show _ = ("stops" : Str) ++ " " ++ b
  refine ext_tl ?_
  simp only [tl_append]
  have e : tl Str.empty = [] := rfl
  rw [e]
  rfl
theorem fmt_nat {f : EF} (h : f env M = .ok (.int (m : Int)) M) (hm : m < 10 ^ 13) : eFmt f env M = .ok (.str (nT m)) M := by
  rw [eFmt_eq, h]
  exact fmtR_int (log_of hm)
theorem str_row {s : Span} {x0 : MP.B} {rs : List Str} (f : Few s) : b_Bounds___str___1 [x0, .own (.lst (rs.map D.str)), .shr (hDp s.1), .shr (.int s.2.1), .shr (od s.2.2)] M = bApp 1 (eC (.str (rowT s))) [x0, .own (.lst (rs.map D.str)), .shr (hDp s.1), .shr (.int s.2.1), .shr (od s.2.2)] M := by
  obtain ⟨f1, f2, f3, f4, f5⟩ := f
  obtain ⟨lo, hlo⟩ : ∃ lo : Nat, s.2.1 = (lo : Int) := ⟨s.2.1.toNat, by omega⟩
  obtain ⟨ev, hev⟩ : ∃ ev, ev = [x0, B.own (.lst (rs.map D.str)), .shr (hDp s.1), .shr (.int s.2.1), .shr (od s.2.2)] := ⟨_, rfl⟩
  rw [← hev]
  have p1 : eFmt (MP.e2 oIx (eVB 2) (eC (.int 0))) ev M = .ok (.str (nT s.1.1)) M := fmt_nat (by rw [hev]; rfl) (by omega)
  have p2 : eFmt (MP.e2 oIx (eVB 2) (eC (.int 1))) ev M = .ok (.str (nT s.1.2)) M := fmt_nat (by rw [hev]; rfl) (by omega)
  have p3 : eFmt (eV 3) ev M = .ok (.str (nT lo)) M := fmt_nat (by rw [hev, hlo]; rfl) (by omega)
  have ps : eC (.str " ") ev M = .ok (.str " ") M := rfl
  have l1 := nT_len (n := s.1.1) (by omega)
  have l2 := nT_len (n := s.1.2) (by omega)
  have l3 := nT_len (n := lo) (by omega)
  have ls : (" " : Str).length = 1 := rfl
  have le : Str.empty.length = 0 := rfl
  have lh := hi_len (o := s.2.2) fun v e => (f5 v e).2
  have r1 : eFs [eFmt (MP.e2 oIx (eVB 2) (eC (.int 0))), eC (.str " "), eFmt (MP.e2 oIx (eVB 2) (eC (.int 1))), eC (.str " "), eFmt (eV 3), eC (.str " ")] ev M = .ok (.str (Str.empty ++ nT s.1.1 ++ " " ++ nT s.1.2 ++ " " ++ nT lo ++ " ")) M := by
    unfold eFs
    rw [fs_cons p1 (sz1000 (by simp only [app_len]; omega)), fs_cons ps (sz1000 (by simp only [app_len]; omega)), fs_cons p2 (sz1000 (by simp only [app_len]; omega)), fs_cons ps (sz1000 (by simp only [app_len]; omega)), fs_cons p3 (sz1000 (by simp only [app_len]; omega)), fs_cons ps (sz1000 (by simp only [app_len]; omega))]
    rfl
  have r2 : eIf (MP.e2 oIs (eVB 4) (eC .non)) (eC (.str "-")) (eCall bStrT (lCons (eVB 4) lNil)) ev M = .ok (.str (hiT s.2.2)) M := by
    rw [hev]
    cases q : s.2.2 with
    | none => simp [hiT]
    | some v =>
      obtain ⟨g1, g2⟩ := f5 v q
      obtain ⟨w, rfl⟩ : ∃ w : Nat, v = (w : Int) := ⟨v.toNat, by omega⟩
      have := bStrT_int (M := M) (log_of (n := w) (by omega))
      simp [this, hiT, nT]
  have r3 : (MP.e2 oAdd (eFs [eFmt (MP.e2 oIx (eVB 2) (eC (.int 0))), eC (.str " "), eFmt (MP.e2 oIx (eVB 2) (eC (.int 1))), eC (.str " "), eFmt (eV 3), eC (.str " ")]) (eIf (MP.e2 oIs (eVB 4) (eC .non)) (eC (.str "-")) (eCall bStrT (lCons (eVB 4) lNil)))) ev M = .ok (.str (rowT s)) M := by
    rw [e2_eq, r1, R.bind_ok, r2, R.bind_ok]
    rw [add_str (sz1000 (by simp only [app_len]; omega)), row_eq]
    unfold rowT rowW
    rw [hlo]
    rfl
  unfold b_Bounds___str___1 bApp
  rw [r3]
  rfl
theorem bstr_ok (hn : n ≤ 10) (hs : Spans n B ss) (hB : B ≤ 1000000000000) : c_Bounds___str__ [boundsD n ss] M = .ok (.str (textS n ss)) M := by
  have e0 : env0 N_Bounds___str__.length [boundsD n ss] = [.shr (boundsD n ss), .no, .no, .no, .no] := rfl
  have hf := hs.few hn hB
  have hl := hs.len hn
  obtain ⟨t1, t2⟩ := text_len hn hf hl
  have p1 := fun M => prop_bstops (M := M) (n := n) (ss := ss)
  have p2 := fun M => prop_branges (M := M) (n := n) (ss := ss)
  have hd : eFs [eC (.str "stops "), eFmt (e1 (propR "Bounds" c_Bounds_stops) (eV 0))] [.shr (boundsD n ss), .no, .no, .no, .no] M = .ok (.str (headT n)) M := by
    have q1 : eC (.str "stops ") [.shr (boundsD n ss), .no, .no, .no, .no] M = .ok (.str "stops ") M := rfl
    have q2 : eFmt (e1 (propR "Bounds" c_Bounds_stops) (eV 0)) [.shr (boundsD n ss), .no, .no, .no, .no] M = .ok (.str (nT n)) M := fmt_nat (by simp [p1]) (by omega)
    have l1 := nT_len (n := n) (by omega)
    have l2 : ("stops " : Str).length = 6 := rfl
    have le : Str.empty.length = 0 := rfl
    unfold eFs
    rw [fs_cons q1 (sz1000 (by simp only [app_len]; omega)), fs_cons q2 (sz1000 (by simp only [app_len]; omega)), head_eq]
    rfl
  obtain ⟨env2, M2, e1, y2, y3, y4, f2, f3, f4, rfl, rfl⟩ := forL_pre (gd := gT [2, 3, 4]) (b := b_Bounds___str___1) (enc := spanD) (xs := ss)
    (P := fun pre env M' => ∃ y2 y3 y4 : MP.B, y2.free ∧ y3.free ∧ y4.free ∧ env = [.shr (boundsD n ss), .own (.lst ((headT n :: pre.map rowT).map D.str)), y2, y3, y4] ∧ M' = M) (by
      rintro pre s post env M' e ⟨y2, y3, y4, f2, f3, f4, rfl, rfl⟩
      have mem : s ∈ ss := by rw [e]; simp
      have pl : pre.length ≤ 45 := by
        have := congrArg List.length e
        simp at this
        omega
      refine ⟨[.shr (boundsD n ss), .own (.lst ((headT n :: pre.map rowT).map D.str)), .shr (hDp s.1), .shr (.int s.2.1), .shr (od s.2.2)], by simp [spanD, f2, f3, f4], [.shr (boundsD n ss), .own (.lst ((headT n :: (pre ++ [s]).map rowT).map D.str)), .shr (hDp s.1), .shr (.int s.2.1), .shr (od s.2.2)], M', .inl ?_, .shr (hDp s.1), .shr (.int s.2.1), .shr (od s.2.2), trivial, trivial, trivial, rfl, rfl⟩
      rw [str_row (hf s mem)]
      have st : stApp (.str (rowT s)) (.lst ((headT n :: pre.map rowT).map D.str)) = some (.lst ((headT n :: pre.map rowT).map D.str ++ [.str (rowT s)])) := by
        show (if ((headT n :: pre.map rowT).map D.str).length < sizeLine then _ else none) = _
        rw [if_pos (by simp only [List.length_map, List.length_cons]; exact Nat.lt_of_le_of_lt (show pre.length + 1 ≤ 46 by omega) (by decide))]
      have s1 := store_own (M := M') (i := 1) (env := [.shr (boundsD n ss), .own (.lst ((headT n :: pre.map rowT).map D.str)), .shr (hDp s.1), .shr (.int s.2.1), .shr (od s.2.2)]) rfl st
      have ct := isLst_own (M := M') (i := 1) (env := [.shr (boundsD n ss), .own (.lst ((headT n :: pre.map rowT).map D.str)), .shr (hDp s.1), .shr (.int s.2.1), .shr (od s.2.2)]) rfl
      simp only [List.set_cons_succ, List.set_cons_zero] at s1
      have em : (headT n :: (pre ++ [s]).map rowT).map D.str = (headT n :: pre.map rowT).map D.str ++ [.str (rowT s)] := by simp
      rw [em]
      simp only [List.map_cons] at ct s1 ⊢
      simp [-List.map_map, ct, s1])
    (env := [.shr (boundsD n ss), .own (.lst ((headT n :: ([] : List Span).map rowT).map D.str)), .no, .no, .no]) (M := M) ⟨.no, .no, .no, trivial, trivial, trivial, rfl, rfl⟩
  have jn : ∀ M, joinR (.str "\n") (.lst ((headT n :: ss.map rowT).map D.str)) M = .ok (.str (textS n ss)) M := fun M => by
    show (match txsD ((headT n :: ss.map rowT).map D.str) with | some ys => if (ys.map (fun (z : Str) => z.length)).sum + ys.length * ("\n" : Str).length ≤ 16777216 then R.ok (D.str (Txt.join "\n" ys)) M else .stuck | none => .stuck) = _
    rw [txsD_map]
    show (if _ then _ else _) = _
    rw [if_pos (by
      have l1 : ("\n" : Str).length = 1 := rfl
      rw [l1, List.length_cons, List.length_map]
      omega)]
    rfl
  simp only [List.map_nil, List.map_cons] at e1
  simp only [List.map_cons] at jn
  unfold c_Bounds___str__
  rw [e0]
  simp [-List.map_map, b_Bounds___str__, hd, p2, e1, jn]
end
end HP
set_option maxRecDepth 100000
set_option maxHeartbeats 4000000
namespace HP
open MP PySem L2 TL PySem.StrLaws
section
variable {M : List D} {n m i j k : Nat} {ss : List Span} {B : Int} {env : EnvM}
theorem split_sp {ts : List Str} (hne : ts ≠ []) (hp : ∀ t ∈ ts, 32 ∉ tl t) (hl : (Txt.join " " ts).length ≤ 10000) : splitR (.str (Txt.join " " ts)) (.str " ") M = .ok (.lst (ts.map .str)) M := by
  show (if ((" " : Str).length == 0) = false ∧ (Txt.join " " ts).length + 2 ≤ sizeLine then R.ok (.lst ((Txt.split (Txt.join " " ts) " ").map .str)) M else .stuck) = _
  rw [if_pos ⟨by decide, Nat.le_trans (show _ ≤ 10002 by omega) (by decide)⟩, split_join (s := 32) (S := []) rfl (by decide +kernel) hne hp]
theorem split_nl {ts : List Str} (hne : ts ≠ []) (hp : ∀ t ∈ ts, 10 ∉ tl t) (hl : (Txt.join "\n" ts).length ≤ 10000) : splitR (.str (Txt.join "\n" ts)) (.str "\n") M = .ok (.lst (ts.map .str)) M := by
  show (if (("\n" : Str).length == 0) = false ∧ (Txt.join "\n" ts).length + 2 ≤ sizeLine then R.ok (.lst ((Txt.split (Txt.join "\n" ts) "\n").map .str)) M else .stuck) = _
  rw [if_pos ⟨by decide, Nat.le_trans (show _ ≤ 10002 by omega) (by decide)⟩, split_join (s := 10) (S := []) rfl (by decide +kernel) hne hp]
theorem stops_in_ok (h2 : 2 ≤ n) (hn : n ≤ 10) : c_stops_in [.str (headT n)] M = .ok (.int n) M := by
  have e0 : env0 N_stops_in.length [.str (headT n)] = [.shr (.str (headT n)), .no, .no] := rfl
  have sp : ∀ M, splitR (.str (headT n)) (.str " ") M = .ok (.lst [.str "stops", .str (nT n)]) M := fun M => split_sp (by simp) (fun t ht => by
    simp only [List.mem_cons, List.not_mem_nil, or_false] at ht
    rcases ht with rfl | rfl
    · decide
    · exact free_nT (by decide)) (by have := head_len hn; unfold headT at this; omega)
  have nu := fun M => number_in_ok (M := M) (n := n) (by omega)
  have g2 : (2 : Int) ≤ (n : Int) := by omega
  have g10 : (n : Int) ≤ 10 := by omega
  have l2 : ∀ M, bLen [.lst [.str "stops", .str (nT n)]] M = .ok (.int 2) M := fun _ => rfl
  have i0 : ∀ M, oIx (.lst [.str "stops", .str (nT n)]) (.int 0) M = .ok (.str "stops") M := fun _ => rfl
  have i1 : ∀ M, oIx (.lst [.str "stops", .str (nT n)]) (.int 1) M = .ok (.str (nT n)) M := fun _ => rfl
  unfold c_stops_in
  rw [e0]
  simp [b_stops_in, sp, l2, i0, i1, nu, g2, g10]
theorem range_in_ok {s : Span} (a : At n s.1.1 s.1.2) (hn : n ≤ 10) (h : SpanB B s) (hB : B ≤ 1000000000000) (f : Few s) : c_range_in [.str (rowT s), .int (n : Int)] M = .ok (spanD s) M := by
  have e0 : env0 N_range_in.length [.str (rowT s), .int (n : Int)] = [.shr (.str (rowT s)), .shr (.int n), .no, .no, .no, .no] := rfl
  have sp : ∀ M, splitR (.str (rowT s)) (.str " ") M = .ok (.lst ((rowW s).map .str)) M := fun M => split_sp (by simp [rowW]) (fun t ht => (row_words f).2 t ht 32 (by decide)) (by have := rowT_len f; unfold rowT at this; omega)
  have ir := fun M => is_range_ok (M := M) a hn h hB
  obtain ⟨f1, f2, f3, f4, f5⟩ := f
  have n0 := fun M => number_in_ok (M := M) (n := s.1.1) (by omega)
  have n1 := fun M => number_in_ok (M := M) (n := s.1.2) (by omega)
  have n2 : ∀ M, c_number_in [.str (nT s.2.1.toNat)] M = .ok (.int s.2.1) M := fun M => by
    have := number_in_ok (M := M) (n := s.2.1.toNat) (by omega)
    rwa [show ((s.2.1.toNat : Nat) : Int) = s.2.1 by omega] at this
  have n3 : ∀ M, c_number_in [.str (hiT s.2.2)] M = .ok (od s.2.2) M := fun M => by
    cases q : s.2.2 with
    | none => exact number_in_dash
    | some v =>
      have := f5 v q
      have := number_in_ok (M := M) (n := v.toNat) (by omega)
      rwa [show ((v.toNat : Nat) : Int) = v by omega] at this
  have cm := compL_map (gd := gN 5) (ft := eC (.bl true)) (fe := b_range_in_1) (env0 := [.shr (.str (rowT s)), .shr (.int n), .shr (.lst ((rowW s).map .str)), .no, .no, .no]) (enc := fun (k : Nat) => D.str ((rowW s).getD k "")) (g := fun (k : Nat) => [D.int s.1.1, .int s.1.2, .int s.2.1, od s.2.2].getD k .non) (M := M) (xs := [0, 1, 2, 3]) (acc := [])
    (by decide) (fun k hk => ⟨[.shr (.str (rowT s)), .shr (.int n), .shr (.lst ((rowW s).map .str)), .no, .no, .shr (D.str ((rowW s).getD k ""))], by simp, rfl, by
      simp only [List.mem_cons, List.not_mem_nil, or_false] at hk
      rcases hk with rfl | rfl | rfl | rfl
      · simp [b_range_in_1, rowW, n0]
      · simp [b_range_in_1, rowW, n1]
      · simp [b_range_in_1, rowW, n2]
      · simp [b_range_in_1, rowW, n3]⟩)
  have cm' : compL (gN 5) (eC (.bl true)) b_range_in_1 [.shr (.str (rowT s)), .shr (.int n), .shr (.lst ((rowW s).map .str)), .no, .no, .no] ((rowW s).map .str) [] M = .ok (.lst [.int s.1.1, .int s.1.2, .int s.2.1, od s.2.2]) M := cm
  have l4 : ∀ M, bLen [.lst ((rowW s).map .str)] M = .ok (.int 4) M := fun _ => rfl
  have i0 : ∀ M, oIx (.lst [.int s.1.1, .int s.1.2, .int s.2.1, od s.2.2]) (.int 0) M = .ok (.int s.1.1) M := fun _ => rfl
  have i1 : ∀ M, oIx (.lst [.int s.1.1, .int s.1.2, .int s.2.1, od s.2.2]) (.int 1) M = .ok (.int s.1.2) M := fun _ => rfl
  have i2 : ∀ M, oIx (.lst [.int s.1.1, .int s.1.2, .int s.2.1, od s.2.2]) (.int 2) M = .ok (.int s.2.1) M := fun _ => rfl
  have i3 : ∀ M, oIx (.lst [.int s.1.1, .int s.1.2, .int s.2.1, od s.2.2]) (.int 3) M = .ok (od s.2.2) M := fun _ => rfl
  have w3 : ∀ M, oIx (.lst ((rowW s).map .str)) (.int 3) M = .ok (.str (hiT s.2.2)) M := fun _ => rfl
  have ir' : ∀ M, c_is_range [.tup [.tup [.int s.1.1, .int s.1.2], .int s.2.1, od s.2.2], .int (n : Int)] M = .ok (.bl true) M := ir
  have fin : R.ok (D.tup [.tup [.int s.1.1, .int s.1.2], .int s.2.1, od s.2.2]) M = .ok (spanD s) M := rfl
  have sh := fun (d : D) M => bShare_own (M := M) (i := 3) (env := [.shr (.str (rowT s)), .shr (.int n), .shr (.lst ((rowW s).map .str)), .own (.lst [.int s.1.1, .int s.1.2, .int s.2.1, d]), .no, .no]) rfl
  simp only [List.set_cons_succ, List.set_cons_zero] at sh
  unfold c_range_in
  rw [e0]
  cases q : s.2.2 with
  | none =>
    rw [q] at cm' i0 i1 i2 i3 w3 ir' fin
    simp only [od_none, hiT] at cm' i0 i1 i2 i3 w3 ir' fin
    simp [-List.map_map, b_range_in, sp, l4, cm', sh, i0, i1, i2, i3, ir', ir, w3, fin]
  | some v =>
    rw [q] at cm' i0 i1 i2 i3 w3 ir' fin
    simp only [od_some] at cm' i0 i1 i2 i3 ir' fin
    simp [-List.map_map, b_range_in, sp, l4, cm', sh, i0, i1, i2, i3, ir', ir, fin]
theorem span_pl2 {s : Span} (f : Few s) : pl 2 (spanD s) = true ∧ nb 2 (spanD s) = true := by
  obtain ⟨f1, f2, f3, f4, f5⟩ := f
  have key : ∀ {k : Nat} {v : Int}, 0 ≤ v → v ≤ 10 ^ 20 → pl k (.int v) = true := fun {k v} h0 h1 => by
    have := natAbs_lt h0 h1
    have h : v.natAbs.log2 < 1920 := by
      by_cases z : v.natAbs = 0
      · rw [z]; decide
      · exact Nat.lt_of_lt_of_le ((Nat.log2_lt z).mpr this) (by decide)
    cases k <;> exact decide_eq_true h
  have p0 : pl 1 (hDp s.1) = true := by
    show [D.int s.1.1, D.int s.1.2].all (pl 0) = true
    simp only [List.all_cons, List.all_nil, key (k := 0) (v := (s.1.1 : Int)) (by omega) (by omega), key (k := 0) (v := (s.1.2 : Int)) (by omega) (by omega), Bool.and_self]
  have p2 : pl 1 (od s.2.2) = true := by
    cases q : s.2.2 with
    | none => rfl
    | some v => have := f5 v q; exact key this.1 (by omega)
  refine ⟨?_, ?_⟩
  · show [hDp s.1, .int s.2.1, od s.2.2].all (pl 1) = true
    simp only [List.all_cons, List.all_nil, p0, key (k := 1) f3 (show s.2.1 ≤ 10 ^ 20 by omega), p2, Bool.and_self]
  · show [hDp s.1, .int s.2.1, od s.2.2].all (nb 1) = true
    cases s.2.2 <;> rfl
theorem ranges_ne {s : Span} {pre : List Span} (hf : ∀ x ∈ s :: pre, Few x) : oNe (.lst ((s :: pre).map spanD)) (.lst []) M = .ok (.bl true) M := by
  classical
  have e := oNe_pl (M := M) (k := 3) (d := .lst ((s :: pre).map spanD)) (e := .lst []) (by
    show ((s :: pre).map spanD).all (pl 2) = true
    rw [List.all_eq_true]
    intro x hx
    obtain ⟨t, ht, rfl⟩ := List.mem_map.mp hx
    exact (span_pl2 (hf t ht)).1) rfl (by
    show ((s :: pre).map spanD).all (nb 2) = true
    rw [List.all_eq_true]
    intro x hx
    obtain ⟨t, ht, rfl⟩ := List.mem_map.mp hx
    exact (span_pl2 (hf t ht)).2) rfl (by decide) rfl
  rw [e]
  have : (D.lst ((s :: pre).map spanD)) ≠ .lst [] := fun z => by injection z with z; cases z
  rw [decide_eq_true this]
theorem read_ok (h2 : 2 ≤ n) (hn : n ≤ 10) (hs : Spans n B ss) (hB : B ≤ 1000000000000) : c_Bounds_read [.cls "Bounds", .str (textS n ss)] M = .ok (boundsD n ss) M := by
  have e0 : env0 N_Bounds_read.length [.cls "Bounds", .str (textS n ss)] = [.shr (.cls "Bounds"), .shr (.str (textS n ss)), .no, .no, .no, .no, .no, .no] := rfl
  have hf := hs.few hn hB
  have hl := hs.len hn
  obtain ⟨t1, t2⟩ := text_len hn hf hl
  have sp : ∀ M, splitR (.str (textS n ss)) (.str "\n") M = .ok (.lst ((headT n :: ss.map rowT).map .str)) M := fun M => split_nl (by simp) (fun t ht => by
    rcases List.mem_cons.mp ht with rfl | ht
    · exact head_free
    · obtain ⟨s, h, rfl⟩ := List.mem_map.mp ht
      exact row_free (hf s h)) (by unfold textS at t2; omega)
  have si := fun M => stops_in_ok (M := M) h2 hn
  have bi := fun M => binit_ok (M := M) h2 hn hs hB
  have i0 : ∀ M, oIx (.lst ((headT n :: ss.map rowT).map .str)) (.int 0) M = .ok (.str (headT n)) M := fun M => by
    show (match atI ((headT n :: ss.map rowT).map D.str) 0 with | some d => R.ok d M | none => .stuck) = _
    rw [show atI ((headT n :: ss.map rowT).map D.str) 0 = some (.str (headT n)) from atI_nat (j := 0) rfl]
  have en : enumD ((ss.map rowT).map D.str) = (List.range ss.length).map fun (k : Nat) => D.tup [.int (k : Int), .str (rowT (nthS ss k))] := by
    unfold enumD
    refine List.ext_getElem (by simp) fun k h1 h2 => ?_
    simp at h1
    simp [nthS_eq h1]
  have is_ : ∀ M, oIsi (isT "str" []) (.str (textS n ss)) M = .ok (.bl true) M := fun _ => rfl
  obtain ⟨env2, M2, e1, y5, y6, y7, f5, f6, f7, rfl, rfl⟩ := forL_pre (gd := gT [5, 6]) (b := b_Bounds_read_1) (enc := fun (k : Nat) => D.tup [.int (k : Int), .str (rowT (nthS ss k))]) (xs := List.range ss.length)
    (P := fun pre env M' => ∃ y5 y6 y7 : MP.B, y5.free ∧ y6.free ∧ y7.free ∧ env = [.shr (.cls "Bounds"), .shr (.str (textS n ss)), .shr (.lst ((headT n :: ss.map rowT).map .str)), .shr (.int n), .own (.lst ((ss.take pre.length).map spanD)), y5, y6, y7] ∧ M' = M) (by
      rintro pre k post env M' e ⟨y5, y6, y7, f5, f6, f7, rfl, rfl⟩
      obtain ⟨hp, hk⟩ := pre_range e
      have pk : pre.length = k := by rw [hp, List.length_range]
      obtain ⟨s, hsk⟩ : ∃ s, s = nthS ss k := ⟨_, rfl⟩
      have hs1 : ss[k] = s := by rw [hsk, nthS_eq hk]
      have mem : s ∈ ss := by rw [← hs1]; exact List.getElem_mem hk
      rw [← hsk, List.length_append, List.length_singleton, pk]
      have ok := hs.ok s mem
      have ri := fun M => range_in_ok (M := M) (s := s) (hs.at_ mem) hn ⟨ok.1, ok.2.1, ok.2.2⟩ hB (hf s mem)
      have tk : ss.take (k + 1) = ss.take k ++ [s] := by rw [List.take_succ, List.getElem?_eq_getElem hk, hs1]; rfl
      have tl_ : (ss.take k).length = k := by rw [List.length_take]; omega
      have st : stApp (spanD s) (.lst ((ss.take k).map spanD)) = some (.lst ((ss.take k).map spanD ++ [spanD s])) := by
        show (if ((ss.take k).map spanD).length < sizeLine then _ else none) = _
        rw [if_pos (by rw [List.length_map, tl_]; exact Nat.lt_of_le_of_lt (show k ≤ 45 by omega) (by decide))]
      have so := fun (q : D) => store_own (M := M') (i := 4) (env := [.shr (.cls "Bounds"), .shr (.str (textS n ss)), .shr (.lst ((headT n :: ss.map rowT).map .str)), .shr (.int n), .own (.lst ((ss.take k).map spanD)), .shr q, .shr (.str (rowT s)), .shr (spanD s)]) rfl st
      have ct := fun (q : D) => isLst_own (M := M') (i := 4) (env := [.shr (.cls "Bounds"), .shr (.str (textS n ss)), .shr (.lst ((headT n :: ss.map rowT).map .str)), .shr (.int n), .own (.lst ((ss.take k).map spanD)), .shr q, .shr (.str (rowT s)), .shr (spanD s)]) rfl
      simp only [List.set_cons_succ, List.set_cons_zero] at so
      have em : (ss.take (k + 1)).map spanD = (ss.take k).map spanD ++ [spanD s] := by rw [tk, List.map_append]; rfl
      have sN : (spanD s).isN = false := rfl
      refine ⟨[.shr (.cls "Bounds"), .shr (.str (textS n ss)), .shr (.lst ((headT n :: ss.map rowT).map .str)), .shr (.int n), .own (.lst ((ss.take k).map spanD)), .shr (.int k), .shr (.str (rowT s)), y7], by simp [f5, f6], [.shr (.cls "Bounds"), .shr (.str (textS n ss)), .shr (.lst ((headT n :: ss.map rowT).map .str)), .shr (.int n), .own (.lst ((ss.take (k + 1)).map spanD)), .shr (.int k), .shr (.str (rowT s)), .shr (spanD s)], M', .inl ?_, .shr (.int k), .shr (.str (rowT s)), .shr (spanD s), trivial, trivial, trivial, rfl, rfl⟩
      rw [em]
      simp only [List.map_cons] at ct so ⊢
      cases k with
      | zero =>
        have n0 : ∀ M, oNe (.lst ((ss.take 0).map spanD)) (.lst []) M = .ok (.bl false) M := fun M => rfl
        simp [-List.map_map, -List.map_take, -List.take_zero, b_Bounds_read_1, ri, f7, sN, n0, ct, so]
      | succ k =>
        have hk2 : k < ss.length := by omega
        obtain ⟨x, xs, ex⟩ : ∃ x xs, ss.take (k + 1) = x :: xs := by
          cases q : ss.take (k + 1) with
          | nil => have := congrArg List.length q; rw [List.length_take, List.length_nil] at this; omega
          | cons x xs => exact ⟨x, xs, rfl⟩
        have nn : ∀ M, oNe (.lst ((ss.take (k + 1)).map spanD)) (.lst []) M = .ok (.bl true) M := fun M => by
          rw [ex]
          exact ranges_ne fun y hy => hf y (List.mem_of_mem_take (by rw [ex]; exact hy))
        have at1 : ∀ M, oIx (.lst ((ss.take (k + 1)).map spanD)) (.int (-1)) M = .ok (spanD ss[k]) M := fun M => by
          have : atI ((ss.take (k + 1)).map spanD) (-1) = some (spanD ss[k]) := by
            rw [show ss.take (k + 1) = ss.take k ++ [ss[k]] by rw [List.take_succ, List.getElem?_eq_getElem hk2]; rfl, List.map_append]
            exact atI_last _ _
          show (match atI ((ss.take (k + 1)).map spanD) (-1) with | some d => R.ok d M | none => .stuck) = _
          rw [this]
        have lx := hs.lex hn
        rw [List.pairwise_map, List.pairwise_iff_getElem] at lx
        have lt := lx k (k + 1) hk2 hk (by omega)
        rw [hs1] at lt
        have ge : ∀ M, oGeT (hDp ss[k].1) (hDp s.1) M = .ok (.bl false) M := fun M => by
          refine oGeT_2.trans ?_
          have : ¬ ((s.1.1 : Int) < (ss[k].1.1 : Int) ∨ ((ss[k].1.1 : Int) = (s.1.1 : Int) ∧ (s.1.2 : Int) ≤ (ss[k].1.2 : Int))) := by
            unfold lexP at lt
            omega
          rw [decide_eq_false this]
        have sp0 : ∀ (s : Span) M, oIx (spanD s) (.int 0) M = .ok (hDp s.1) M := fun _ _ => rfl
        simp [-List.map_map, -List.map_take, b_Bounds_read_1, ri, f7, sN, nn, at1, sp0, ge, ct, so])
    (env := [.shr (.cls "Bounds"), .shr (.str (textS n ss)), .shr (.lst ((headT n :: ss.map rowT).map .str)), .shr (.int n), .own (.lst []), .no, .no, .no]) (M := M) ⟨.no, .no, .no, trivial, trivial, trivial, by simp, rfl⟩
  rw [List.length_range, List.take_length] at e1
  have es : ∀ (f : EF) (env : EnvM) (M : List D), eSl oSlE f (eInt (eC (.int 1))) (eC .non) env M = (f env M).bind fun x M1 => oSlE x (some 1) none M1 := fun _ _ _ => rfl
  have cu : ∀ M, oSlE (.lst ((headT n :: ss.map rowT).map .str)) (some 1) none M = .ok (.lst ((ss.map rowT).map .str)) M := fun M => by
    show R.ok (.lst (cutD ((headT n :: ss.map rowT).map .str) (some 1) none)) M = _
    congr 2
    unfold cutD
    have l1 : HT.sIx ((headT n :: ss.map rowT).map D.str).length 0 (some 1) = 1 := by unfold HT.sIx; simp
    have l2 : HT.sIx ((headT n :: ss.map rowT).map D.str).length ((headT n :: ss.map rowT).map D.str).length none = ((headT n :: ss.map rowT).map D.str).length := rfl
    rw [l1, l2]
    simp
    exact List.take_of_length_le (by simp)
  have ec : ∀ {l : LF} {xs : List D} {env : EnvM}, env[0]? = some (.shr (.cls "Bounds")) → l env M2 = .ok xs M2 → eCls 0 "Bounds" c_Bounds___init__ 2 [] l env M2 = apC c_Bounds___init__ 2 [] xs M2 := fun {l xs env} h0 h => by
    unfold eCls
    rw [h0]
    show (if ("Bounds" : Str) = "Bounds" then (l env M2).bind _ else _) = _
    rw [if_pos rfl, h]; rfl
  have ev := ec (l := (lCons (eV 3) (lCons (eCall bTup (lCons (eVB 4) lNil)) lNil))) (env := [.shr (.cls "Bounds"), .shr (.str (textS n ss)), .shr (.lst ((headT n :: ss.map rowT).map .str)), .shr (.int n), .own (.lst (ss.map spanD)), y5, y6, y7]) (xs := [.int (n : Int), .tup (ss.map spanD)]) rfl (by simp)
  have ap : apC c_Bounds___init__ 2 [] [.int (n : Int), .tup (ss.map spanD)] M2 = .ok (boundsD n ss) M2 := bi M2
  rw [ap] at ev
  simp only [List.map_cons] at sp i0 cu e1 ev
  unfold c_Bounds_read
  rw [e0]
  simp [-List.map_map, b_Bounds_read, is_, sp, i0, si, es, cu, en, e1, ev]
end
end HP
set_option maxRecDepth 100000
set_option maxHeartbeats 16000000
namespace HP
open MP PySem L2 TL PySem.StrLaws
section
variable {M : List D} {n i j k c a b : Nat} {f g t lo hi : Tab} {w w' wd : Str} {B p : Int} {ss sr : List Span} {cs : List (Nat × Nat)} {cert : D} {s : Str}
theorem strN {m : Nat} (h : m < 10 ^ 13) : bStrT [.int (m : Int)] M = .ok (.str (nT m)) M := bStrT_int (log_of h)
theorem page_row {s : Span} (h : Few s) : joinR (.str " ") (.lst [.str (nT s.1.1), .str (nT s.1.2), .str (nT s.2.1.toNat), .str (hiT s.2.2)]) M = .ok (.str (rowT s)) M := by
  obtain ⟨h1, h2, h3, h4, h5⟩ := h
  have l1 := nT_len (n := s.1.1) (by omega)
  have l2 := nT_len (n := s.1.2) (by omega)
  have l3 := nT_len (n := s.2.1.toNat) (by omega)
  have l4 := hi_len (o := s.2.2) fun v e => (h5 v e).2
  have ll : (" " : Str).length = 1 := rfl
  show (match txsD ([nT s.1.1, nT s.1.2, nT s.2.1.toNat, hiT s.2.2].map D.str) with | some ys => if (ys.map (fun (z : Str) => z.length)).sum + ys.length * (" " : Str).length ≤ 16777216 then R.ok (D.str (Txt.join " " ys)) M else .stuck | none => .stuck) = _
  rw [txsD_map]
  show (if _ then _ else _) = _
  rw [if_pos (by
    simp only [List.map_cons, List.map_nil, List.sum_cons, List.sum_nil, List.length_cons, List.length_nil, ll]
    omega)]
  rfl
theorem page_ok (hn : n ≤ 10) (hs : Spans n B ss) (hB : B ≤ 1000000000000) : c__law_page [.int (n : Int), .tup (ss.map spanD)] M = .ok (.str (textS n ss)) M := by
  have e0 : env0 N__law_page.length [.int (n : Int), .tup (ss.map spanD)] = [.shr (.int n), .shr (.tup (ss.map spanD)), .no, .no, .no, .no] := rfl
  have hf := hs.few hn hB
  have hl := hs.len hn
  obtain ⟨t1, t2⟩ := text_len hn hf hl
  have sn := fun M => strN (M := M) (m := n) (by omega)
  have hd : ∀ M, oAdd (.str "stops ") (.str (nT n)) M = .ok (.str (headT n)) M := fun M => by
    have l1 := nT_len (n := n) (by omega)
    have l2 : ("stops " : Str).length = 6 := rfl
    show (if ("stops " : Str).length + (nT n).length ≤ sizeLine then R.ok (D.str (("stops " : Str) ++ nT n)) M else .stuck) = _
    rw [if_pos (sz1000 (by omega))]
    have e : ("stops " : Str) ++ nT n = headT n := by
      have := head_eq (b := nT n)
      unfold headT
      rw [← this]
      refine ext_tl ?_
      simp only [tl_append]
      rfl
    rw [e]
  obtain ⟨env2, M2, e1, y3, y4, y5, f3, f4, f5, rfl, rfl⟩ := forL_pre (gd := gT [3, 4, 5]) (b := b__law_page_1) (enc := spanD) (xs := ss)
    (P := fun pre env M' => ∃ y3 y4 y5 : MP.B, y3.free ∧ y4.free ∧ y5.free ∧ env = [.shr (.int n), .shr (.tup (ss.map spanD)), .own (.lst ((headT n :: pre.map rowT).map D.str)), y3, y4, y5] ∧ M' = M) (by
      rintro pre s post env M' e ⟨y3, y4, y5, f3, f4, f5, rfl, rfl⟩
      have mem : s ∈ ss := by rw [e]; simp
      have pl : pre.length ≤ 45 := by
        have := congrArg List.length e
        simp at this
        omega
      refine ⟨[.shr (.int n), .shr (.tup (ss.map spanD)), .own (.lst ((headT n :: pre.map rowT).map D.str)), .shr (hDp s.1), .shr (.int s.2.1), .shr (od s.2.2)], by simp [spanD, f3, f4, f5], [.shr (.int n), .shr (.tup (ss.map spanD)), .own (.lst ((headT n :: (pre ++ [s]).map rowT).map D.str)), .shr (hDp s.1), .shr (.int s.2.1), .shr (od s.2.2)], M', .inl ?_, .shr (hDp s.1), .shr (.int s.2.1), .shr (od s.2.2), trivial, trivial, trivial, rfl, rfl⟩
      have st : stApp (.str (rowT s)) (.lst ((headT n :: pre.map rowT).map D.str)) = some (.lst ((headT n :: pre.map rowT).map D.str ++ [.str (rowT s)])) := by
        show (if ((headT n :: pre.map rowT).map D.str).length < sizeLine then _ else none) = _
        rw [if_pos (by simp only [List.length_map, List.length_cons]; exact Nat.lt_of_le_of_lt (show pre.length + 1 ≤ 46 by omega) (by decide))]
      have s1 := store_own (M := M') (i := 2) (env := [.shr (.int n), .shr (.tup (ss.map spanD)), .own (.lst ((headT n :: pre.map rowT).map D.str)), .shr (hDp s.1), .shr (.int s.2.1), .shr (od s.2.2)]) rfl st
      have ct := isLst_own (M := M') (i := 2) (env := [.shr (.int n), .shr (.tup (ss.map spanD)), .own (.lst ((headT n :: pre.map rowT).map D.str)), .shr (hDp s.1), .shr (.int s.2.1), .shr (od s.2.2)]) rfl
      simp only [List.set_cons_succ, List.set_cons_zero] at s1
      have em : (headT n :: (pre ++ [s]).map rowT).map D.str = (headT n :: pre.map rowT).map D.str ++ [.str (rowT s)] := by simp
      rw [em]
      obtain ⟨h1, h2, h3, h4, h5⟩ := hf s mem
      have i1 := fun M => strN (M := M) (m := s.1.1) (by omega)
      have i2 := fun M => strN (M := M) (m := s.1.2) (by omega)
      have i3 : ∀ M, bStrT [.int s.2.1] M = .ok (.str (nT s.2.1.toNat)) M := fun M => by
        have := strN (M := M) (m := s.2.1.toNat) (by omega)
        rwa [Int.toNat_of_nonneg h3] at this
      have x0 : ∀ M, oIx (hDp s.1) (.int 0) M = .ok (.int (s.1.1 : Int)) M := fun _ => rfl
      have x1 : ∀ M, oIx (hDp s.1) (.int 1) M = .ok (.int (s.1.2 : Int)) M := fun _ => rfl
      have pr := fun M => page_row (M := M) (hf s mem)
      simp only [List.map_cons] at ct s1 ⊢
      cases q : s.2.2 with
      | none =>
        rw [q] at ct s1 pr
        have hq : hiT none = ("-" : Str) := rfl
        rw [hq] at pr
        simp only [od_none] at ct s1
        simp [-List.map_map, b__law_page_1, ct, x0, x1, i1, i2, i3, pr, s1]
      | some v =>
        rw [q] at ct s1 pr
        obtain ⟨v0, v1⟩ := h5 v q
        have i4 : ∀ M, bStrT [.int v] M = .ok (.str (nT v.toNat)) M := fun M => by
          have := strN (M := M) (m := v.toNat) (by omega)
          rwa [Int.toNat_of_nonneg v0] at this
        have hq : hiT (some v) = nT v.toNat := rfl
        rw [hq] at pr
        simp only [od_some] at ct s1
        simp [-List.map_map, b__law_page_1, ct, x0, x1, i1, i2, i3, i4, pr, s1])
    (env := [.shr (.int n), .shr (.tup (ss.map spanD)), .own (.lst ((headT n :: ([] : List Span).map rowT).map D.str)), .no, .no, .no]) (M := M) ⟨.no, .no, .no, trivial, trivial, trivial, rfl, rfl⟩
  have jn : ∀ M, joinR (.str "\n") (.lst ((headT n :: ss.map rowT).map D.str)) M = .ok (.str (textS n ss)) M := fun M => by
    show (match txsD ((headT n :: ss.map rowT).map D.str) with | some ys => if (ys.map (fun (z : Str) => z.length)).sum + ys.length * ("\n" : Str).length ≤ 16777216 then R.ok (D.str (Txt.join "\n" ys)) M else .stuck | none => .stuck) = _
    rw [txsD_map]
    show (if _ then _ else _) = _
    rw [if_pos (by
      have l1 : ("\n" : Str).length = 1 := rfl
      rw [l1, List.length_cons, List.length_map]
      omega)]
    rfl
  simp only [List.map_nil, List.map_cons] at e1
  simp only [List.map_cons] at jn
  unfold c__law_page
  rw [e0]
  simp [-List.map_map, b__law_page, sn, hd, e1, jn]
theorem big_free {c : Nat} (h : 1114112 ≤ c) : c ∉ tl (textS n ss) := by
  refine join_free (show c ∉ [10] by rw [List.mem_singleton]; omega) _ fun t ht => ?_
  rcases List.mem_cons.mp ht with rfl | ht
  · refine join_free (show c ∉ [32] by rw [List.mem_singleton]; omega) _ fun t ht => ?_
    rcases List.mem_cons.mp ht with rfl | ht
    · show c ∉ [115, 116, 111, 112, 115]
      simp only [List.mem_cons, List.not_mem_nil, or_false]
      omega
    · rw [List.mem_singleton] at ht
      subst ht
      exact free_nT (.inr (by omega))
  · obtain ⟨s, _, rfl⟩ := List.mem_map.mp ht
    refine join_free (show c ∉ [32] by rw [List.mem_singleton]; omega) _ fun t ht => ?_
    simp only [rowW, List.mem_cons, List.not_mem_nil, or_false] at ht
    rcases ht with rfl | rfl | rfl | rfl
    · exact free_nT (.inr (by omega))
    · exact free_nT (.inr (by omega))
    · exact free_nT (.inr (by omega))
    · exact free_hi (.inr (by omega))
theorem text_lt : ∀ c ∈ (textS n ss).cps.toList, c < 1114112 := fun c hc => Nat.lt_of_not_le fun h => big_free (n := n) (ss := ss) h hc
theorem text_sok : sOk (textS n ss) = true := by
  unfold sOk
  rw [Array.all_eq_true']
  intro c hc
  rw [decide_eq_true_iff]
  exact text_lt c (Array.mem_toList_iff.mpr hc)
theorem text_rep (hn : n ≤ 10) (hs : Spans n B ss) (hB : B ≤ 1000000000000) : (reprText (textS n ss)).length ≤ 50000 := by
  have h1 := reprText_len (textS n ss) fun c hc => Nat.lt_of_lt_of_le (text_lt c hc) (by decide)
  obtain ⟨_, t2⟩ := text_len hn (hs.few hn hB) (hs.len hn)
  omega
theorem btold_ok (hn : n ≤ 10) (hs : Spans n B ss) (ha : At n i j) : c_Bounds_told [boundsD n ss, hD i j] M = .ok (.tup [.int (nv (lowT ss) i j), od (highT ss i j)]) M := by
  have e0 : env0 N_Bounds_told.length [boundsD n ss, hD i j] = [.shr (boundsD n ss), .shr (hD i j)] := rfl
  have ch := fun M => checkhaul_ok (M := M) (b := (i : Int)) (e := (j : Int)) (n := n) (by omega) (by have := ha.1; omega) (by have := ha.2; omega)
  have ch' : ∀ M, c_check_haul [hD i j, .int (n : Int)] M = .ok .non M := ch
  have p1 := fun M => prop_bstops (M := M) (n := n) (ss := ss)
  have l1 := fun M => leasts_ok (M := M) hn hs
  have g1 := fun M => greatests_ok (M := M) hn hs
  have m1 : ∀ {r : R}, methR "Bounds" "leasts" (boundsD n ss) r = r := meth_bounds rfl
  have m2 : ∀ {r : R}, methR "Bounds" "greatests" (boundsD n ss) r = r := meth_bounds rfl
  have x1 : ∀ M, oIx (tabD n (odT (lowT ss))) (hD i j) M = .ok (.int (nv (lowT ss) i j)) M := fun M => ixn (low_tot (n := n) ss) ha
  have x2 : ∀ M, oIx (tabD n (odT (highT ss))) (hD i j) M = .ok (od (highT ss i j)) M := fun M => ix_odT (h := highT ss) (M := M) ha
  unfold c_Bounds_told
  rw [e0]
  simp [b_Bounds_told, ch', p1, view_bounds, m1, m2, l1, g1, x1, x2]
theorem pl_haul (hn : n ≤ 10) {h : Nat × Nat} (a : At n h.1 h.2) : pl (k + 1) (hDp h) = true ∧ wt (k + 1) (hDp h) ≤ 3849 := by
  refine ⟨?_, ?_⟩
  · show [D.int h.1, D.int h.2].all (pl k) = true
    have q1 : pl k (.int (h.1 : Int)) = true := nat_pl (n := h.1) (by have := a.1; have := a.2; omega)
    have q2 : pl k (.int (h.2 : Int)) = true := nat_pl (n := h.2) (by have := a.2; omega)
    simp only [List.all_cons, List.all_nil, q1, q2, Bool.and_self]
  · show ([D.int h.1, D.int h.2].map (wt k)).sum + 2 * [D.int h.1, D.int h.2].length + 3 ≤ _
    simp only [List.map_cons, List.map_nil, List.sum_cons, List.sum_nil, wt_int, List.length_cons, List.length_nil]
    omega
theorem pl_span (hn : n ≤ 10) (hs : Spans n 1000000000000 ss) {s : Span} (h : s ∈ ss) : pl (k + 2) (spanD s) = true ∧ nb (k + 2) (spanD s) = true ∧ wt (k + 2) (spanD s) ≤ 9000 := by
  obtain ⟨a0, a1, a2⟩ := hs.ok s h
  obtain ⟨h1, h2⟩ := pl_haul (k := k) (h := s.1) hn (hs.at_ h)
  have big : (1000000000000 : Int) ≤ 10 ^ 20 := by decide
  have p1 : pl (k + 1) (.int s.2.1) = true := int_pl (natAbs_lt a0 (Int.le_trans a1 big))
  have p2 : pl (k + 1) (od s.2.2) = true ∧ nb (k + 1) (od s.2.2) = true ∧ wt (k + 1) (od s.2.2) ≤ 2000 := by
    cases q : s.2.2 with
    | none => exact ⟨by simp [pl], by simp [nb], by show wt (k + 1) .non ≤ 2000; simp [wt]⟩
    | some y =>
      obtain ⟨b1, b2⟩ := a2 y q
      exact ⟨int_pl (natAbs_lt (Int.le_trans a0 b1) (Int.le_trans b2 big)), by simp [nb], by show wt (k + 1) (.int y) ≤ 2000; rw [wt_int]; decide⟩
  refine ⟨?_, ?_, ?_⟩
  · show (pl (k + 1) (hDp s.1) && (pl (k + 1) (.int s.2.1) && (pl (k + 1) (od s.2.2) && true))) = true
    rw [h1, p1, p2.1]; rfl
  · show (nb (k + 1) (hDp s.1) && (nb (k + 1) (.int s.2.1) && (nb (k + 1) (od s.2.2) && true))) = true
    have n1 : nb (k + 1) (hDp s.1) = true := by show ([D.int (s.1.1 : Int), .int (s.1.2 : Int)].all (nb k)) = true; simp [nb]
    have n2 : nb (k + 1) (.int s.2.1) = true := by simp [nb]
    rw [p2.2.1, n1, n2]; rfl
  · show ([hDp s.1, D.int s.2.1, od s.2.2].map (wt (k + 1))).sum + 2 * [hDp s.1, D.int s.2.1, od s.2.2].length + 3 ≤ _
    simp only [List.map_cons, List.map_nil, List.sum_cons, List.sum_nil, wt_int, List.length_cons, List.length_nil]
    have := p2.2.2
    omega
theorem pl_spans (hn : n ≤ 10) (hs : Spans n 1000000000000 ss) : pl (k + 3) (.tup (ss.map spanD)) = true ∧ nb (k + 3) (.tup (ss.map spanD)) = true ∧ wt (k + 3) (.tup (ss.map spanD)) ≤ 500000 := by
  refine ⟨?_, ?_, ?_⟩
  · show (ss.map spanD).all (pl (k + 2)) = true
    rw [List.all_eq_true]
    intro x hx
    obtain ⟨s, h, rfl⟩ := List.mem_map.mp hx
    exact (pl_span hn hs h).1
  · show (ss.map spanD).all (nb (k + 2)) = true
    rw [List.all_eq_true]
    intro x hx
    obtain ⟨s, h, rfl⟩ := List.mem_map.mp hx
    exact (pl_span hn hs h).2.1
  · show ((ss.map spanD).map (wt (k + 2))).sum + 2 * (ss.map spanD).length + 3 ≤ _
    have := sum_le (h := wt (k + 2)) (b := 9000) (xs := ss.map spanD) (fun x hx => by
      obtain ⟨s, h, rfl⟩ := List.mem_map.mp hx
      exact (pl_span hn hs h).2.2)
    have ln := hs.len hn
    simp only [List.length_map] at this ⊢
    have m : ss.length * 9000 ≤ 45 * 9000 := Nat.mul_le_mul_right _ ln
    omega
theorem cut_last {xs : List D} {y : D} : oSlE (.tup (xs ++ [y])) none (some (-1)) M = .ok (.tup xs) M := by
  have e : cutD (xs ++ [y]) none (some (-1)) = xs := by
    have z : HT.sIx (xs ++ [y]).length (xs ++ [y]).length (some (-1)) - HT.sIx (xs ++ [y]).length 0 none = xs.length := by
      show ((-1 : Int) + (((xs ++ [y]).length : Nat) : Int)).toNat - 0 = _
      rw [List.length_append, List.length_singleton]
      omega
    unfold cutD
    rw [z]
    show (xs ++ [y]).take xs.length = xs
    rw [List.take_left]
  show R.ok (.tup (cutD (xs ++ [y]) none (some (-1)))) M = _
  rw [e]
theorem bnd_eqd (hn : n ≤ 10) (hs : Spans n 1000000000000 ss) (hr : Spans n 1000000000000 sr) : ∃ b, (∀ M, oEqI "Bounds" c_Bounds___eq__ (boundsD n ss) (boundsD n sr) M = .ok (.bl b) M) ∧ (∀ M, oNeI "Bounds" c_Bounds___eq__ (boundsD n ss) (boundsD n sr) M = .ok (.bl (!b)) M) ∧
    (∀ M, oEq (.tup (ss.map spanD)) (.tup (sr.map spanD)) M = .ok (.bl b) M) ∧ (ss = sr → b = true) := by
  have e0 : env0 N_Bounds___eq__.length [boundsD n ss, boundsD n sr] = [.shr (boundsD n ss), .shr (boundsD n sr)] := rfl
  have f1 := fun M => show fldR "Bounds" "all" (boundsD n ss) M = .ok (.tup [.int (n : Int), .tup (ss.map spanD)]) M from fldR_ins rfl
  have f2 := fun M => show fldR "Bounds" "all" (boundsD n sr) M = .ok (.tup [.int (n : Int), .tup (sr.map spanD)]) M from fldR_ins rfl
  have is1 : ∀ M, oIsi (isC "Bounds" []) (boundsD n sr) M = .ok (.bl true) M := fun M => oIsi_ins (M := M) (k := isC "Bounds" []) (c := "Bounds") (fs := [("all", .tup [.int (n : Int), .tup (sr.map spanD)])]) isC_ins
  obtain ⟨q1, q2, _⟩ := pl_spans (k := 0) hn hs
  obtain ⟨r1, r2, _⟩ := pl_spans (k := 0) hn hr
  have i1 : pl 3 (.int (n : Int)) = true := int_pl (natAbs_lt (by omega) (Int.le_trans (show (n : Int) ≤ 10 by omega) (by decide)))
  have p4 : pl 4 (.tup [.int (n : Int), .tup (ss.map spanD)]) = true := by
    show (pl 3 (.int (n : Int)) && (pl 3 (.tup (ss.map spanD)) && true)) = true
    rw [i1, q1]; rfl
  have n4 : nb 4 (.tup [.int (n : Int), .tup (ss.map spanD)]) = true := by
    show (nb 3 (.int (n : Int)) && (nb 3 (.tup (ss.map spanD)) && true)) = true
    rw [q2]; rfl
  have p5 : pl 4 (.tup [.int (n : Int), .tup (sr.map spanD)]) = true := by
    show (pl 3 (.int (n : Int)) && (pl 3 (.tup (sr.map spanD)) && true)) = true
    rw [i1, r1]; rfl
  have n5 : nb 4 (.tup [.int (n : Int), .tup (sr.map spanD)]) = true := by
    show (nb 3 (.int (n : Int)) && (nb 3 (.tup (sr.map spanD)) && true)) = true
    rw [r2]; rfl
  obtain ⟨bb, eb, hb⟩ := oEq_pl p4 p5 n4 n5 (by decide) rfl
  obtain ⟨bc, ec, hc⟩ := oEq_pl q1 r1 q2 r2 (by decide) rfl
  have same : bc = bb := by
    cases bc with
    | true =>
      have := hc.mp rfl
      exact (hb.mpr (by rw [this])).symm
    | false =>
      cases bb with
      | false => rfl
      | true =>
        have h1 := hb.mp rfl
        have h2 : D.tup (ss.map spanD) = .tup (sr.map spanD) := by
          injection h1 with h1
          injection h1 with _ h1
          injection h1 with h1
        exact hc.mpr h2
  subst same
  have e1' : ∀ M, c_Bounds___eq__ [boundsD n ss, boundsD n sr] M = .ok (.bl bc) M := fun M => by
    unfold c_Bounds___eq__
    rw [e0]
    simp [b_Bounds___eq__, is1, f1, f2, eb]
  refine ⟨bc, fun M => ?_, fun M => ?_, ec, fun h => hc.mpr (by rw [h])⟩
  · unfold oEqI
    rw [view_bounds, view_bounds, if_pos ⟨rfl, rfl⟩]
    show (match c_Bounds___eq__ [boundsD n ss, boundsD n sr] M with | .ok (.bl b) M' => R.ok (.bl b) M' | .exc e M' => .exc e M' | _ => .stuck) = _
    rw [e1']
  · unfold oNeI
    rw [view_bounds, view_bounds, if_pos ⟨rfl, rfl⟩]
    show (match c_Bounds___eq__ [boundsD n ss, boundsD n sr] M with | .ok (.bl b) M' => R.ok (.bl (!b)) M' | .exc e M' => .exc e M' | _ => .stuck) = _
    rw [e1']
theorem bnd_oth {d : D} (hd : (othT d).isSome = true) (hv : ∀ M, view M d = d) (h0 : ∀ M, oIsi (isC "Bounds" []) d M = .ok (.bl false) M) : (∀ M, oEqX "Bounds" c_Bounds___eq__ (boundsD n ss) d M = .ok (.bl false) M) ∧ ∀ M, oNeX "Bounds" c_Bounds___eq__ (boundsD n ss) d M = .ok (.bl true) M := by
  have e0 : env0 N_Bounds___eq__.length [boundsD n ss, d] = [.shr (boundsD n ss), .shr d] := rfl
  have e1' : ∀ M, c_Bounds___eq__ [boundsD n ss, d] M = .ok (.bl false) M := fun M => by
    unfold c_Bounds___eq__
    rw [e0]
    simp [b_Bounds___eq__, h0]
  refine ⟨fun M => ?_, fun M => ?_⟩
  · unfold oEqX
    rw [view_bounds, hv, if_pos ⟨rfl, hd⟩]
    show (match c_Bounds___eq__ [boundsD n ss, d] M with | .ok (.bl b) M' => R.ok (.bl b) M' | .exc e M' => .exc e M' | _ => .stuck) = _
    rw [e1']
  · unfold oNeX
    rw [view_bounds, hv, if_pos ⟨rfl, hd⟩]
    show (match c_Bounds___eq__ [boundsD n ss, d] M with | .ok (.bl b) M' => R.ok (.bl (!b)) M' | .exc e M' => .exc e M' | _ => .stuck) = _
    rw [e1']; rfl
theorem all_repr (hn : n ≤ 10) (hs : Spans n 1000000000000 ss) : ∃ s, ∀ M, bReprA [.lst [.int (n : Int), .tup (ss.map spanD), .str (textS n ss)]] M = .ok (.str s) M := by
  obtain ⟨q1, q2, q3⟩ := pl_spans (k := 0) hn hs
  have i1 : pl 3 (.int (n : Int)) = true := int_pl (natAbs_lt (by omega) (Int.le_trans (show (n : Int) ≤ 10 by omega) (by decide)))
  have s1 : pl 3 (.str (textS n ss)) = true := text_sok
  have t1 := text_rep hn hs (Int.le_refl _)
  have q3' : wt 3 (.tup (ss.map spanD)) ≤ 500000 := q3
  obtain ⟨s, h⟩ := repr_ok (k := 4) (d := .lst [.int (n : Int), .tup (ss.map spanD), .str (textS n ss)]) (by
    show (pl 3 (.int (n : Int)) && (pl 3 (.tup (ss.map spanD)) && (pl 3 (.str (textS n ss)) && true))) = true
    rw [i1, q1, s1]; rfl) (by decide) rfl (by
    show ([D.int (n : Int), .tup (ss.map spanD), .str (textS n ss)].map (wt 3)).sum + 2 * [D.int (n : Int), .tup (ss.map spanD), .str (textS n ss)].length + 3 ≤ _
    simp only [List.map_cons, List.map_nil, List.sum_cons, List.sum_nil, wt_int, wt_str, List.length_cons, List.length_nil]
    omega)
  exact ⟨s, fun M => bReprA_ref rfl (h M)⟩
theorem told_repr (hs : Spans n 1000000000000 ss) : ∃ s, ∀ M, bReprA [.tup [.int (nv (lowT ss) i j), od (highT ss i j)]] M = .ok (.str s) M := by
  have big : (1000000000000 : Int) ≤ 10 ^ 20 := by decide
  have l0 : 0 ≤ nv (lowT ss) i j ∧ nv (lowT ss) i j ≤ 1000000000000 := by
    show 0 ≤ (lowT ss i j).getD 0 ∧ (lowT ss i j).getD 0 ≤ 1000000000000
    unfold lowT
    cases q : told ss i j with
    | none => exact ⟨by simp, by simp⟩
    | some s =>
      obtain ⟨a0, a1, _⟩ := hs.ok s (told_mem q).1
      exact ⟨a0, a1⟩
  have p1 : pl 1 (.int (nv (lowT ss) i j)) = true := int_pl (natAbs_lt l0.1 (Int.le_trans l0.2 big))
  have p2 : pl 1 (od (highT ss i j)) = true ∧ wt 1 (od (highT ss i j)) ≤ 2000 := by
    cases q : highT ss i j with
    | none => exact ⟨by simp [pl], by show wt 1 .non ≤ 2000; simp [wt]⟩
    | some y =>
      have hy : 0 ≤ y ∧ y ≤ 1000000000000 := by
        unfold highT at q
        cases q2 : told ss i j with
        | none => rw [q2] at q; cases q
        | some s =>
          rw [q2] at q
          obtain ⟨a0, a1, a2⟩ := hs.ok s (told_mem q2).1
          have := a2 y q
          omega
      exact ⟨int_pl (natAbs_lt hy.1 (Int.le_trans hy.2 big)), by show wt 1 (.int y) ≤ 2000; rw [wt_int]; decide⟩
  obtain ⟨s, h⟩ := repr_ok (k := 2) (d := .tup [.int (nv (lowT ss) i j), od (highT ss i j)]) (by
    show (pl 1 (.int (nv (lowT ss) i j)) && (pl 1 (od (highT ss i j)) && true)) = true
    rw [p1, p2.1]; rfl) (by decide) rfl (by
    show ([D.int (nv (lowT ss) i j), od (highT ss i j)].map (wt 1)).sum + 2 * [D.int (nv (lowT ss) i j), od (highT ss i j)].length + 3 ≤ _
    have := p2.2
    simp only [List.map_cons, List.map_nil, List.sum_cons, List.sum_nil, wt_int, List.length_cons, List.length_nil]
    omega)
  exact ⟨s, fun M => bReprA_ref rfl (h M)⟩
theorem frame_ok (h2 : 2 ≤ n) (hn : n ≤ 10) (hs : Spans n 1000000000000 ss) : c__law_is_frame [boundsD n ss, .int (n : Int), .tup (ss.map spanD)] M = .ok (.bl true) M := by
  have e0 : env0 N__law_is_frame.length [boundsD n ss, .int (n : Int), .tup (ss.map spanD)] = [.shr (boundsD n ss), .shr (.int n), .shr (.tup (ss.map spanD)), .no, .no, .no] := rfl
  have lo := fun M => law_lows_ok (M := M) hn hs
  have p1 := fun M => prop_bstops (M := M) (n := n) (ss := ss)
  have p2 := fun M => prop_branges (M := M) (n := n) (ss := ss)
  have st : ∀ M, bStrO "Bounds" c_Bounds___str__ [boundsD n ss] M = .ok (.str (textS n ss)) M := fun M => by
    have := bstr_ok (M := M) hn hs (Int.le_refl _)
    show (if insOf "Bounds" (boundsD n ss) = true then strR (apC c_Bounds___str__ 1 [] [boundsD n ss] M) else .stuck) = _
    rw [if_pos (show insOf "Bounds" (boundsD n ss) = true from rfl)]
    show strR (c_Bounds___str__ [boundsD n ss] M) = _
    rw [this]; rfl
  have pg := fun M => page_ok (M := M) hn hs (Int.le_refl _)
  obtain ⟨s, hr⟩ := all_repr hn hs
  have l3 : ∀ {x y z : D} {M}, lenR D.lst [x, y, z] M = .ok (.lst [x, y, z]) M := rfl
  have lt2 : ∀ {x y : D} {M}, lenR D.tup [x, y] M = .ok (.tup [x, y]) M := rfl
  have mt : ∀ {r : R}, methR "Bounds" "told" (boundsD n ss) r = r := meth_bounds rfl
  obtain ⟨env2, e1, y5, f5, rfl⟩ := forL_same (gd := gN 5) (b := b__law_is_frame_1) (enc := hDp) (xs := hauls n) (M := M)
    (fun env => ∃ y5 : MP.B, y5.free ∧ env = [.shr (boundsD n ss), .shr (.int n), .shr (.tup (ss.map spanD)), .shr (tabD n (odT (lowT ss))), .shr (tabD n (odT (highT ss))), y5]) (by
      rintro h hh env ⟨y5, f5, rfl⟩
      have at_ := hauls_lt hh
      have tl : ∀ M, c_Bounds_told [boundsD n ss, hDp h] M = .ok (.tup [.int (nv (lowT ss) h.1 h.2), od (highT ss h.1 h.2)]) M := fun M => btold_ok (M := M) hn hs at_
      have x1 : ∀ M, oIx (tabD n (odT (lowT ss))) (hDp h) M = .ok (.int (nv (lowT ss) h.1 h.2)) M := fun M => ixn (low_tot (n := n) ss) at_
      have x2 : ∀ M, oIx (tabD n (odT (highT ss))) (hDp h) M = .ok (od (highT ss h.1 h.2)) M := fun M => ix_odT (h := highT ss) (M := M) at_
      obtain ⟨r, hrt⟩ := told_repr (i := h.1) (j := h.2) hs
      exact ⟨[.shr (boundsD n ss), .shr (.int n), .shr (.tup (ss.map spanD)), .shr (tabD n (odT (lowT ss))), .shr (tabD n (odT (highT ss))), .shr (hDp h)], by simp [f5], [.shr (boundsD n ss), .shr (.int n), .shr (.tup (ss.map spanD)), .shr (tabD n (odT (lowT ss))), .shr (tabD n (odT (highT ss))), .shr (hDp h)], by simp [b__law_is_frame_1, view_bounds, mt, tl, x1, x2, lt2, hrt], .shr (hDp h), free_shr, rfl⟩)
    (env := [.shr (boundsD n ss), .shr (.int n), .shr (.tup (ss.map spanD)), .shr (tabD n (odT (lowT ss))), .shr (tabD n (odT (highT ss))), .no]) ⟨.no, trivial, rfl⟩
  have sq : ∀ M, seqL (tabD n (odT (lowT ss))) M = .ok ((hauls n).map hDp) M := fun M => by
    show RL.ok (keysT (tab n _)) M = _
    rw [keys_tab]
  have bo : ∀ M, bBoolN "Bounds" [boundsD n ss] M = .ok (.bl true) M := fun M => by
    show (if insOf "Bounds" (view M (boundsD n ss)) = true then R.ok (.bl true) M else .stuck) = _
    rw [view_bounds]; rfl
  unfold c__law_is_frame
  rw [e0]
  simp [-List.map_map, b__law_is_frame, lo, p1, p2, st, l3, hr, pg, sq, e1, bo]
end
end HP
set_option maxRecDepth 100000
set_option maxHeartbeats 16000000
namespace HP
open MP PySem L2 TL PySem.StrLaws
section
variable {M : List D} {n i j k c a b : Nat} {f g t lo hi : Tab} {w w' wd : Str} {B p : Int} {ss sr : List Span} {cs : List (Nat × Nat)} {cert : D} {s : Str}
abbrev Tick := (Nat × Nat) × Int
def tickD (t : Tick) : D := .tup [hDp t.1, .int t.2]
def due (t : Tick) : Span := (t.1, t.2, some t.2)
def nthT (ts : List Tick) (k : Nat) : Tick := ts.getD k ((0, 0), 0)
theorem nthT_eq {ts : List Tick} {k : Nat} (h : k < ts.length) : nthT ts k = ts[k] := by unfold nthT; simp [h]
theorem enum_ticks {ts : List Tick} : enumD (ts.map tickD) = (List.range ts.length).map fun (k : Nat) => D.tup [.int (k : Int), tickD (nthT ts k)] := by
  unfold enumD
  refine List.ext_getElem (by simp) fun k h1 h2 => ?_
  simp at h1
  simp [nthT_eq h1]
theorem seen_ok {ts : List Tick} (h2 : 2 ≤ n) (hn : n ≤ 10) (hs : Spans n B (ts.map due)) (hB : B ≤ 1000000000000) : c_Bounds_seen [.cls "Bounds", .int (n : Int), .tup (ts.map tickD)] M = .ok (boundsD n (ts.map due)) M := by
  have e0 : env0 N_Bounds_seen.length [.cls "Bounds", .int (n : Int), .tup (ts.map tickD)] = [.shr (.cls "Bounds"), .shr (.int n), .shr (.tup (ts.map tickD)), .no, .no, .no, .no] := rfl
  have cs := fun M => check_stops_ok (M := M) h2 hn
  have bi := fun M => binit_ok (M := M) h2 hn hs hB
  have hl : ts.length ≤ 45 := by have := hs.len hn; rwa [List.length_map] at this
  obtain ⟨env2, e1, y3, y4, f3, f4, rfl⟩ := forL_same (gd := gT [3, 4]) (b := b_Bounds_seen_1) (enc := fun (k : Nat) => D.tup [.int (k : Int), tickD (nthT ts k)]) (xs := List.range ts.length) (M := M)
    (fun env => ∃ y3 y4 : MP.B, y3.free ∧ y4.free ∧ env = [.shr (.cls "Bounds"), .shr (.int n), .shr (.tup (ts.map tickD)), y3, y4, .no, .no]) (by
      rintro k hk env ⟨y3, y4, f3, f4, rfl⟩
      rw [List.mem_range] at hk
      obtain ⟨t, ht⟩ : ∃ t, t = nthT ts k := ⟨_, rfl⟩
      have hs1 : ts[k] = t := by rw [ht, nthT_eq hk]
      have mem : t ∈ ts := by rw [← hs1]; exact List.getElem_mem hk
      rw [← ht]
      have mem2 : due t ∈ ts.map due := List.mem_map_of_mem mem
      have ok := hs.ok _ mem2
      have at_ : At n t.1.1 t.1.2 := hs.at_ mem2
      have ih := fun M => ishaul_ok (M := M) (b := (t.1.1 : Int)) (e := (t.1.2 : Int)) (n := n) (by omega) (by have := at_.1; omega) (by have := at_.2; omega)
      have l0 : 0 ≤ t.2 := ok.1
      have l1 : t.2 ≤ 1000000000000 := Int.le_trans ok.2.1 hB
      have ip := fun M => isprice_ok (M := M) (v := t.2)
      refine ⟨[.shr (.cls "Bounds"), .shr (.int n), .shr (.tup (ts.map tickD)), .shr (.int k), .shr (tickD t), .no, .no], by simp [f3, f4], [.shr (.cls "Bounds"), .shr (.int n), .shr (.tup (ts.map tickD)), .shr (.int k), .shr (tickD t), .no, .no], ?_, .shr (.int k), .shr (tickD t), trivial, trivial, rfl⟩
      cases k with
      | zero => simp [b_Bounds_seen_1, tickD, ih, ip, l0, l1]
      | succ k =>
        have hk2 : k < ts.length := by omega
        have at1 : ∀ M, oIx (.tup (ts.map tickD)) (.int (k : Int)) M = .ok (tickD ts[k]) M := fun M => by
          have : atI (ts.map tickD) (k : Int) = some (tickD ts[k]) := atI_nat (by simp [hk2])
          show (match atI (ts.map tickD) (k : Int) with | some d => R.ok d M | none => .stuck) = _
          rw [this]
        have lx := hs.lex hn
        rw [List.map_map, List.pairwise_map, List.pairwise_iff_getElem] at lx
        have lt := lx k (k + 1) hk2 hk (by omega)
        rw [hs1] at lt
        have lt : lexP ts[k].1 t.1 := lt
        have ge : ∀ M, oGeT (hDp ts[k].1) (hDp t.1) M = .ok (.bl false) M := fun M => by
          refine oGeT_2.trans ?_
          have : ¬ ((t.1.1 : Int) < (ts[k].1.1 : Int) ∨ ((ts[k].1.1 : Int) = (t.1.1 : Int) ∧ (t.1.2 : Int) ≤ (ts[k].1.2 : Int))) := by
            unfold lexP at lt
            omega
          rw [decide_eq_false this]
        have k1 : ((k : Int) + 1) - 1 = (k : Int) := by omega
        have sp0 : ∀ (s : Tick) M, oIx (tickD s) (.int 0) M = .ok (hDp s.1) M := fun _ _ => rfl
        have sp1 : ∀ (s : Tick) M, oIx (tickD s) (.int 1) M = .ok (.int s.2) M := fun _ _ => rfl
        have ll : ∀ M, bLen [tickD t] M = .ok (.int 2) M := fun _ => rfl
        have is_ : ∀ M, oIsi (isT "tuple" []) (tickD t) M = .ok (.bl true) M := fun _ => rfl
        simp [b_Bounds_seen_1, ih, ip, l0, l1, k1, at1, sp0, sp1, ge, ll, is_])
    (env := [.shr (.cls "Bounds"), .shr (.int n), .shr (.tup (ts.map tickD)), .no, .no, .no, .no]) ⟨.no, .no, trivial, trivial, rfl⟩
  have cm := compL_map (gd := gT [5, 6]) (ft := eC (.bl true)) (fe := b_Bounds_seen_2) (env0 := [.shr (.cls "Bounds"), .shr (.int n), .shr (.tup (ts.map tickD)), y3, y4, .no, .no]) (enc := tickD) (g := fun t => spanD (due t)) (M := M) (xs := ts) (acc := [])
    (sz45 (by simp; omega)) (fun t hh => ⟨[.shr (.cls "Bounds"), .shr (.int n), .shr (.tup (ts.map tickD)), y3, y4, .shr (hDp t.1), .shr (.int t.2)], by simp [tickD], rfl, by simp [b_Bounds_seen_2, spanD, due]⟩)
  have cm' : compL (gT [5, 6]) (eC (.bl true)) b_Bounds_seen_2 [.shr (.cls "Bounds"), .shr (.int n), .shr (.tup (ts.map tickD)), y3, y4, .no, .no] (ts.map tickD) [] M = .ok (.lst ((ts.map due).map spanD)) M := by rw [List.map_map]; exact cm
  have ec : ∀ {l : LF} {xs : List D} {M' : List D}, l [.shr (.cls "Bounds"), .shr (.int n), .shr (.tup (ts.map tickD)), y3, y4, .no, .no] M = .ok xs M' → eCls 0 "Bounds" c_Bounds___init__ 2 [] l [.shr (.cls "Bounds"), .shr (.int n), .shr (.tup (ts.map tickD)), y3, y4, .no, .no] M = apC c_Bounds___init__ 2 [] xs M' := fun {l xs M'} h => by
    show (l _ M).bind _ = _
    rw [h]; rfl
  have ev := ec (l := (lCons (eV 1) (lCons (eCall bTup (lCons (eComp (iSeq (eV 2)) (gT [5, 6]) (eC (.bl true)) b_Bounds_seen_2 [5, 6]) lNil)) lNil))) (xs := [.int (n : Int), .tup ((ts.map due).map spanD)]) (M' := M) (by simp [-List.map_map, cm'])
  have ap : apC c_Bounds___init__ 2 [] [.int (n : Int), .tup ((ts.map due).map spanD)] M = .ok (boundsD n (ts.map due)) M := bi M
  rw [ap] at ev
  unfold c_Bounds_seen
  rw [e0]
  simp [-List.map_map, b_Bounds_seen, cs, enum_ticks, e1, ev]
theorem low_spans (hs : Spans n B ss) : Spans n B ((ss.map fun s => ((s.1, s.2.1) : Tick)).map due) := by
  refine ⟨?_, fun s hm => ?_⟩
  · rw [List.map_map, List.map_map]; exact hs.sub
  · obtain ⟨t, ht, rfl⟩ := List.mem_map.mp hm
    obtain ⟨u, hu, rfl⟩ := List.mem_map.mp ht
    obtain ⟨h0, h1, h2⟩ := hs.ok u hu
    refine ⟨h0, h1, fun h e => ?_⟩
    have e : some u.2.1 = some h := e
    injection e with e
    exact ⟨by show u.2.1 ≤ h; omega, by omega⟩
theorem drop_spans (hs : Spans n B ss) : Spans n B ss.dropLast := ⟨((List.dropLast_sublist ss).map _).trans hs.sub, fun s hm => hs.ok s (List.dropLast_sublist ss |>.subset hm)⟩
theorem cut_spans : oSlE (.tup (ss.map spanD)) none (some (-1)) M = .ok (.tup (ss.dropLast.map spanD)) M := by
  rcases List.eq_nil_or_concat ss with rfl | ⟨xs, y, rfl⟩
  · rfl
  · rw [List.concat_eq_append, List.dropLast_concat, List.map_append]
    exact cut_last
theorem many9 {v : Int} (h0 : 0 ≤ v) (h1 : v < 9) : ∃ n : Nat, (2 : Int) + v = (n : Int) ∧ 2 ≤ n ∧ n ≤ 10 := ⟨(2 + v).toNat, by omega, by omega, by omega⟩
theorem sp_wide (hs : Spans n B ss) (hB : B ≤ 1000000000000) : Spans n 1000000000000 ss := ⟨hs.sub, fun s hm => by
  obtain ⟨h0, h1, h2⟩ := hs.ok s hm
  exact ⟨h0, by omega, fun h e => by have := h2 h e; omega⟩⟩
theorem lap_ok (hj : JarAt M c) {x1 x2 x3 x4 x5 x6 x7 x8 x9 x10 x11 x12 x13 x14 : MP.B} (f2 : x2.free) (f3 : x3.free) (f4 : x4.free) (f5 : x5.free) (f6 : x6.free) (f7 : x7.free) (f8 : x8.free) (f9 : x9.free) (f10 : x10.free) (f11 : x11.free) (f12 : x12 = .no) (f13 : x13 = .no) (f14 : x14 = .no) :
    ∃ y2 y3 y4 y5 y6 y7 y8 y9 y10 y11 : D, ∃ M', b__law_right_5 [.shr (.cel c), x1, x2, x3, x4, x5, x6, x7, x8, x9, x10, x11, x12, x13, x14] M = .next [.shr (.cel c), x1, .shr y2, .shr y3, .shr y4, .shr y5, .shr y6, .shr y7, .shr y8, .shr y9, .shr y10, .shr y11, .no, .no, .no] M' ∧ JarAt M' c := by
  subst f12 f13 f14
  obtain ⟨v, M1, e1, v0, v1, j1⟩ := dip_ok (m := 9) hj (by decide) (by decide)
  obtain ⟨n, en, h2, hn⟩ := many9 v0 v1
  obtain ⟨most, M2, e2, hm, j2⟩ := pick_ok (ms := [.int 3, .int 60, .int 500000000000]) j1 (by simp) (by simp)
  obtain ⟨bb, rfl, b0, b1⟩ : ∃ b : Int, most = .int b ∧ 0 ≤ b ∧ b ≤ 500000000000 := by
    simp at hm
    rcases hm with rfl | rfl | rfl <;> exact ⟨_, rfl, by decide, by decide⟩
  obtain ⟨ss, M3, e3, hs0, j3⟩ := law_spans_ok hn j2 b0 (Int.le_trans b1 (by decide))
  have hs : Spans n 1000000000000 ss := sp_wide hs0 (by omega)
  obtain ⟨s3, M4, e4, hs3, j4⟩ := law_spans_ok (most := 3) hn j3 (by decide) (by decide)
  have hs3 : Spans n 1000000000000 s3 := sp_wide hs3 (by decide)
  obtain ⟨sd, hsd⟩ : ∃ sd, ss.dropLast = sd := ⟨_, rfl⟩
  obtain ⟨mt, M5, e5, hmt, j5⟩ := pick_ok (ms := [.tup (ss.map spanD), .tup (sd.map spanD), .tup (s3.map spanD)]) j4 (by simp) (by simp)
  obtain ⟨sm, rfl, hsm⟩ : ∃ sm : List Span, mt = .tup (sm.map spanD) ∧ Spans n 1000000000000 sm := by
    simp only [List.mem_cons, List.not_mem_nil, or_false] at hmt
    rcases hmt with rfl | rfl | rfl
    · exact ⟨_, rfl, hs⟩
    · exact ⟨_, rfl, hsd ▸ drop_spans hs⟩
    · exact ⟨_, rfl, hs3⟩
  have le := Int.le_refl (1000000000000 : Int)
  have bi1 := fun M => binit_ok (M := M) h2 hn hs le
  have bi2 := fun M => binit_ok (M := M) h2 hn hsm le
  have fr1 := fun M => frame_ok (M := M) h2 hn hs
  have fr2 := fun M => frame_ok (M := M) h2 hn hsm
  have pg := fun M => page_ok (M := M) hn hs le
  have strO : ∀ {sx : List Span}, Spans n 1000000000000 sx → ∀ M, bStrO "Bounds" c_Bounds___str__ [boundsD n sx] M = .ok (.str (textS n sx)) M := fun {sx} hx M => by
    have := bstr_ok (M := M) hn hx le
    show (if insOf "Bounds" (boundsD n sx) = true then strR (apC c_Bounds___str__ 1 [] [boundsD n sx] M) else .stuck) = _
    rw [if_pos (show insOf "Bounds" (boundsD n sx) = true from rfl)]
    show strR (c_Bounds___str__ [boundsD n sx] M) = _
    rw [this]; rfl
  have st1 := strO hs
  have st2 := strO hsm
  have rd1 := fun M => read_ok (M := M) h2 hn hs le
  have rd2 := fun M => read_ok (M := M) h2 hn hsm le
  obtain ⟨b12, q1, q2, q3, _⟩ := bnd_eqd hn hs hsm
  obtain ⟨b22, r1, _, _, rt⟩ := bnd_eqd hn hsm hsm
  have rt := rt rfl
  subst rt
  obtain ⟨th, M6, e6, hth, j6⟩ := pick_ok (ms := [.non, .int 0, .str (textS n ss), .tup (ss.map spanD), .tup [.int (n : Int), .tup (ss.map spanD)], .lst [], .dK []]) j5 (by simp) (by simp)
  obtain ⟨o1, o2⟩ : (∀ M, oEqX "Bounds" c_Bounds___eq__ (boundsD n ss) th M = .ok (.bl false) M) ∧ ∀ M, oNeX "Bounds" c_Bounds___eq__ (boundsD n ss) th M = .ok (.bl true) M := by
    simp only [List.mem_cons, List.not_mem_nil, or_false] at hth
    rcases hth with rfl | rfl | rfl | rfl | rfl | rfl | rfl <;> exact bnd_oth rfl (fun _ => rfl) (fun _ => rfl)
  obtain ⟨rd, M7, e7, hrd, j7⟩ := pick_ok (ms := (hauls n).map hDp) j6 (by
    intro z
    have : (0, 1) ∈ hauls n := mem_hauls.mpr ⟨by omega, by omega⟩
    have h3 := List.map_eq_nil_iff.mp z
    rw [h3] at this; cases this) (by have := hauls_len n hn; rw [List.length_map]; omega)
  obtain ⟨h, hh, rfl⟩ := List.mem_map.mp hrd
  have at_ := hauls_lt hh
  have ro := fun M => rides_ok (M := M) hn
  have wo := fun M => without_ok (M := M) h2 hn hs le at_
  have hw := hs.wout h
  have bi3 := fun M => binit_ok (M := M) h2 hn hw le
  have fr3 := fun M => frame_ok (M := M) h2 hn hw
  obtain ⟨b33, u1, _, _, ut⟩ := bnd_eqd hn hw hw
  have ut := ut rfl
  subst ut
  have hd := low_spans hs
  obtain ⟨ts, hts⟩ : ∃ ts, ts = ss.map fun s => ((s.1, s.2.1) : Tick) := ⟨_, rfl⟩
  rw [← hts] at hd
  have se := fun M => seen_ok (M := M) h2 hn hd le
  have bi4 := fun M => binit_ok (M := M) h2 hn hd le
  obtain ⟨b44, z1, _, _, zt⟩ := bnd_eqd hn hd hd
  have zt := zt rfl
  subst zt
  have hnil : Spans n 1000000000000 ([] : List Span) := ⟨List.nil_sublist _, fun s h => nomatch h⟩
  have hnil' : Spans n 1000000000000 (([] : List Tick).map due) := hnil
  have se0 : ∀ M, c_Bounds_seen [.cls "Bounds", .int (n : Int), .tup []] M = .ok (boundsD n []) M := fun M => seen_ok (ts := []) (M := M) h2 hn hnil' le
  have bi0 : ∀ M, c_Bounds___init__ [.int (n : Int), .tup []] M = .ok (boundsD n []) M := fun M => binit_ok (M := M) h2 hn hnil le
  obtain ⟨b00, w1, _, _, wt⟩ := bnd_eqd hn hnil hnil
  have wt := wt rfl
  subst wt
  have sq : ∀ M, seqL (.tup (ss.map spanD)) M = .ok (ss.map spanD) M := fun _ => rfl
  have pw : ∀ M, oPow (.int 10) (.int 11) M = .ok (.int 100000000000) M := fun _ => by rfl
  have cut : ∀ M, oSlE (.tup (ss.map spanD)) none (some (-1)) M = .ok (.tup (sd.map spanD)) M := fun M => hsd ▸ cut_spans
  have l3 : ∀ {x y z : D} {M}, lenR D.lst [x, y, z] M = .ok (.lst [x, y, z]) M := rfl
  have l7 : ∀ {a b d e f g h : D} {M}, lenR D.lst [a, b, d, e, f, g, h] M = .ok (.lst [a, b, d, e, f, g, h]) M := rfl
  have lt2 : ∀ {x y : D} {M}, lenR D.tup [x, y] M = .ok (.tup [x, y]) M := rfl
  have eCM1 : ∀ (l : LF) (env : EnvM) (M : List D), eCM "Bounds" c_Bounds_read 2 [] l env M = (l env M).bind fun xs M1 => apC c_Bounds_read 2 [] (.cls "Bounds" :: xs) M1 := fun _ _ _ => rfl
  have eCM2 : ∀ (l : LF) (env : EnvM) (M : List D), eCM "Bounds" c_Bounds_seen 3 [] l env M = (l env M).bind fun xs M1 => apC c_Bounds_seen 3 [] (.cls "Bounds" :: xs) M1 := fun _ _ _ => rfl
  have eCQ1 : ∀ (l : LF) (env : EnvM) (M : List D), eCMQ "Bounds" c_Bounds_read 2 1 [0, 1] [] l env M = (l env M).bind fun ys M1 => apQ c_Bounds_read 2 1 1 [0, 1] [] [.cls "Bounds"] ys M1 := fun _ _ _ => rfl
  have eCQ2 : ∀ (l : LF) (env : EnvM) (M : List D), eCMQ "Bounds" c_Bounds_seen 3 2 [0, 2, 1] [] l env M = (l env M).bind fun ys M1 => apQ c_Bounds_seen 3 1 2 [0, 2, 1] [] [.cls "Bounds"] ys M1 := fun _ _ _ => rfl
  have ap1 : ∀ {x y : D} {M}, apQ c_Bounds_read 2 1 1 [0, 1] [] [x] [y] M = c_Bounds_read [x, y] M := apQ_of ⟨rfl, rfl, rfl⟩ rfl
  have ap2 : ∀ {x y z : D} {M}, apQ c_Bounds_seen 3 1 2 [0, 2, 1] [] [x] [y, z] M = c_Bounds_seen [x, z, y] M := apQ_of ⟨rfl, rfl, rfl⟩ rfl
  have ap3 : ∀ {x y : D} {M}, apQ c_Bounds___init__ 2 0 2 [1, 0] [] [] [x, y] M = c_Bounds___init__ [y, x] M := apQ_of ⟨rfl, rfl, rfl⟩ rfl
  have ap4 : ∀ {x y : D} {M}, apQ c_Bounds_without 2 1 1 [0, 1] [] [x] [y] M = c_Bounds_without [x, y] M := apQ_of ⟨rfl, rfl, rfl⟩ rfl
  have ac1 : ∀ {x y : D} {M}, apC c_Bounds_read 2 [] [x, y] M = c_Bounds_read [x, y] M := rfl
  have ac2 : ∀ {x y z : D} {M}, apC c_Bounds_seen 3 [] [x, y, z] M = c_Bounds_seen [x, y, z] M := rfl
  have ac3 : ∀ {x : D} {M}, apC c_Bounds___init__ 2 [.tup []] [x] M = c_Bounds___init__ [x, .tup []] M := rfl
  have mw : ∀ {r : R}, methR "Bounds" "without" (boundsD n ss) r = r := meth_bounds rfl
  have vB : ∀ M, view M (boundsD n ss) = boundsD n ss := fun _ => view_bounds
  have mu : CMulB 5 100000000000 := by decide +kernel
  have neb : ∀ (x y : Bool) M, oNe (.bl x) (.bl y) M = .ok (.bl (!(x == y))) M := fun x y M => by cases x <;> cases y <;> rfl
  have eqb : ∀ (x y : Bool) M, oEq (.bl x) (.bl y) M = .ok (.bl (x == y)) M := fun x y M => by cases x <;> cases y <;> rfl
  have s0 : ∀ (s : Span) M, oIx (spanD s) (.int 0) M = .ok (hDp s.1) M := fun _ _ => rfl
  have hl := hs.len hn
  have c1 := compL_filter (gd := gN 12) (ft := b__law_right_2) (fe := b__law_right_1) (env0 := [.shr (.cel c), x1, .shr (.int (n : Int)), .shr (.tup (ss.map spanD)), .shr (.tup (sm.map spanD)), .shr (boundsD n ss), .shr (boundsD n sm), .shr th, .shr (hDp h), x9, x10, x11, .no, .no, .no]) (enc := spanD) (g := spanD) (p := fun s => decide (s.1 ≠ h)) (M := M7) (xs := ss) (acc := [])
    (sz45 (by rw [List.length_nil]; omega)) (fun s hx => ⟨[.shr (.cel c), x1, .shr (.int (n : Int)), .shr (.tup (ss.map spanD)), .shr (.tup (sm.map spanD)), .shr (boundsD n ss), .shr (boundsD n sm), .shr th, .shr (hDp h), x9, x10, x11, .shr (spanD s), .no, .no], by simp, by
      have ne := fun M => oNe_haul (M := M) hn (hs.at_ hx) at_
      simp only [b__law_right_2, e2_eq, eVB_eq, List.getElem?_cons_succ, List.getElem?_cons_zero, getB_shr, R.bind_ok, eC_eq, s0, ne], fun _ => by simp [b__law_right_1]⟩)
  have c1' : compL (gN 12) b__law_right_2 b__law_right_1 [.shr (.cel c), x1, .shr (.int (n : Int)), .shr (.tup (ss.map spanD)), .shr (.tup (sm.map spanD)), .shr (boundsD n ss), .shr (boundsD n sm), .shr th, .shr (hDp h), x9, x10, x11, .no, .no, .no] (ss.map spanD) [] M7 = .ok (.lst ((wout ss h).map spanD)) M7 := c1
  have c2 := compL_map (gd := gT [12, 13, 14]) (ft := eC (.bl true)) (fe := b__law_right_3) (env0 := [.shr (.cel c), x1, .shr (.int (n : Int)), .shr (.tup (ss.map spanD)), .shr (.tup (sm.map spanD)), .shr (boundsD n ss), .shr (boundsD n sm), .shr th, .shr (hDp h), .shr (.tup ((wout ss h).map spanD)), x10, x11, .no, .no, .no]) (enc := spanD) (g := fun s => tickD (s.1, s.2.1)) (M := M7) (xs := ss) (acc := [])
    (sz45 (by rw [List.length_nil]; omega)) (fun s hx => ⟨[.shr (.cel c), x1, .shr (.int (n : Int)), .shr (.tup (ss.map spanD)), .shr (.tup (sm.map spanD)), .shr (boundsD n ss), .shr (boundsD n sm), .shr th, .shr (hDp h), .shr (.tup ((wout ss h).map spanD)), x10, x11, .shr (hDp s.1), .shr (.int s.2.1), .shr (od s.2.2)], by simp [spanD], rfl, by simp [b__law_right_3, tickD, lt2]⟩)
  have c2' : compL (gT [12, 13, 14]) (eC (.bl true)) b__law_right_3 [.shr (.cel c), x1, .shr (.int (n : Int)), .shr (.tup (ss.map spanD)), .shr (.tup (sm.map spanD)), .shr (boundsD n ss), .shr (boundsD n sm), .shr th, .shr (hDp h), .shr (.tup ((wout ss h).map spanD)), x10, x11, .no, .no, .no] (ss.map spanD) [] M7 = .ok (.lst (ts.map tickD)) M7 := by
    rw [hts, List.map_map]; exact c2
  have c3 := compL_map (gd := gT [12, 13, 14]) (ft := eC (.bl true)) (fe := b__law_right_4) (env0 := [.shr (.cel c), x1, .shr (.int (n : Int)), .shr (.tup (ss.map spanD)), .shr (.tup (sm.map spanD)), .shr (boundsD n ss), .shr (boundsD n sm), .shr th, .shr (hDp h), .shr (.tup ((wout ss h).map spanD)), .shr (.tup (ts.map tickD)), x11, .no, .no, .no]) (enc := spanD) (g := fun s => spanD (due (s.1, s.2.1))) (M := M7) (xs := ss) (acc := [])
    (sz45 (by rw [List.length_nil]; omega)) (fun s hx => ⟨[.shr (.cel c), x1, .shr (.int (n : Int)), .shr (.tup (ss.map spanD)), .shr (.tup (sm.map spanD)), .shr (boundsD n ss), .shr (boundsD n sm), .shr th, .shr (hDp h), .shr (.tup ((wout ss h).map spanD)), .shr (.tup (ts.map tickD)), x11, .shr (hDp s.1), .shr (.int s.2.1), .shr (od s.2.2)], by simp [spanD], rfl, by
      have l3t : ∀ {x y z : D} {M}, lenR D.tup [x, y, z] M = .ok (.tup [x, y, z]) M := rfl
      simp [b__law_right_4, spanD, due, l3t]⟩)
  have c3' : compL (gT [12, 13, 14]) (eC (.bl true)) b__law_right_4 [.shr (.cel c), x1, .shr (.int (n : Int)), .shr (.tup (ss.map spanD)), .shr (.tup (sm.map spanD)), .shr (boundsD n ss), .shr (boundsD n sm), .shr th, .shr (hDp h), .shr (.tup ((wout ss h).map spanD)), .shr (.tup (ts.map tickD)), x11, .no, .no, .no] (ss.map spanD) [] M7 = .ok (.lst ((ts.map due).map spanD)) M7 := by
    have e : ((ts.map due).map spanD) = ss.map fun s => spanD (due (s.1, s.2.1)) := by rw [hts, List.map_map, List.map_map]; rfl
    rw [e]; exact c3
  refine ⟨.int n, .tup (ss.map spanD), .tup (sm.map spanD), boundsD n ss, boundsD n sm, th, hDp h, .tup ((wout ss h).map spanD), .tup (ts.map tickD), .tup ((ts.map due).map spanD), M7, ?_, j7⟩
  generalize boundsD n ss = BS at *
  generalize boundsD n sm = BM at *
  generalize boundsD n (wout ss h) = BW at *
  generalize boundsD n (ts.map due) = BT at *
  generalize boundsD n [] = BN at *
  simp [-List.map_map, b__law_right_5, e1, en, e2, e3, e4, e5, e6, e7, l3, l7, lt2, pw, eSl, eInt, optI, cut, mu, bi1, bi2, ap3, fr1, fr2, pg, eCM1, ac1, rd1, eCQ1, ap1, st1, st2, rd2, r1, q1, q2, q3, neb, eqb, o1, o2, ro, sq, c1', view_bounds, vB, mw, wo, bi3, u1, ap4, fr3, c2', c3', eCM2, ac2, se, bi4, z1, eCQ2, ap2, se0, ac3, bi0, w1, f2, f3, f4, f5, f6, f7, f8, f9, f10, f11]
theorem right_ok {M : List D} {c : Nat} (hj : JarAt M c) : ∃ M', c__law_right [.cel c] M = .ok (.bl true) M' := by
  have e0 : env0 N__law_right.length [.cel c] = [.shr (.cel c), .no, .no, .no, .no, .no, .no, .no, .no, .no, .no, .no, .no, .no, .no] := rfl
  obtain ⟨env2, M2, e1, y1, y2, y3, y4, y5, y6, y7, y8, y9, y10, y11, hf, rfl, j2⟩ := forL_pre (gd := gN 1) (b := b__law_right_5) (enc := fun (k : Nat) => D.int (k : Int)) (xs := List.range 2)
    (P := fun pre env M' => ∃ y1 y2 y3 y4 y5 y6 y7 y8 y9 y10 y11 : MP.B, (y1.free ∧ y2.free ∧ y3.free ∧ y4.free ∧ y5.free ∧ y6.free ∧ y7.free ∧ y8.free ∧ y9.free ∧ y10.free ∧ y11.free) ∧ env = [.shr (.cel c), y1, y2, y3, y4, y5, y6, y7, y8, y9, y10, y11, .no, .no, .no] ∧ JarAt M' c) (by
      rintro pre k post env M' e ⟨y1, y2, y3, y4, y5, y6, y7, y8, y9, y10, y11, ⟨f1, f2, f3, f4, f5, f6, f7, f8, f9, f10, f11⟩, rfl, jj⟩
      obtain ⟨z2, z3, z4, z5, z6, z7, z8, z9, z10, z11, M1, e1, j1⟩ := lap_ok (x1 := .shr (.int (k : Int))) jj f2 f3 f4 f5 f6 f7 f8 f9 f10 f11 rfl rfl rfl
      refine ⟨[.shr (.cel c), .shr (.int (k : Int)), y2, y3, y4, y5, y6, y7, y8, y9, y10, y11, .no, .no, .no], by simp [f1], _, M1, .inl e1, _, _, _, _, _, _, _, _, _, _, _, ⟨free_shr, free_shr, free_shr, free_shr, free_shr, free_shr, free_shr, free_shr, free_shr, free_shr, free_shr⟩, rfl, j1⟩)
    (env := [.shr (.cel c), .no, .no, .no, .no, .no, .no, .no, .no, .no, .no, .no, .no, .no, .no]) (M := M) ⟨.no, .no, .no, .no, .no, .no, .no, .no, .no, .no, .no, ⟨trivial, trivial, trivial, trivial, trivial, trivial, trivial, trivial, trivial, trivial, trivial⟩, rfl, hj⟩
  have rl : ∀ M, rngL1 (.int 2) M = .ok ((List.range 2).map fun (k : Nat) => D.int (k : Int)) M := fun _ => rfl
  have hnil : Spans 3 1000000000000 ([] : List Span) := ⟨List.nil_sublist _, fun s h => nomatch h⟩
  have bi0 : ∀ M, c_Bounds___init__ [.int 3, .tup []] M = .ok (boundsD 3 []) M := fun M => binit_ok (M := M) (by decide) (by decide) hnil (Int.le_refl _)
  have p2 : ∀ M, propR "Bounds" c_Bounds_ranges (boundsD 3 []) M = .ok (.tup []) M := fun M => prop_branges (M := M) (n := 3) (ss := [])
  have ac3 : ∀ {x : D} {M}, apC c_Bounds___init__ 2 [.tup []] [x] M = c_Bounds___init__ [x, .tup []] M := rfl
  have rp : ∀ M, bReprA [.tup []] M = .ok (.str "()") M := fun M => by kernel_rfl
  refine ⟨M2, ?_⟩
  unfold c__law_right
  rw [e0]
  simp [-List.map_map, b__law_right, rl, e1, ac3, bi0, p2, rp]
end
end HP
set_option maxRecDepth 100000
set_option maxHeartbeats 1000000
namespace HP
open MP PySem L2
theorem law_ok {ns : List Int} (hl : ns.length ≤ 63) : ∃ M, c_law [.scr ns] [] = .ok (.bl true) M := by
  have e0 : env0 N_law.length [.scr ns] = [.shr (.scr ns), .no] := rfl
  unfold c_law
  rw [e0]
  obtain ⟨t, ht⟩ : ∃ t : Int, t = mx2 2 (mn2 (ns.length : Int) 5) := ⟨_, rfl⟩
  have ht2 : 2 ≤ t ∧ t ≤ 5 := by rw [ht]; unfold mx2 mn2; split <;> split <;> omega
  have ir : inR t := inR_of (by omega) (by omega)
  obtain ⟨acc, M2, e1, rfl⟩ := comp_inv (gd := gN 1) (ft := eC (.bl true)) (fe := b_law_1) (env0 := [.shr (.scr ns), .no]) (ds := rngD 0 t.toNat)
    (fun i acc M => acc = (List.replicate i true).map D.bl)
    (by
      rintro i d acc M hd rfl
      obtain ⟨hi, rfl⟩ := rngD_of hd
      obtain ⟨dd, s, h1, h2, e⟩ := jar_ok (ns := ns) (k := i) (by omega) hl M
      obtain ⟨M', e2⟩ := right_ok (M := M ++ [jr dd s 0]) (c := M.length) ⟨dd, s, 0, h1, h2, by simp⟩
      refine ⟨[.shr (.scr ns), .shr (.int (0 + (i : Nat)))], by simp, .inl ⟨M, .bl true, M', rfl, ?_, ?_, ?_⟩⟩
      · simp [b_law_1, e, e2]
      · rw [List.length_map, List.length_replicate]
        exact Nat.lt_trans (show i < 1000 by omega) (by decide)
      · rw [List.replicate_succ', List.map_append]; rfl)
    (M := []) rfl
  have ba := bAll_bools (ns := List.replicate (rngD 0 t.toNat).length true) (M := M2)
  refine ⟨M2, ?_⟩
  simp [b_law, ← ht, ir, e1, -List.map_replicate]
  rw [rngD_len] at ba
  rw [ba]
  simp
end HP
set_option maxRecDepth 100000
set_option maxHeartbeats 1000000
namespace HP
open MP
open PySem PySem.Spec PyProof.Rows L2
def top (i : Nat) : Stmt := PySem.Challenge.pw_haulprices_k08_bounds_and_texts.main.body.getD i (.Pass ⟨0, 0, 0, 0⟩)
abbrev st__law_dip : Stmt := top 27
abbrev st__law_rides : Stmt := top 29
abbrev st__law_spans : Stmt := top 30
abbrev st__law_pick : Stmt := top 28
abbrev st_is_integer : Stmt := top 11
abbrev st_is_within : Stmt := top 12
abbrev st_check_stops : Stmt := top 16
abbrev st_is_haul : Stmt := top 14
abbrev st_is_price : Stmt := top 13
abbrev st_is_range : Stmt := top 20
abbrev st_Bounds___init__ : Stmt := (clsB (top 24)).getD 0 (.Pass ⟨0, 0, 0, 0⟩)
abbrev st__law_lows : Stmt := top 31
abbrev st_Bounds_stops : Stmt := (clsB (top 24)).getD 3 (.Pass ⟨0, 0, 0, 0⟩)
abbrev st_Bounds_ranges : Stmt := (clsB (top 24)).getD 4 (.Pass ⟨0, 0, 0, 0⟩)
abbrev st_Bounds___str__ : Stmt := (clsB (top 24)).getD 5 (.Pass ⟨0, 0, 0, 0⟩)
abbrev st__law_page : Stmt := top 32
abbrev st_check_haul : Stmt := top 17
abbrev st_hauls_of : Stmt := top 15
abbrev st_Bounds_leasts : Stmt := (clsB (top 24)).getD 7 (.Pass ⟨0, 0, 0, 0⟩)
abbrev st_Bounds_greatests : Stmt := (clsB (top 24)).getD 8 (.Pass ⟨0, 0, 0, 0⟩)
abbrev st_Bounds_told : Stmt := (clsB (top 24)).getD 9 (.Pass ⟨0, 0, 0, 0⟩)
abbrev st__law_is_frame : Stmt := top 33
abbrev st_number_in : Stmt := top 21
abbrev st_stops_in : Stmt := top 22
abbrev st_range_in : Stmt := top 23
abbrev st_Bounds_read : Stmt := (clsB (top 24)).getD 1 (.Pass ⟨0, 0, 0, 0⟩)
abbrev st_Bounds___eq__ : Stmt := (clsB (top 24)).getD 6 (.Pass ⟨0, 0, 0, 0⟩)
abbrev st_Bounds_without : Stmt := (clsB (top 24)).getD 10 (.Pass ⟨0, 0, 0, 0⟩)
abbrev st_Bounds_seen : Stmt := (clsB (top 24)).getD 2 (.Pass ⟨0, 0, 0, 0⟩)
abbrev st__law_right : Stmt := top 34
abbrev st__law_jar : Stmt := top 26
abbrev st_law : Stmt := top 35
def d__law_dip : DefM := ⟨.g "_law_dip", "_law_dip", "_law_dip", defArgs st__law_dip, defBody st__law_dip, defScope st__law_dip, [], []⟩
def d__law_rides : DefM := ⟨.g "_law_rides", "_law_rides", "_law_rides", defArgs st__law_rides, defBody st__law_rides, defScope st__law_rides, [], []⟩
def d__law_spans : DefM := ⟨.g "_law_spans", "_law_spans", "_law_spans", defArgs st__law_spans, defBody st__law_spans, defScope st__law_spans, [], []⟩
def d__law_pick : DefM := ⟨.g "_law_pick", "_law_pick", "_law_pick", defArgs st__law_pick, defBody st__law_pick, defScope st__law_pick, [], []⟩
def d_is_integer : DefM := ⟨.g "is_integer", "is_integer", "is_integer", defArgs st_is_integer, defBody st_is_integer, defScope st_is_integer, [], []⟩
def d_is_within : DefM := ⟨.g "is_within", "is_within", "is_within", defArgs st_is_within, defBody st_is_within, defScope st_is_within, [], []⟩
def d_check_stops : DefM := ⟨.g "check_stops", "check_stops", "check_stops", defArgs st_check_stops, defBody st_check_stops, defScope st_check_stops, [], []⟩
def d_is_haul : DefM := ⟨.g "is_haul", "is_haul", "is_haul", defArgs st_is_haul, defBody st_is_haul, defScope st_is_haul, [], []⟩
def d_is_price : DefM := ⟨.g "is_price", "is_price", "is_price", defArgs st_is_price, defBody st_is_price, defScope st_is_price, [], []⟩
def d_is_range : DefM := ⟨.g "is_range", "is_range", "is_range", defArgs st_is_range, defBody st_is_range, defScope st_is_range, [], []⟩
def d_Bounds___init__ : DefM := ⟨.m "Bounds" "__init__", "__init__", "Bounds.__init__", defArgs st_Bounds___init__, defBody st_Bounds___init__, defScope st_Bounds___init__, [.adr (He.dflAt ("Bounds", some "__init__") 0)], []⟩
def d__law_lows : DefM := ⟨.g "_law_lows", "_law_lows", "_law_lows", defArgs st__law_lows, defBody st__law_lows, defScope st__law_lows, [], []⟩
def d_Bounds_stops : DefM := ⟨.p "Bounds" "stops", "stops", "Bounds.stops", defArgs st_Bounds_stops, defBody st_Bounds_stops, defScope st_Bounds_stops, [], []⟩
def d_Bounds_ranges : DefM := ⟨.p "Bounds" "ranges", "ranges", "Bounds.ranges", defArgs st_Bounds_ranges, defBody st_Bounds_ranges, defScope st_Bounds_ranges, [], []⟩
def d_Bounds___str__ : DefM := ⟨.m "Bounds" "__str__", "__str__", "Bounds.__str__", defArgs st_Bounds___str__, defBody st_Bounds___str__, defScope st_Bounds___str__, [], []⟩
def d__law_page : DefM := ⟨.g "_law_page", "_law_page", "_law_page", defArgs st__law_page, defBody st__law_page, defScope st__law_page, [], []⟩
def d_check_haul : DefM := ⟨.g "check_haul", "check_haul", "check_haul", defArgs st_check_haul, defBody st_check_haul, defScope st_check_haul, [], []⟩
def d_hauls_of : DefM := ⟨.g "hauls_of", "hauls_of", "hauls_of", defArgs st_hauls_of, defBody st_hauls_of, defScope st_hauls_of, [], []⟩
def d_Bounds_leasts : DefM := ⟨.m "Bounds" "leasts", "leasts", "Bounds.leasts", defArgs st_Bounds_leasts, defBody st_Bounds_leasts, defScope st_Bounds_leasts, [], []⟩
def d_Bounds_greatests : DefM := ⟨.m "Bounds" "greatests", "greatests", "Bounds.greatests", defArgs st_Bounds_greatests, defBody st_Bounds_greatests, defScope st_Bounds_greatests, [], []⟩
def d_Bounds_told : DefM := ⟨.m "Bounds" "told", "told", "Bounds.told", defArgs st_Bounds_told, defBody st_Bounds_told, defScope st_Bounds_told, [], []⟩
def d__law_is_frame : DefM := ⟨.g "_law_is_frame", "_law_is_frame", "_law_is_frame", defArgs st__law_is_frame, defBody st__law_is_frame, defScope st__law_is_frame, [], []⟩
def d_number_in : DefM := ⟨.g "number_in", "number_in", "number_in", defArgs st_number_in, defBody st_number_in, defScope st_number_in, [], []⟩
def d_stops_in : DefM := ⟨.g "stops_in", "stops_in", "stops_in", defArgs st_stops_in, defBody st_stops_in, defScope st_stops_in, [], []⟩
def d_range_in : DefM := ⟨.g "range_in", "range_in", "range_in", defArgs st_range_in, defBody st_range_in, defScope st_range_in, [], []⟩
def d_Bounds_read : DefM := ⟨.c "Bounds" "read", "read", "Bounds.read", defArgs st_Bounds_read, defBody st_Bounds_read, defScope st_Bounds_read, [], []⟩
def d_Bounds___eq__ : DefM := ⟨.m "Bounds" "__eq__", "__eq__", "Bounds.__eq__", defArgs st_Bounds___eq__, defBody st_Bounds___eq__, defScope st_Bounds___eq__, [], []⟩
def d_Bounds_without : DefM := ⟨.m "Bounds" "without", "without", "Bounds.without", defArgs st_Bounds_without, defBody st_Bounds_without, defScope st_Bounds_without, [], []⟩
def d_Bounds_seen : DefM := ⟨.c "Bounds" "seen", "seen", "Bounds.seen", defArgs st_Bounds_seen, defBody st_Bounds_seen, defScope st_Bounds_seen, [], []⟩
def d__law_right : DefM := ⟨.g "_law_right", "_law_right", "_law_right", defArgs st__law_right, defBody st__law_right, defScope st__law_right, [], []⟩
def d__law_jar : DefM := ⟨.g "_law_jar", "_law_jar", "_law_jar", defArgs st__law_jar, defBody st__law_jar, defScope st__law_jar, [], []⟩
def d_law : DefM := ⟨.g "law", "law", "law", defArgs st_law, defBody st_law, defScope st_law, [], []⟩
def fn : List DefM := [d__law_dip, d__law_rides, d__law_spans, d__law_pick, d_is_integer, d_is_within, d_check_stops, d_is_haul, d_is_price, d_is_range, d_Bounds___init__, d__law_lows, d_Bounds_stops, d_Bounds_ranges, d_Bounds___str__, d__law_page, d_check_haul, d_hauls_of, d_Bounds_leasts, d_Bounds_greatests, d_Bounds_told, d__law_is_frame, d_number_in, d_stops_in, d_range_in, d_Bounds_read, d_Bounds___eq__, d_Bounds_without, d_Bounds_seen, d__law_right, d__law_jar, d_law]
def fa : List He.Fa := ([.free "len", .free "min", .free "max", .free "range", .free "int", .glo "_law_dip", .glo "_law_rides", .free "tuple", .glo "_law_pick", .glo "_law_spans", .free "isinstance", .free "bool", .glo "is_integer", .int "MOST_STOPS" 10, .glo "is_within", .glo "check_stops", .free "enumerate", .free "all", .glo "is_haul", .int "MOST_PRICE" 1000000000000, .glo "is_price", .glo "is_range", .cls "Bounds", .noat "Bounds" "all", .glo "Bounds", .glo "_law_lows", .free "str", .meth "Bounds" "__str__", .free "repr", .glo "_law_page"] : List He.Fa) ++ ([.glo "check_haul", .glo "hauls_of", .meth "Bounds" "leasts", .meth "Bounds" "greatests", .meth "Bounds" "told", .noat "Bounds" "__bool__", .noat "Bounds" "__len__", .glo "_law_is_frame", .str "DIGITS" "0123456789", .glo "number_in", .glo "stops_in", .glo "range_in", .meth "Bounds" "__eq__", .meth "Bounds" "without", .free "abs", .glo "_law_jar", .glo "_law_right", .mkr "Bounds", .glo "law"] : List He.Fa)
def fm : List Fm := ([.prop "Bounds" "stops", .prop "Bounds" "ranges", .cm "Bounds" "read", .kitA "Bounds", .clsT "Bounds", .neO "Bounds", .cm "Bounds" "seen", .dtup "Bounds" "__init__" 0] : List Fm)
theorem sc__law_dip : FnScope N__law_dip [("_law_jar_here" : Str), ("_law_many" : Str)] (defScope st__law_dip) := ⟨rfl, rfl, rfl, by decide +kernel, rfl, by decide +kernel, by decide +kernel⟩
theorem sc__law_rides : FnScope N__law_rides [("_law_many" : Str)] (defScope st__law_rides) := ⟨rfl, rfl, rfl, by decide +kernel, rfl, by decide +kernel, by decide +kernel⟩
theorem sc__law_spans : FnScope N__law_spans [("_law_jar_here" : Str), ("_law_many" : Str), ("_law_most" : Str)] (defScope st__law_spans) := ⟨rfl, rfl, rfl, by decide +kernel, rfl, by decide +kernel, by decide +kernel⟩
theorem sc__law_pick : FnScope N__law_pick [("_law_jar_here" : Str), ("_law_menu" : Str)] (defScope st__law_pick) := ⟨rfl, rfl, rfl, by decide +kernel, rfl, by decide +kernel, by decide +kernel⟩
theorem sc_is_integer : FnScope N_is_integer [("value" : Str)] (defScope st_is_integer) := ⟨rfl, rfl, rfl, by decide +kernel, rfl, by decide +kernel, by decide +kernel⟩
theorem sc_is_within : FnScope N_is_within [("value" : Str), ("low" : Str), ("high" : Str)] (defScope st_is_within) := ⟨rfl, rfl, rfl, by decide +kernel, rfl, by decide +kernel, by decide +kernel⟩
theorem sc_check_stops : FnScope N_check_stops [("stops" : Str)] (defScope st_check_stops) := ⟨rfl, rfl, rfl, by decide +kernel, rfl, by decide +kernel, by decide +kernel⟩
theorem sc_is_haul : FnScope N_is_haul [("value" : Str), ("stops" : Str)] (defScope st_is_haul) := ⟨rfl, rfl, rfl, by decide +kernel, rfl, by decide +kernel, by decide +kernel⟩
theorem sc_is_price : FnScope N_is_price [("value" : Str)] (defScope st_is_price) := ⟨rfl, rfl, rfl, by decide +kernel, rfl, by decide +kernel, by decide +kernel⟩
theorem sc_is_range : FnScope N_is_range [("value" : Str), ("stops" : Str)] (defScope st_is_range) := ⟨rfl, rfl, rfl, by decide +kernel, rfl, by decide +kernel, by decide +kernel⟩
theorem sc_Bounds___init__ : FnScope N_Bounds___init__ [("self" : Str), ("stops" : Str), ("ranges" : Str)] (defScope st_Bounds___init__) := ⟨rfl, rfl, rfl, by decide +kernel, rfl, by decide +kernel, by decide +kernel⟩
theorem sc__law_lows : FnScope N__law_lows [("_law_many" : Str), ("_law_spans_here" : Str)] (defScope st__law_lows) := ⟨rfl, rfl, rfl, by decide +kernel, rfl, by decide +kernel, by decide +kernel⟩
theorem sc_Bounds_stops : FnScope N_Bounds_stops [("self" : Str)] (defScope st_Bounds_stops) := ⟨rfl, rfl, rfl, by decide +kernel, rfl, by decide +kernel, by decide +kernel⟩
theorem sc_Bounds_ranges : FnScope N_Bounds_ranges [("self" : Str)] (defScope st_Bounds_ranges) := ⟨rfl, rfl, rfl, by decide +kernel, rfl, by decide +kernel, by decide +kernel⟩
theorem sc_Bounds___str__ : FnScope N_Bounds___str__ [("self" : Str)] (defScope st_Bounds___str__) := ⟨rfl, rfl, rfl, by decide +kernel, rfl, by decide +kernel, by decide +kernel⟩
theorem sc__law_page : FnScope N__law_page [("_law_many" : Str), ("_law_spans_here" : Str)] (defScope st__law_page) := ⟨rfl, rfl, rfl, by decide +kernel, rfl, by decide +kernel, by decide +kernel⟩
theorem sc_check_haul : FnScope N_check_haul [("haul" : Str), ("stops" : Str)] (defScope st_check_haul) := ⟨rfl, rfl, rfl, by decide +kernel, rfl, by decide +kernel, by decide +kernel⟩
theorem sc_hauls_of : FnScope N_hauls_of [("stops" : Str)] (defScope st_hauls_of) := ⟨rfl, rfl, rfl, by decide +kernel, rfl, by decide +kernel, by decide +kernel⟩
theorem sc_Bounds_leasts : FnScope N_Bounds_leasts [("self" : Str)] (defScope st_Bounds_leasts) := ⟨rfl, rfl, rfl, by decide +kernel, rfl, by decide +kernel, by decide +kernel⟩
theorem sc_Bounds_greatests : FnScope N_Bounds_greatests [("self" : Str)] (defScope st_Bounds_greatests) := ⟨rfl, rfl, rfl, by decide +kernel, rfl, by decide +kernel, by decide +kernel⟩
theorem sc_Bounds_told : FnScope N_Bounds_told [("self" : Str), ("haul" : Str)] (defScope st_Bounds_told) := ⟨rfl, rfl, rfl, by decide +kernel, rfl, by decide +kernel, by decide +kernel⟩
theorem sc__law_is_frame : FnScope N__law_is_frame [("_law_frame" : Str), ("_law_many" : Str), ("_law_spans_here" : Str)] (defScope st__law_is_frame) := ⟨rfl, rfl, rfl, by decide +kernel, rfl, by decide +kernel, by decide +kernel⟩
theorem sc_number_in : FnScope N_number_in [("word" : Str)] (defScope st_number_in) := ⟨rfl, rfl, rfl, by decide +kernel, rfl, by decide +kernel, by decide +kernel⟩
theorem sc_stops_in : FnScope N_stops_in [("line" : Str)] (defScope st_stops_in) := ⟨rfl, rfl, rfl, by decide +kernel, rfl, by decide +kernel, by decide +kernel⟩
theorem sc_range_in : FnScope N_range_in [("line" : Str), ("stops" : Str)] (defScope st_range_in) := ⟨rfl, rfl, rfl, by decide +kernel, rfl, by decide +kernel, by decide +kernel⟩
theorem sc_Bounds_read : FnScope N_Bounds_read [("cls" : Str), ("text" : Str)] (defScope st_Bounds_read) := ⟨rfl, rfl, rfl, by decide +kernel, rfl, by decide +kernel, by decide +kernel⟩
theorem sc_Bounds___eq__ : FnScope N_Bounds___eq__ [("self" : Str), ("other" : Str)] (defScope st_Bounds___eq__) := ⟨rfl, rfl, rfl, by decide +kernel, rfl, by decide +kernel, by decide +kernel⟩
theorem sc_Bounds_without : FnScope N_Bounds_without [("self" : Str), ("haul" : Str)] (defScope st_Bounds_without) := ⟨rfl, rfl, rfl, by decide +kernel, rfl, by decide +kernel, by decide +kernel⟩
theorem sc_Bounds_seen : FnScope N_Bounds_seen [("cls" : Str), ("stops" : Str), ("tickets" : Str)] (defScope st_Bounds_seen) := ⟨rfl, rfl, rfl, by decide +kernel, rfl, by decide +kernel, by decide +kernel⟩
theorem sc__law_right : FnScope N__law_right [("_law_jar_here" : Str)] (defScope st__law_right) := ⟨rfl, rfl, rfl, by decide +kernel, rfl, by decide +kernel, by decide +kernel⟩
theorem sc__law_jar : FnScope N__law_jar [("_law_script" : Str), ("_law_k" : Str)] (defScope st__law_jar) := ⟨rfl, rfl, rfl, by decide +kernel, rfl, by decide +kernel, by decide +kernel⟩
theorem sc_law : FnScope N_law [("_law_script" : Str)] (defScope st_law) := ⟨rfl, rfl, rfl, by decide +kernel, rfl, by decide +kernel, by decide +kernel⟩
section
variable {P : Program} {w : World} {K : PySem.W.Frag} {h base : Heap} {mg : Str → Option Value}
theorem ok__law_dip (kx : K.In h) (G : h.Ns mainGlobals mg) (c : SaysM fa fm fn K) : FnK P w K mg base (DE K) 1 2 ((.g "_law_dip" : Loc3).at_ K) [] c__law_dip := by
  obtain ⟨fd, F⟩ := c.d 0 (d := d__law_dip) rfl
  exact fnk_of (fin := endE) F sc__law_dip rfl (F.bindsN fun _ _ _ _ _ _ us hl => match us, hl with | [_, _], _ => rfl) .nil (fun _ _ => .nil) finE fun cdv A outer s H E hr =>
    (ss_cons (ss_sub (i := 0) (u1 hr) rfl (by first | exact Or.inl rfl | exact Or.inr (Or.inl rfl)) se_int (s_bin DE.ok op2_add (SE.b (s_ix (u1 hr) (vB 0) (SE.b se_int))) (SE.b se_int))) (ss_cons (ss_if (st_cmp op2_gt (SE.b (s_ix (u1 hr) (vB 0) (SE.b se_int))) (SE.b se_int) rfl) (ss_cons (ss_set (i := 2) sc__law_dip.nd rfl (by first | exact Or.inl rfl | exact Or.inr rfl) (s_bin DE.ok op2_mod (SE.b (s_callTy DE.ok call_intS rfl (He.free_ok kx G (x := "int") (c.a 4 rfl)) (by decide +kernel) (slb_cons (SE.b (s_ix (u1 hr) (vB 0) (SE.b se_int))) slb_nil))) (vB 1))) (ss_cons (ss_sub (i := 0) (u1 hr) rfl (by first | exact Or.inl rfl | exact Or.inr (Or.inl rfl)) se_int (s_bin DE.ok op2_div (SE.b (s_callTy DE.ok call_intS rfl (He.free_ok kx G (x := "int") (c.a 4 rfl)) (by decide +kernel) (slb_cons (SE.b (s_ix (u1 hr) (vB 0) (SE.b se_int))) slb_nil))) (vB 1))) (ss_one (ss_ret DE.ok (vE 2))))) ss_nil) (ss_cons (ss_set (i := 3) sc__law_dip.nd rfl (by first | exact Or.inl rfl | exact Or.inr rfl) (s_callTy DE.ok call_intS rfl (He.free_ok kx G (x := "int") (c.a 4 rfl)) (by decide +kernel) (slb_cons (SE.b (s_ix (u1 hr) (vB 0) (SE.b se_int))) slb_nil))) (ss_cons (ss_sub (i := 0) (u1 hr) rfl (by first | exact Or.inl rfl | exact Or.inr (Or.inl rfl)) se_int (s_bin DE.ok op2_mod (SE.b (s_callTy DE.ok call_intS rfl (He.free_ok kx G (x := "int") (c.a 4 rfl)) (by decide +kernel) (slb_cons (SE.b (s_bin DE.ok op2_add (SE.b (s_bin DE.ok op2_add (SE.b (s_bin DE.ok op2_mul (vB 3) (SE.b se_int))) (SE.b (s_bin DE.ok op2_mul (SE.b (s_ix (u1 hr) (vB 0) (SE.b se_int))) (SE.b se_int))))) (SE.b se_int))) slb_nil))) (SE.b se_int))) (ss_one (ss_ret DE.ok (s_bin DE.ok op2_mod (SE.b (s_callTy DE.ok call_intS rfl (He.free_ok kx G (x := "int") (c.a 4 rfl)) (by decide +kernel) (slb_cons (SE.b (s_bin DE.ok op2_div (SE.b (s_ix (u1 hr) (vB 0) (SE.b se_int))) (SE.b se_int))) slb_nil))) (vB 1))))))))
theorem ok__law_rides (kx : K.In h) (G : h.Ns mainGlobals mg) (c : SaysM fa fm fn K) : FnK P w K mg base (DE K) 1 1 ((.g "_law_rides" : Loc3).at_ K) [] c__law_rides := by
  obtain ⟨fd, F⟩ := c.d 1 (d := d__law_rides) rfl
  exact fnk_of (fin := endE) F sc__law_rides rfl (F.bindsN fun _ _ _ _ _ _ us hl => match us, hl with | [_], _ => rfl) .nil (fun _ _ => .nil) finE fun cdv A outer s H E hr =>
    (ss_cons (ss_set (i := 1) sc__law_rides.nd rfl (by first | exact Or.inl rfl | exact Or.inr rfl) (SO.e (so_lst sl_nil))) (ss_cons (ss_for ownX rfl (si_rng1 (s_bin DE.ok op2_sub (vB 0) (SE.b se_int)) rfl (He.free_ok kx G (x := "range") (c.a 3 rfl))) (tg_n (j := 2)) (pgN 2 sc__law_rides.nd) (ss_one (ss_set (i := 1) sc__law_rides.nd rfl (by first | exact Or.inl rfl | exact Or.inr rfl) (s_bin DE.ok op2_add (vB 1) (SE.b (SO.e (so_lc rfl sc__law_rides.nd (SI.any (si_rng2 (s_bin DE.ok op2_add (vB 2) (SE.b se_int)) (vE 0) rfl (He.free_ok kx G (x := "range") (c.a 3 rfl)))) (own := [(("_law_end" : Str), 3)]) (blkOk_by (by kernel_rfl)) (tg_n (j := 3)) (by decide) (fun s0 H0 C0 cl0 fp0 => (pgN 3 sc__law_rides.nd)) (fun s0 H0 C0 cl0 fp0 => sts_nil) (fun s0 H0 C0 cl0 fp0 => (se_tup (sl_cons (vE 2) (sl_cons (vE 3) sl_nil))))))))))) (ss_one (ss_ret DE.ok (vE 1)))))
theorem ok__law_spans (kx : K.In h) (G : h.Ns mainGlobals mg) (c : SaysM fa fm fn K) : FnK P w K mg base (DE K) 2 3 ((.g "_law_spans" : Loc3).at_ K) [] c__law_spans := by
  obtain ⟨fd, F⟩ := c.d 2 (d := d__law_spans) rfl
  exact fnk_of (fin := endE) F sc__law_spans rfl (F.bindsN fun _ _ _ _ _ _ us hl => match us, hl with | [_, _, _], _ => rfl) .nil (fun _ _ => .nil) finE fun cdv A outer s H E hr =>
    (ss_cons (ss_own (i := 3) sc__law_spans.nd rfl (by first | exact Or.inl rfl | exact Or.inr rfl) (so_lst sl_nil)) (ss_cons (ss_for ownX rfl (si_seq (s_call DE.ok (ok__law_rides kx G c) (hr.mono (by decide)) pasX rfl (He.glo_ok kx G (x := "_law_rides") (c.a 6 rfl)) (sl_cons (vE 1) sl_nil))) (tg_n (j := 4)) (pgN 4 sc__law_spans.nd) (ss_one (ss_if (st_cmp op2_gt (SE.b (s_call DE.ok (ok__law_dip kx G c) (hr.mono (by decide)) pasX rfl (He.glo_ok kx G (x := "_law_dip") (c.a 5 rfl)) (sl_cons (vE 0) (sl_cons se_int sl_nil)))) (SE.b se_int) rfl) (ss_cons (ss_set (i := 5) sc__law_spans.nd rfl (by first | exact Or.inl rfl | exact Or.inr rfl) (s_if DE.ok (st_cmp (op2_eq hr.units) (SE.b (s_call DE.ok (ok__law_dip kx G c) (hr.mono (by decide)) pasX rfl (He.glo_ok kx G (x := "_law_dip") (c.a 5 rfl)) (sl_cons (vE 0) (sl_cons se_int sl_nil)))) (SE.b se_int) rfl) (s_call DE.ok (ok__law_dip kx G c) (hr.mono (by decide)) pasX rfl (He.glo_ok kx G (x := "_law_dip") (c.a 5 rfl)) (sl_cons (vE 0) (sl_cons (s_bin DE.ok op2_add (vB 2) (SE.b se_int)) sl_nil))) se_int)) (ss_cons (ss_set (i := 6) sc__law_spans.nd rfl (by first | exact Or.inl rfl | exact Or.inr rfl) (s_if DE.ok (st_cmp (op2_eq hr.units) (SE.b (s_call DE.ok (ok__law_dip kx G c) (hr.mono (by decide)) pasX rfl (He.glo_ok kx G (x := "_law_dip") (c.a 5 rfl)) (sl_cons (vE 0) (sl_cons se_int sl_nil)))) (SE.b se_int) rfl) se_non (s_bin DE.ok op2_add (vB 5) (SE.b (s_call DE.ok (ok__law_dip kx G c) (hr.mono (by decide)) pasX rfl (He.glo_ok kx G (x := "_law_dip") (c.a 5 rfl)) (sl_cons (vE 0) (sl_cons (s_bin DE.ok op2_add (vB 2) (SE.b se_int)) sl_nil))))))) (ss_one (ss_app (i := 3) rfl (by first | exact Or.inl rfl | exact Or.inr (Or.inl rfl)) (se_tup (sl_cons (vE 4) (sl_cons (vE 5) (sl_cons (vE 6) sl_nil)))))))) ss_nil))) (ss_one (ss_ret DE.ok (s_callTy DE.ok call_tupS rfl (He.free_ok kx G (x := "tuple") (c.a 7 rfl)) (by decide +kernel) (slb_cons (vB 3) slb_nil))))))
theorem ok__law_pick (kx : K.In h) (G : h.Ns mainGlobals mg) (c : SaysM fa fm fn K) : FnK P w K mg base (DE K) 2 2 ((.g "_law_pick" : Loc3).at_ K) [] c__law_pick := by
  obtain ⟨fd, F⟩ := c.d 3 (d := d__law_pick) rfl
  exact fnk_of (fin := endE) F sc__law_pick rfl (F.bindsN fun _ _ _ _ _ _ us hl => match us, hl with | [_, _], _ => rfl) .nil (fun _ _ => .nil) finE fun cdv A outer s H E hr =>
    (ss_cons (ss_set (i := 2) sc__law_pick.nd rfl (by first | exact Or.inl rfl | exact Or.inr rfl) (s_call DE.ok (ok__law_dip kx G c) (hr.mono (by decide)) pasX rfl (He.glo_ok kx G (x := "_law_dip") (c.a 5 rfl)) (sl_cons (vE 0) (sl_cons (s_callB DE.ok call_lenS rfl (He.free_ok kx G (x := "len") (c.a 0 rfl)) (by decide +kernel) (slb_cons (vB 1) slb_nil)) sl_nil)))) (ss_one (ss_ret DE.ok (s_ix (u1 hr) (vB 1) (vB 2)))))
theorem ok_is_integer (kx : K.In h) (G : h.Ns mainGlobals mg) (c : SaysM fa fm fn K) : FnK P w K mg base (DE K) 1 1 ((.g "is_integer" : Loc3).at_ K) [] c_is_integer := by
  obtain ⟨fd, F⟩ := c.d 4 (d := d_is_integer) rfl
  exact fnk_of (fin := endE) F sc_is_integer rfl (F.bindsN fun _ _ _ _ _ _ us hl => match us, hl with | [_], _ => rfl) .nil (fun _ _ => .nil) finE fun cdv A outer s H E hr =>
    (ss_one (ss_ret DE.ok (se_and (se_isi (isK_T tyT_int (fun _ h => nomatch h)) (vB 0) (pe_tyN (n := "int") rfl (He.free_ok kx G (x := "int") (c.a 4 rfl)) (by decide +kernel)) (.ty "int") rfl (He.free_ok kx G (x := "isinstance") (c.a 10 rfl))) (se_one (se_not (se_isi (isK_T tyT_bool (fun _ h => nomatch h)) (vB 0) (pe_tyN (n := "bool") rfl (He.free_ok kx G (x := "bool") (c.a 11 rfl)) (by decide +kernel)) (.ty "bool") rfl (He.free_ok kx G (x := "isinstance") (c.a 10 rfl))))))))
theorem ok_is_within (kx : K.In h) (G : h.Ns mainGlobals mg) (c : SaysM fa fm fn K) : FnK P w K mg base (DE K) 2 3 ((.g "is_within" : Loc3).at_ K) [] c_is_within := by
  obtain ⟨fd, F⟩ := c.d 5 (d := d_is_within) rfl
  exact fnk_of (fin := endE) F sc_is_within rfl (F.bindsN fun _ _ _ _ _ _ us hl => match us, hl with | [_, _, _], _ => rfl) .nil (fun _ _ => .nil) finE fun cdv A outer s H E hr =>
    (ss_one (ss_ret DE.ok (se_and (s_call DE.ok (ok_is_integer kx G c) (hr.mono (by decide)) pasX rfl (He.glo_ok kx G (x := "is_integer") (c.a 12 rfl)) (sl_cons (vE 0) sl_nil)) (se_one (se_ch op2_le op2_le (vB 1) (vB 0) (vB 2))))))
theorem ok_check_stops (kx : K.In h) (G : h.Ns mainGlobals mg) (c : SaysM fa fm fn K) : FnK P w K mg base (DE K) 3 1 ((.g "check_stops" : Loc3).at_ K) [] c_check_stops := by
  obtain ⟨fd, F⟩ := c.d 6 (d := d_check_stops) rfl
  exact fnk_of (fin := endE) F sc_check_stops rfl (F.bindsN fun _ _ _ _ _ _ us hl => match us, hl with | [_], _ => rfl) .nil (fun _ _ => .nil) finE fun cdv A outer s H E hr =>
    (ss_one (ss_if (st_not (st_val (s_call DE.ok (ok_is_within kx G c) (hr.mono (by decide)) pasX rfl (He.glo_ok kx G (x := "is_within") (c.a 14 rfl)) (sl_cons (vE 0) (sl_cons se_int (sl_cons (se_globI rfl (He.int_ok kx G (x := "MOST_STOPS") (i := 10) (c.a 13 rfl))) sl_nil)))))) (ss_one ss_never) ss_nil))
theorem ok_is_haul (kx : K.In h) (G : h.Ns mainGlobals mg) (c : SaysM fa fm fn K) : FnK P w K mg base (DE K) 2 2 ((.g "is_haul" : Loc3).at_ K) [] c_is_haul := by
  obtain ⟨fd, F⟩ := c.d 7 (d := d_is_haul) rfl
  exact fnk_of (fin := endE) F sc_is_haul rfl (F.bindsN fun _ _ _ _ _ _ us hl => match us, hl with | [_, _], _ => rfl) .nil (fun _ _ => .nil) finE fun cdv A outer s H E hr =>
    (ss_cons (ss_if (st_w (sw_or (st_not (st_val (se_isi (isK_T tyT_tuple (fun _ h => nomatch h)) (vB 0) (pe_tyN (n := "tuple") rfl (He.free_ok kx G (x := "tuple") (c.a 7 rfl)) (by decide +kernel)) (.ty "tuple") rfl (He.free_ok kx G (x := "isinstance") (c.a 10 rfl))))) (sw_or (st_cmp (op2_ne hr.units) (SE.b (s_callB DE.ok call_lenS rfl (He.free_ok kx G (x := "len") (c.a 0 rfl)) (by decide +kernel) (slb_cons (vB 0) slb_nil))) (SE.b se_int) rfl) (sw_or1 (st_not (st_val (s_callB DE.ok (call_allS rfl) rfl (He.free_ok kx G (x := "all") (c.a 17 rfl)) (by decide +kernel) (slb_cons (SE.b (SO.e (so_lc rfl sc_is_haul.nd (SI.any (si_seq (vE 0))) (own := [(("stop" : Str), 2)]) (blkOk_by (by kernel_rfl)) (tg_n (j := 2)) (by decide) (fun s0 H0 C0 cl0 fp0 => (pgN 2 sc_is_haul.nd)) (fun s0 H0 C0 cl0 fp0 => sts_nil) (fun s0 H0 C0 cl0 fp0 => (s_call DE.ok (ok_is_integer kx G c) (hr.mono (by decide)) pas_no rfl (He.glo_ok kx G (x := "is_integer") (c.a 12 rfl)) (sl_cons (vE 2) sl_nil)))))) slb_nil)))))))) (ss_one (ss_ret DE.ok se_bl)) ss_nil) (ss_one (ss_ret DE.ok (se_ch3 op2_le (op2_lt hr.units0) (op2_lt hr.units0) (SE.b se_int) (SE.b (s_ix (u1 hr) (vB 0) (SE.b se_int))) (SE.b (s_ix (u1 hr) (vB 0) (SE.b se_int))) (vB 1)))))
theorem ok_is_price (kx : K.In h) (G : h.Ns mainGlobals mg) (c : SaysM fa fm fn K) : FnK P w K mg base (DE K) 3 1 ((.g "is_price" : Loc3).at_ K) [] c_is_price := by
  obtain ⟨fd, F⟩ := c.d 8 (d := d_is_price) rfl
  exact fnk_of (fin := endE) F sc_is_price rfl (F.bindsN fun _ _ _ _ _ _ us hl => match us, hl with | [_], _ => rfl) .nil (fun _ _ => .nil) finE fun cdv A outer s H E hr =>
    (ss_one (ss_ret DE.ok (s_call DE.ok (ok_is_within kx G c) (hr.mono (by decide)) pasX rfl (He.glo_ok kx G (x := "is_within") (c.a 14 rfl)) (sl_cons (vE 0) (sl_cons se_int (sl_cons (se_globI rfl (He.int_ok kx G (x := "MOST_PRICE") (i := 1000000000000) (c.a 19 rfl))) sl_nil))))))
theorem ok_is_range (kx : K.In h) (G : h.Ns mainGlobals mg) (c : SaysM fa fm fn K) : FnK P w K mg base (DE K) 4 2 ((.g "is_range" : Loc3).at_ K) [] c_is_range := by
  obtain ⟨fd, F⟩ := c.d 9 (d := d_is_range) rfl
  exact fnk_of (fin := endE) F sc_is_range rfl (F.bindsN fun _ _ _ _ _ _ us hl => match us, hl with | [_, _], _ => rfl) .nil (fun _ _ => .nil) finE fun cdv A outer s H E hr =>
    (ss_cons (ss_if (st_w (sw_or (st_not (st_val (se_isi (isK_T tyT_tuple (fun _ h => nomatch h)) (vB 0) (pe_tyN (n := "tuple") rfl (He.free_ok kx G (x := "tuple") (c.a 7 rfl)) (by decide +kernel)) (.ty "tuple") rfl (He.free_ok kx G (x := "isinstance") (c.a 10 rfl))))) (sw_or (st_cmp (op2_ne hr.units) (SE.b (s_callB DE.ok call_lenS rfl (He.free_ok kx G (x := "len") (c.a 0 rfl)) (by decide +kernel) (slb_cons (vB 0) slb_nil))) (SE.b se_int) rfl) (sw_or (st_not (st_val (s_call DE.ok (ok_is_haul kx G c) (hr.mono (by decide)) pasX rfl (He.glo_ok kx G (x := "is_haul") (c.a 18 rfl)) (sl_cons (s_ix (u1 hr) (vB 0) (SE.b se_int)) (sl_cons (vE 1) sl_nil))))) (sw_or1 (st_not (st_val (s_call DE.ok (ok_is_price kx G c) (hr.mono (by decide)) pasX rfl (He.glo_ok kx G (x := "is_price") (c.a 20 rfl)) (sl_cons (s_ix (u1 hr) (vB 0) (SE.b se_int)) sl_nil))))))))) (ss_one (ss_ret DE.ok se_bl)) ss_nil) (ss_one (ss_ret DE.ok (se_or (s_cmp DE.ok op2_isN (SE.b (s_ix (u1 hr) (vB 0) (SE.b se_int))) (SE.b se_non) rfl) (se_one (se_and (s_call DE.ok (ok_is_price kx G c) (hr.mono (by decide)) pasX rfl (He.glo_ok kx G (x := "is_price") (c.a 20 rfl)) (sl_cons (s_ix (u1 hr) (vB 0) (SE.b se_int)) sl_nil)) (se_one (s_cmp DE.ok op2_le (SE.b (s_ix (u1 hr) (vB 0) (SE.b se_int))) (SE.b (s_ix (u1 hr) (vB 0) (SE.b se_int))) rfl))))))))
theorem okf_Bounds___init__ {fd : FuncData} (kx : K.In h) (G : h.Ns mainGlobals mg) (c : SaysM fa fm fn K) (F : FunD K d_Bounds___init__.name d_Bounds___init__.qual d_Bounds___init__.params d_Bounds___init__.body d_Bounds___init__.scope (d_Bounds___init__.dvs K) (d_Bounds___init__.kws K) (d_Bounds___init__.loc.at_ K) fd) : MP.FnOk P w K mg base (L2.CX P w) 5 (d_Bounds___init__.loc.at_ K) fd [("self" : Str), ("stops" : Str), ("ranges" : Str)] (spI K "Bounds" 2 c_Bounds___init__) :=
  fnoki_of F sc_Bounds___init__ rfl fun cdv A outer s H E hr =>
    (ss_cons (ss_expr (s_call DE.ok (ok_check_stops kx G c) (hr.mono (by decide)) pasX rfl (He.glo_ok kx G (x := "check_stops") (c.a 15 rfl)) (sl_cons (vE 1) sl_nil))) (ss_cons (ss_if (st_not (st_val (se_isi (isK_T tyT_tuple (fun _ h => nomatch h)) (vB 2) (pe_tyN (n := "tuple") rfl (He.free_ok kx G (x := "tuple") (c.a 7 rfl)) (by decide +kernel)) (.ty "tuple") rfl (He.free_ok kx G (x := "isinstance") (c.a 10 rfl))))) (ss_one ss_never) ss_nil) (ss_cons (ss_for ownX rfl (si_enu (vE 2) rfl (He.free_ok kx G (x := "enumerate") (c.a 16 rfl))) (tg_t (tgs_cons (j := 3) (tgs_cons (j := 4) tgs_nil)) rfl) (pg_tup rfl (pgs_cons (pgN 3 sc_Bounds___init__.nd) (pgs_cons (pgN 4 sc_Bounds___init__.nd) pgs_nil))) (ss_one (ss_if (st_w (sw_or (st_not (st_val (s_call DE.ok (ok_is_range kx G c) (hr.mono (by decide)) pasX rfl (He.glo_ok kx G (x := "is_range") (c.a 21 rfl)) (sl_cons (vE 4) (sl_cons (vE 1) sl_nil))))) (sw_or1 (st_w (sw_and (st_cmp op2_gt (vB 3) (SE.b se_int) rfl) (sw_and1 (st_cmp (op2_geT hr.units0) (SE.b (s_ix (u1 hr) (SE.b (s_ix (u1 hr) (vB 2) (SE.b (s_bin DE.ok op2_sub (vB 3) (SE.b se_int))))) (SE.b se_int))) (SE.b (s_ix (u1 hr) (vB 4) (SE.b se_int))) rfl))))))) (ss_one ss_never) ss_nil))) (ss_one (ss_fld (i := 0) rfl (by first | exact Or.inl rfl | exact Or.inr (Or.inl rfl)) (se_tup (sl_cons (vE 1) (sl_cons (vE 2) sl_nil))) (He.cls_ok (x := "Bounds") (c.a 22 rfl)) (He.noat_ok (x := "Bounds") (f := "all") (c.a 23 rfl)))))))
theorem ok_Bounds___init__ (kx : K.In h) (G : h.Ns mainGlobals mg) (c : SaysM fa fm fn K) : InK P w K mg base 5 2 "Bounds" ((d_Bounds___init__.loc).at_ K) [] c_Bounds___init__ := by
  obtain ⟨fd, F⟩ := c.d 10 (d := d_Bounds___init__) rfl
  obtain ⟨ds, hv, hb⟩ := FunD.binds1 (ps := [("self" : Str), ("stops" : Str), ("ranges" : Str)]) F 3 1 (List.cons_ne_nil _ _) rfl (fun _ _ _ _ _ _ _ us its h1 h2 => match us, its, h1, h2 with | [_, _, _], [_], _, _ => ⟨_, rfl, rfl⟩)
  exact ⟨(He.mkr_ok (x := "Bounds") (c.a 47 rfl)), fd, _, _, ds, okf_Bounds___init__ kx G c F, hb, hv, fun _ _ => .nil⟩
theorem okd_Bounds___init__ (kx : K.In h) (G : h.Ns mainGlobals mg) (c : SaysM fa fm fn K) : InK P w K mg base 5 2 "Bounds" ((d_Bounds___init__.loc).at_ K) [.tup []] c_Bounds___init__ := by
  obtain ⟨fd, F⟩ := c.d 10 (d := d_Bounds___init__) rfl
  obtain ⟨ds, hv, hb⟩ := FunD.binds1 (ps := [("self" : Str), ("stops" : Str), ("ranges" : Str)]) F 2 0 (List.cons_ne_nil _ _) rfl (fun _ _ _ _ _ _ _ us its h1 h2 => match us, its, h1, h2 with | [_, _], [_], _, _ => ⟨_, rfl, rfl⟩)
  exact ⟨(He.mkr_ok (x := "Bounds") (c.a 47 rfl)), fd, _, _, ds, okf_Bounds___init__ kx G c F, hb, hv, fun _ _ => .cons (.tup (.inr ⟨rfl, dtupB_ok (c.b 7 rfl)⟩) .nil) .nil⟩
theorem okq_Bounds___init___0 (kx : K.In h) (G : h.Ns mainGlobals mg) (c : SaysM fa fm fn K) : InQ P w K mg base 5 2 0 [("ranges" : Str), ("stops" : Str)] [1, 0] "Bounds" ((d_Bounds___init__.loc).at_ K) [] c_Bounds___init__ := by
  obtain ⟨fd, F⟩ := c.d 10 (d := d_Bounds___init__) rfl
  exact inq_ofT (He.mkr_ok (x := "Bounds") (c.a 47 rfl)) F (okf_Bounds___init__ kx G c F) (List.cons_ne_nil _ _) fun _ _ _ _ _ _ _ _ us its ws hl hi hw => match us, its, ws, hl, hi, hw with | [], [_], [_, _], _, _, _ => ⟨_, rfl, rfl⟩
theorem ok__law_lows (kx : K.In h) (G : h.Ns mainGlobals mg) (c : SaysM fa fm fn K) : FnK P w K mg base (DE K) 2 2 ((.g "_law_lows" : Loc3).at_ K) [] c__law_lows := by
  obtain ⟨fd, F⟩ := c.d 11 (d := d__law_lows) rfl
  exact fnk_of (fin := endE) F sc__law_lows rfl (F.bindsN fun _ _ _ _ _ _ us hl => match us, hl with | [_, _], _ => rfl) .nil (fun _ _ => .nil) finE fun cdv A outer s H E hr =>
    (ss_cons (ss_parOO (i := 2) (j := 3) rfl sc__law_lows.nd rfl rfl (by decide) rfl rfl so_dT so_dT) (ss_cons (ss_for ownX rfl (si_seq (s_call DE.ok (ok__law_rides kx G c) (hr.mono (by decide)) pasX rfl (He.glo_ok kx G (x := "_law_rides") (c.a 6 rfl)) (sl_cons (vE 0) sl_nil))) (tg_n (j := 4)) (pgN 4 sc__law_lows.nd) (ss_one (ss_subT (i := 2) (j := 3) (u1 hr) rfl rfl (by first | exact Or.inl rfl | exact Or.inr (Or.inl rfl)) rfl (by first | exact Or.inl rfl | exact Or.inr (Or.inl rfl)) (vE 4) (vE 4) (se_tup (sl_cons se_int (sl_cons se_non sl_nil)))))) (ss_cons (ss_for ownX rfl (si_seq (vE 1)) (tg_t (tgs_cons (j := 4) (tgs_cons (j := 5) (tgs_cons (j := 6) tgs_nil))) rfl) (pg_tup rfl (pgs_cons (pgN 4 sc__law_lows.nd) (pgs_cons (pgN 5 sc__law_lows.nd) (pgs_cons (pgN 6 sc__law_lows.nd) pgs_nil)))) (ss_one (ss_subT (i := 2) (j := 3) (u1 hr) rfl rfl (by first | exact Or.inl rfl | exact Or.inr (Or.inl rfl)) rfl (by first | exact Or.inl rfl | exact Or.inr (Or.inl rfl)) (vE 4) (vE 4) (se_tup (sl_cons (vE 5) (sl_cons (vE 6) sl_nil)))))) (sss_share (i := 2) (sss_share (i := 3) (ss_one (ss_ret DE.ok (se_tup (sl_cons (vE 2) (sl_cons (vE 3) sl_nil))))))))))
theorem ok_Bounds_stops (kx : K.In h) (G : h.Ns mainGlobals mg) (c : SaysM fa fm fn K) : FnK P w K mg base (DE K) 1 1 ((.p "Bounds" "stops" : Loc3).at_ K) [] c_Bounds_stops := by
  obtain ⟨fd, F⟩ := c.d 12 (d := d_Bounds_stops) rfl
  exact fnk_of (fin := endE) F sc_Bounds_stops rfl (F.bindsN fun _ _ _ _ _ _ us hl => match us, hl with | [_], _ => rfl) .nil (fun _ _ => .nil) finE fun cdv A outer s H E hr =>
    (ss_one (ss_ret DE.ok (s_ix (u1 hr) (SE.b (s_attrB DE.ok (op1_fld (He.cls_ok (x := "Bounds") (c.a 22 rfl)) (He.noat_ok (x := "Bounds") (f := "all") (c.a 23 rfl))) (vB 0))) (SE.b se_int))))
theorem ok_Bounds_ranges (kx : K.In h) (G : h.Ns mainGlobals mg) (c : SaysM fa fm fn K) : FnK P w K mg base (DE K) 1 1 ((.p "Bounds" "ranges" : Loc3).at_ K) [] c_Bounds_ranges := by
  obtain ⟨fd, F⟩ := c.d 13 (d := d_Bounds_ranges) rfl
  exact fnk_of (fin := endE) F sc_Bounds_ranges rfl (F.bindsN fun _ _ _ _ _ _ us hl => match us, hl with | [_], _ => rfl) .nil (fun _ _ => .nil) finE fun cdv A outer s H E hr =>
    (ss_one (ss_ret DE.ok (s_ix (u1 hr) (SE.b (s_attrB DE.ok (op1_fld (He.cls_ok (x := "Bounds") (c.a 22 rfl)) (He.noat_ok (x := "Bounds") (f := "all") (c.a 23 rfl))) (vB 0))) (SE.b se_int))))
theorem ok_Bounds___str__ (kx : K.In h) (G : h.Ns mainGlobals mg) (c : SaysM fa fm fn K) : FnK P w K mg base (DE K) 3 1 ((.m "Bounds" "__str__" : Loc3).at_ K) [] c_Bounds___str__ := by
  obtain ⟨fd, F⟩ := c.d 14 (d := d_Bounds___str__) rfl
  exact fnk_of (fin := endE) F sc_Bounds___str__ rfl (F.bindsN fun _ _ _ _ _ _ us hl => match us, hl with | [_], _ => rfl) .nil (fun _ _ => .nil) finE fun cdv A outer s H E hr =>
    (ss_cons (ss_own (i := 1) sc_Bounds___str__.nd rfl (by first | exact Or.inl rfl | exact Or.inr rfl) (so_lst (sl_cons (se_fs (.cons se_str (.cons (se_fmt (SE.b (s_attr DE.ok (op1_prop (He.cls_ok (x := "Bounds") (c.a 22 rfl)) (propB_ok (C := "Bounds") (f := "stops") (c.b 0 rfl)) (ok_Bounds_stops kx G c) (hr.mono (by decide))) (vE 0)))) .nil))) sl_nil))) (ss_cons (ss_for ownX rfl (si_seq (s_attr DE.ok (op1_prop (He.cls_ok (x := "Bounds") (c.a 22 rfl)) (propB_ok (C := "Bounds") (f := "ranges") (c.b 1 rfl)) (ok_Bounds_ranges kx G c) (hr.mono (by decide))) (vE 0))) (tg_t (tgs_cons (j := 2) (tgs_cons (j := 3) (tgs_cons (j := 4) tgs_nil))) rfl) (pg_tup rfl (pgs_cons (pgN 2 sc_Bounds___str__.nd) (pgs_cons (pgN 3 sc_Bounds___str__.nd) (pgs_cons (pgN 4 sc_Bounds___str__.nd) pgs_nil)))) (ss_one (ss_app (i := 1) rfl (by first | exact Or.inl rfl | exact Or.inr (Or.inl rfl)) (s_bin DE.ok op2_add (SE.b (se_fs (.cons (se_fmt (SE.b (s_ix (u1 hr) (vB 2) (SE.b se_int)))) (.cons se_str (.cons (se_fmt (SE.b (s_ix (u1 hr) (vB 2) (SE.b se_int)))) (.cons se_str (.cons (se_fmt (SE.b (vE 3))) (.cons se_str .nil)))))))) (SE.b (s_if DE.ok (st_cmp op2_isN (vB 4) (SE.b se_non) rfl) se_str (s_callTy DE.ok call_strS rfl (He.free_ok kx G (x := "str") (c.a 26 rfl)) (by decide +kernel) (slb_cons (vB 4) slb_nil)))))))) (ss_one (ss_ret DE.ok (se_join (SE.b se_str) (vB 1))))))
theorem ok__law_page (kx : K.In h) (G : h.Ns mainGlobals mg) (c : SaysM fa fm fn K) : FnK P w K mg base (DE K) 1 2 ((.g "_law_page" : Loc3).at_ K) [] c__law_page := by
  obtain ⟨fd, F⟩ := c.d 15 (d := d__law_page) rfl
  exact fnk_of (fin := endE) F sc__law_page rfl (F.bindsN fun _ _ _ _ _ _ us hl => match us, hl with | [_, _], _ => rfl) .nil (fun _ _ => .nil) finE fun cdv A outer s H E hr =>
    (ss_cons (ss_own (i := 2) sc__law_page.nd rfl (by first | exact Or.inl rfl | exact Or.inr rfl) (so_lst (sl_cons (s_bin DE.ok op2_add (SE.b se_str) (SE.b (s_callTy DE.ok call_strS rfl (He.free_ok kx G (x := "str") (c.a 26 rfl)) (by decide +kernel) (slb_cons (vB 0) slb_nil)))) sl_nil))) (ss_cons (ss_for ownX rfl (si_seq (vE 1)) (tg_t (tgs_cons (j := 3) (tgs_cons (j := 4) (tgs_cons (j := 5) tgs_nil))) rfl) (pg_tup rfl (pgs_cons (pgN 3 sc__law_page.nd) (pgs_cons (pgN 4 sc__law_page.nd) (pgs_cons (pgN 5 sc__law_page.nd) pgs_nil)))) (ss_one (ss_app (i := 2) rfl (by first | exact Or.inl rfl | exact Or.inr (Or.inl rfl)) (se_join (SE.b se_str) (SE.b (SO.e (so_lst (sl_cons (s_callTy DE.ok call_strS rfl (He.free_ok kx G (x := "str") (c.a 26 rfl)) (by decide +kernel) (slb_cons (SE.b (s_ix (u1 hr) (vB 3) (SE.b se_int))) slb_nil)) (sl_cons (s_callTy DE.ok call_strS rfl (He.free_ok kx G (x := "str") (c.a 26 rfl)) (by decide +kernel) (slb_cons (SE.b (s_ix (u1 hr) (vB 3) (SE.b se_int))) slb_nil)) (sl_cons (s_callTy DE.ok call_strS rfl (He.free_ok kx G (x := "str") (c.a 26 rfl)) (by decide +kernel) (slb_cons (vB 4) slb_nil)) (sl_cons (s_if DE.ok (st_cmp op2_isN (vB 5) (SE.b se_non) rfl) se_str (s_callTy DE.ok call_strS rfl (He.free_ok kx G (x := "str") (c.a 26 rfl)) (by decide +kernel) (slb_cons (vB 5) slb_nil))) sl_nil))))))))))) (ss_one (ss_ret DE.ok (se_join (SE.b se_str) (vB 2))))))
theorem ok_check_haul (kx : K.In h) (G : h.Ns mainGlobals mg) (c : SaysM fa fm fn K) : FnK P w K mg base (DE K) 3 2 ((.g "check_haul" : Loc3).at_ K) [] c_check_haul := by
  obtain ⟨fd, F⟩ := c.d 16 (d := d_check_haul) rfl
  exact fnk_of (fin := endE) F sc_check_haul rfl (F.bindsN fun _ _ _ _ _ _ us hl => match us, hl with | [_, _], _ => rfl) .nil (fun _ _ => .nil) finE fun cdv A outer s H E hr =>
    (ss_one (ss_if (st_not (st_val (s_call DE.ok (ok_is_haul kx G c) (hr.mono (by decide)) pasX rfl (He.glo_ok kx G (x := "is_haul") (c.a 18 rfl)) (sl_cons (vE 0) (sl_cons (vE 1) sl_nil))))) (ss_one ss_never) ss_nil))
theorem ok_hauls_of (kx : K.In h) (G : h.Ns mainGlobals mg) (c : SaysM fa fm fn K) : FnK P w K mg base (DE K) 1 1 ((.g "hauls_of" : Loc3).at_ K) [] c_hauls_of := by
  obtain ⟨fd, F⟩ := c.d 17 (d := d_hauls_of) rfl
  exact fnk_of (fin := endE) F sc_hauls_of rfl (F.bindsN fun _ _ _ _ _ _ us hl => match us, hl with | [_], _ => rfl) .nil (fun _ _ => .nil) finE fun cdv A outer s H E hr =>
    (ss_cons (ss_set (i := 1) sc_hauls_of.nd rfl (by first | exact Or.inl rfl | exact Or.inr rfl) (SO.e (so_lst sl_nil))) (ss_cons (ss_for ownX rfl (si_rng1 (s_bin DE.ok op2_sub (vB 0) (SE.b se_int)) rfl (He.free_ok kx G (x := "range") (c.a 3 rfl))) (tg_n (j := 2)) (pgN 2 sc_hauls_of.nd) (ss_one (ss_set (i := 1) sc_hauls_of.nd rfl (by first | exact Or.inl rfl | exact Or.inr rfl) (s_bin DE.ok op2_add (vB 1) (SE.b (SO.e (so_lc rfl sc_hauls_of.nd (SI.any (si_rng2 (s_bin DE.ok op2_add (vB 2) (SE.b se_int)) (vE 0) rfl (He.free_ok kx G (x := "range") (c.a 3 rfl)))) (own := [(("end" : Str), 3)]) (blkOk_by (by kernel_rfl)) (tg_n (j := 3)) (by decide) (fun s0 H0 C0 cl0 fp0 => (pgN 3 sc_hauls_of.nd)) (fun s0 H0 C0 cl0 fp0 => sts_nil) (fun s0 H0 C0 cl0 fp0 => (se_tup (sl_cons (vE 2) (sl_cons (vE 3) sl_nil))))))))))) (ss_one (ss_ret DE.ok (vE 1)))))
theorem ok_Bounds_leasts (kx : K.In h) (G : h.Ns mainGlobals mg) (c : SaysM fa fm fn K) : FnK P w K mg base (DE K) 3 1 ((.m "Bounds" "leasts" : Loc3).at_ K) [] c_Bounds_leasts := by
  obtain ⟨fd, F⟩ := c.d 18 (d := d_Bounds_leasts) rfl
  exact fnk_of (fin := endE) F sc_Bounds_leasts rfl (F.bindsN fun _ _ _ _ _ _ us hl => match us, hl with | [_], _ => rfl) .nil (fun _ _ => .nil) finE fun cdv A outer s H E hr =>
    (ss_cons (ss_set (i := 1) sc_Bounds_leasts.nd rfl (by first | exact Or.inl rfl | exact Or.inr rfl) (SO.e (so_dcT (u1 hr) rfl sc_Bounds_leasts.nd (SI.any (si_seq (s_attr DE.ok (op1_prop (He.cls_ok (x := "Bounds") (c.a 22 rfl)) (propB_ok (C := "Bounds") (f := "ranges") (c.b 1 rfl)) (ok_Bounds_ranges kx G c) (hr.mono (by decide))) (vE 0)))) (own := [(("haul" : Str), 2), (("least" : Str), 3), (("greatest" : Str), 4)]) (blkOk_by (by kernel_rfl)) (tg_t (tgs_cons (j := 2) (tgs_cons (j := 3) (tgs_cons (j := 4) tgs_nil))) rfl) (by decide) (fun s0 H0 C0 cl0 fp0 => (pg_tup rfl (pgs_cons (pgN 2 sc_Bounds_leasts.nd) (pgs_cons (pgN 3 sc_Bounds_leasts.nd) (pgs_cons (pgN 4 sc_Bounds_leasts.nd) pgs_nil))))) (fun s0 H0 C0 cl0 fp0 => sts_nil) (fun s0 H0 C0 cl0 fp0 => (vE 2)) (fun s0 H0 C0 cl0 fp0 => (vE 3))))) (ss_one (ss_ret DE.ok (SO.e (so_dcT (u1 hr) rfl sc_Bounds_leasts.nd (SI.any (si_seq (s_call DE.ok (ok_hauls_of kx G c) (hr.mono (by decide)) pasX rfl (He.glo_ok kx G (x := "hauls_of") (c.a 31 rfl)) (sl_cons (s_attr DE.ok (op1_prop (He.cls_ok (x := "Bounds") (c.a 22 rfl)) (propB_ok (C := "Bounds") (f := "stops") (c.b 0 rfl)) (ok_Bounds_stops kx G c) (hr.mono (by decide))) (vE 0)) sl_nil)))) (own := [(("haul" : Str), 2)]) (blkOk_by (by kernel_rfl)) (tg_n (j := 2)) (by decide) (fun s0 H0 C0 cl0 fp0 => (pgN 2 sc_Bounds_leasts.nd)) (fun s0 H0 C0 cl0 fp0 => sts_nil) (fun s0 H0 C0 cl0 fp0 => (vE 2)) (fun s0 H0 C0 cl0 fp0 => (se_get2 (u1 hr) (vB 1) (vE 2) se_int ⟨rfl, rfl, rfl, rfl⟩)))))))
theorem ok_Bounds_greatests (kx : K.In h) (G : h.Ns mainGlobals mg) (c : SaysM fa fm fn K) : FnK P w K mg base (DE K) 3 1 ((.m "Bounds" "greatests" : Loc3).at_ K) [] c_Bounds_greatests := by
  obtain ⟨fd, F⟩ := c.d 19 (d := d_Bounds_greatests) rfl
  exact fnk_of (fin := endE) F sc_Bounds_greatests rfl (F.bindsN fun _ _ _ _ _ _ us hl => match us, hl with | [_], _ => rfl) .nil (fun _ _ => .nil) finE fun cdv A outer s H E hr =>
    (ss_cons (ss_set (i := 1) sc_Bounds_greatests.nd rfl (by first | exact Or.inl rfl | exact Or.inr rfl) (SO.e (so_dcT (u1 hr) rfl sc_Bounds_greatests.nd (SI.any (si_seq (s_attr DE.ok (op1_prop (He.cls_ok (x := "Bounds") (c.a 22 rfl)) (propB_ok (C := "Bounds") (f := "ranges") (c.b 1 rfl)) (ok_Bounds_ranges kx G c) (hr.mono (by decide))) (vE 0)))) (own := [(("haul" : Str), 2), (("least" : Str), 3), (("greatest" : Str), 4)]) (blkOk_by (by kernel_rfl)) (tg_t (tgs_cons (j := 2) (tgs_cons (j := 3) (tgs_cons (j := 4) tgs_nil))) rfl) (by decide) (fun s0 H0 C0 cl0 fp0 => (pg_tup rfl (pgs_cons (pgN 2 sc_Bounds_greatests.nd) (pgs_cons (pgN 3 sc_Bounds_greatests.nd) (pgs_cons (pgN 4 sc_Bounds_greatests.nd) pgs_nil))))) (fun s0 H0 C0 cl0 fp0 => sts_nil) (fun s0 H0 C0 cl0 fp0 => (vE 2)) (fun s0 H0 C0 cl0 fp0 => (vE 4))))) (ss_one (ss_ret DE.ok (SO.e (so_dcT (u1 hr) rfl sc_Bounds_greatests.nd (SI.any (si_seq (s_call DE.ok (ok_hauls_of kx G c) (hr.mono (by decide)) pasX rfl (He.glo_ok kx G (x := "hauls_of") (c.a 31 rfl)) (sl_cons (s_attr DE.ok (op1_prop (He.cls_ok (x := "Bounds") (c.a 22 rfl)) (propB_ok (C := "Bounds") (f := "stops") (c.b 0 rfl)) (ok_Bounds_stops kx G c) (hr.mono (by decide))) (vE 0)) sl_nil)))) (own := [(("haul" : Str), 2)]) (blkOk_by (by kernel_rfl)) (tg_n (j := 2)) (by decide) (fun s0 H0 C0 cl0 fp0 => (pgN 2 sc_Bounds_greatests.nd)) (fun s0 H0 C0 cl0 fp0 => sts_nil) (fun s0 H0 C0 cl0 fp0 => (vE 2)) (fun s0 H0 C0 cl0 fp0 => (se_get1 (u1 hr) (vB 1) (vE 2) ⟨rfl, rfl, rfl, rfl⟩)))))))
theorem ok_Bounds_told (kx : K.In h) (G : h.Ns mainGlobals mg) (c : SaysM fa fm fn K) : FnK P w K mg base (DE K) 4 2 ((.m "Bounds" "told" : Loc3).at_ K) [] c_Bounds_told := by
  obtain ⟨fd, F⟩ := c.d 20 (d := d_Bounds_told) rfl
  exact fnk_of (fin := endE) F sc_Bounds_told rfl (F.bindsN fun _ _ _ _ _ _ us hl => match us, hl with | [_, _], _ => rfl) .nil (fun _ _ => .nil) finE fun cdv A outer s H E hr =>
    (ss_cons (ss_expr (s_call DE.ok (ok_check_haul kx G c) (hr.mono (by decide)) pasX rfl (He.glo_ok kx G (x := "check_haul") (c.a 30 rfl)) (sl_cons (vE 1) (sl_cons (s_attr DE.ok (op1_prop (He.cls_ok (x := "Bounds") (c.a 22 rfl)) (propB_ok (C := "Bounds") (f := "stops") (c.b 0 rfl)) (ok_Bounds_stops kx G c) (hr.mono (by decide))) (vE 0)) sl_nil)))) (ss_one (ss_ret DE.ok (se_tup (sl_cons (s_ix (u1 hr) (SE.b (s_meth0 DE.ok (He.cls_ok (x := "Bounds") (c.a 22 rfl)) (He.meth_ok (x := "Bounds") (m := "leasts") (c.a 32 rfl)) (ok_Bounds_leasts kx G c) (hr.mono (by decide)) pasX (vE 0))) (vB 1)) (sl_cons (s_ix (u1 hr) (SE.b (s_meth0 DE.ok (He.cls_ok (x := "Bounds") (c.a 22 rfl)) (He.meth_ok (x := "Bounds") (m := "greatests") (c.a 33 rfl)) (ok_Bounds_greatests kx G c) (hr.mono (by decide)) pasX (vE 0))) (vB 1)) sl_nil))))))
theorem ok__law_is_frame (kx : K.In h) (G : h.Ns mainGlobals mg) (c : SaysM fa fm fn K) : FnK P w K mg base (DE K) 6 3 ((.g "_law_is_frame" : Loc3).at_ K) [] c__law_is_frame := by
  obtain ⟨fd, F⟩ := c.d 21 (d := d__law_is_frame) rfl
  exact fnk_of (fin := endE) F sc__law_is_frame rfl (F.bindsN fun _ _ _ _ _ _ us hl => match us, hl with | [_, _, _], _ => rfl) .nil (fun _ _ => .nil) finE fun cdv A outer s H E hr =>
    (ss_cons (ss_setT (tgs_cons (j := 3) (tgs_cons (j := 4) tgs_nil)) rfl (pg_tup rfl (pgs_cons (pgN 3 sc__law_is_frame.nd) (pgs_cons (pgN 4 sc__law_is_frame.nd) pgs_nil))) (s_call DE.ok (ok__law_lows kx G c) (hr.mono (by decide)) pasX rfl (He.glo_ok kx G (x := "_law_lows") (c.a 25 rfl)) (sl_cons (vE 1) (sl_cons (vE 2) sl_nil)))) (ss_cons (ss_if (st_cmp (op2_ne hr.units) (SE.b (s_callB DE.ok (call_reprA hr) rfl (He.free_ok kx G (x := "repr") (c.a 28 rfl)) (by decide +kernel) (slb_cons (SE.b (SO.e (so_lst (sl_cons (s_attr DE.ok (op1_prop (He.cls_ok (x := "Bounds") (c.a 22 rfl)) (propB_ok (C := "Bounds") (f := "stops") (c.b 0 rfl)) (ok_Bounds_stops kx G c) (hr.mono (by decide))) (vE 0)) (sl_cons (s_attr DE.ok (op1_prop (He.cls_ok (x := "Bounds") (c.a 22 rfl)) (propB_ok (C := "Bounds") (f := "ranges") (c.b 1 rfl)) (ok_Bounds_ranges kx G c) (hr.mono (by decide))) (vE 0)) (sl_cons (s_strO (He.meth_ok (x := "Bounds") (m := "__str__") (c.a 27 rfl)) (ok_Bounds___str__ kx G c) (hr.mono (by decide)) (u22 hr) pasX rfl (He.free_ok kx G (x := "str") (c.a 26 rfl)) (sl_cons (vE 0) sl_nil)) sl_nil)))))) slb_nil))) (SE.b (s_callB DE.ok (call_reprA hr) rfl (He.free_ok kx G (x := "repr") (c.a 28 rfl)) (by decide +kernel) (slb_cons (SE.b (SO.e (so_lst (sl_cons (vE 1) (sl_cons (vE 2) (sl_cons (s_call DE.ok (ok__law_page kx G c) (hr.mono (by decide)) pasX rfl (He.glo_ok kx G (x := "_law_page") (c.a 29 rfl)) (sl_cons (vE 1) (sl_cons (vE 2) sl_nil))) sl_nil)))))) slb_nil))) rfl) (ss_one (ss_ret DE.ok se_bl)) ss_nil) (ss_cons (ss_for ownX rfl (si_seq (vE 3)) (tg_n (j := 5)) (pgN 5 sc__law_is_frame.nd) (ss_one (ss_if (st_cmp (op2_ne hr.units) (SE.b (s_callB DE.ok (call_reprA hr) rfl (He.free_ok kx G (x := "repr") (c.a 28 rfl)) (by decide +kernel) (slb_cons (SE.b (s_meth DE.ok (He.cls_ok (x := "Bounds") (c.a 22 rfl)) (He.meth_ok (x := "Bounds") (m := "told") (c.a 34 rfl)) (ok_Bounds_told kx G c) (hr.mono (by decide)) pasX (vE 0) (sl_cons (vE 5) sl_nil))) slb_nil))) (SE.b (s_callB DE.ok (call_reprA hr) rfl (He.free_ok kx G (x := "repr") (c.a 28 rfl)) (by decide +kernel) (slb_cons (SE.b (se_tup (sl_cons (s_ix (u1 hr) (vB 3) (vB 5)) (sl_cons (s_ix (u1 hr) (vB 4) (vB 5)) sl_nil)))) slb_nil))) rfl) (ss_one (ss_ret DE.ok se_bl)) ss_nil))) (ss_one (ss_ret DE.ok (s_boolN (He.noat_ok (x := "Bounds") (f := "__bool__") (c.a 35 rfl)) (He.noat_ok (x := "Bounds") (f := "__len__") (c.a 36 rfl)) rfl (He.free_ok kx G (x := "bool") (c.a 11 rfl)) (sl_cons (vE 0) sl_nil)))))))
theorem ok_number_in (kx : K.In h) (G : h.Ns mainGlobals mg) (c : SaysM fa fm fn K) : FnK P w K mg base (DE K) 1 1 ((.g "number_in" : Loc3).at_ K) [] c_number_in := by
  obtain ⟨fd, F⟩ := c.d 22 (d := d_number_in) rfl
  exact fnk_of (fin := endE) F sc_number_in rfl (F.bindsN fun _ _ _ _ _ _ us hl => match us, hl with | [_], _ => rfl) .nil (fun _ _ => .nil) finE fun cdv A outer s H E hr =>
    (ss_cons (ss_if (st_w (sw_or (st_cmp (op2_eq hr.units) (vB 0) (SE.b se_str) rfl) (sw_or (st_not (st_val (s_callB DE.ok (call_allS rfl) rfl (He.free_ok kx G (x := "all") (c.a 17 rfl)) (by decide +kernel) (slb_cons (SE.b (SO.e (so_lc rfl sc_number_in.nd (SI.any (si_txt (vE 0))) (own := [(("sign" : Str), 1)]) (blkOk_by (by kernel_rfl)) (tg_n (j := 1)) (by decide) (fun s0 H0 C0 cl0 fp0 => (pgN 1 sc_number_in.nd)) (fun s0 H0 C0 cl0 fp0 => sts_nil) (fun s0 H0 C0 cl0 fp0 => (s_cmp DE.ok op2_inS (vB 1) (SE.b (se_globS rfl (He.str_ok kx G (x := "DIGITS") (z := "0123456789") (c.a 38 rfl)))) rfl))))) slb_nil)))) (sw_or1 (st_w (sw_and (st_cmp (op2_eq hr.units) (SE.b (s_ix (u1 hr) (vB 0) (SE.b se_int))) (SE.b se_str) rfl) (sw_and1 (st_cmp (op2_ne hr.units) (vB 0) (SE.b se_str) rfl)))))))) (ss_one (ss_ret DE.ok se_non)) ss_nil) (ss_one (ss_ret DE.ok (s_callTy DE.ok call_intT rfl (He.free_ok kx G (x := "int") (c.a 4 rfl)) (by decide +kernel) (slb_cons (vB 0) slb_nil)))))
theorem ok_stops_in (kx : K.In h) (G : h.Ns mainGlobals mg) (c : SaysM fa fm fn K) : FnK P w K mg base (DE K) 2 1 ((.g "stops_in" : Loc3).at_ K) [] c_stops_in := by
  obtain ⟨fd, F⟩ := c.d 23 (d := d_stops_in) rfl
  exact fnk_of (fin := endE) F sc_stops_in rfl (F.bindsN fun _ _ _ _ _ _ us hl => match us, hl with | [_], _ => rfl) .nil (fun _ _ => .nil) finE fun cdv A outer s H E hr =>
    (ss_cons (ss_set (i := 1) sc_stops_in.nd rfl (by first | exact Or.inl rfl | exact Or.inr rfl) (se_split (vB 0) (SE.b se_str))) (ss_cons (ss_set (i := 2) sc_stops_in.nd rfl (by first | exact Or.inl rfl | exact Or.inr rfl) (s_if DE.ok (st_w (sw_and (st_cmp (op2_eq hr.units) (SE.b (s_callB DE.ok call_lenS rfl (He.free_ok kx G (x := "len") (c.a 0 rfl)) (by decide +kernel) (slb_cons (vB 1) slb_nil))) (SE.b se_int) rfl) (sw_and1 (st_cmp (op2_eq hr.units) (SE.b (s_ix (u1 hr) (vB 1) (SE.b se_int))) (SE.b se_str) rfl)))) (s_call DE.ok (ok_number_in kx G c) (hr.mono (by decide)) pasX rfl (He.glo_ok kx G (x := "number_in") (c.a 39 rfl)) (sl_cons (s_ix (u1 hr) (vB 1) (SE.b se_int)) sl_nil)) se_non)) (ss_one (ss_ret DE.ok (s_if DE.ok (st_w (sw_and (st_cmp op2_notN (vB 2) (SE.b se_non) rfl) (sw_and1 (st_ch op2_le op2_le (SE.b se_int) (vB 2) (SE.b (se_globI rfl (He.int_ok kx G (x := "MOST_STOPS") (i := 10) (c.a 13 rfl)))))))) (vE 2) se_non)))))
theorem ok_range_in (kx : K.In h) (G : h.Ns mainGlobals mg) (c : SaysM fa fm fn K) : FnK P w K mg base (DE K) 5 2 ((.g "range_in" : Loc3).at_ K) [] c_range_in := by
  obtain ⟨fd, F⟩ := c.d 24 (d := d_range_in) rfl
  exact fnk_of (fin := endE) F sc_range_in rfl (F.bindsN fun _ _ _ _ _ _ us hl => match us, hl with | [_, _], _ => rfl) .nil (fun _ _ => .nil) finE fun cdv A outer s H E hr =>
    (ss_cons (ss_set (i := 2) sc_range_in.nd rfl (by first | exact Or.inl rfl | exact Or.inr rfl) (se_split (vB 0) (SE.b se_str))) (ss_cons (ss_if (st_cmp (op2_ne hr.units) (SE.b (s_callB DE.ok call_lenS rfl (He.free_ok kx G (x := "len") (c.a 0 rfl)) (by decide +kernel) (slb_cons (vB 2) slb_nil))) (SE.b se_int) rfl) (ss_one (ss_ret DE.ok se_non)) ss_nil) (ss_cons (ss_lc (i := 3) rfl sc_range_in.nd rfl rfl rfl (SI.any (si_seq (vE 2))) (own := [(("word" : Str), 5)]) (blkOk_by (by kernel_rfl)) (tg_n (j := 5)) (by decide) (fun s0 H0 C0 cl0 fp0 => (pgN 5 sc_range_in.nd)) (fun s0 H0 C0 cl0 fp0 => sts_nil) (fun s0 H0 C0 cl0 fp0 => (s_call DE.ok (ok_number_in kx G c) (hr.mono (by decide)) pas_no rfl (He.glo_ok kx G (x := "number_in") (c.a 39 rfl)) (sl_cons (vE 5) sl_nil)))) (sss_share (i := 3) (ss_cons (ss_set (i := 4) sc_range_in.nd rfl (by first | exact Or.inl rfl | exact Or.inr rfl) (se_tup (sl_cons (se_tup (sl_cons (s_ix (u1 hr) (vB 3) (SE.b se_int)) (sl_cons (s_ix (u1 hr) (vB 3) (SE.b se_int)) sl_nil))) (sl_cons (s_ix (u1 hr) (vB 3) (SE.b se_int)) (sl_cons (s_ix (u1 hr) (vB 3) (SE.b se_int)) sl_nil))))) (ss_one (ss_ret DE.ok (s_if DE.ok (st_w (sw_and (st_val (s_call DE.ok (ok_is_range kx G c) (hr.mono (by decide)) pasX rfl (He.glo_ok kx G (x := "is_range") (c.a 21 rfl)) (sl_cons (vE 4) (sl_cons (vE 1) sl_nil)))) (sw_and1 (st_w (sw_or (st_cmp op2_notN (SE.b (s_ix (u1 hr) (vB 3) (SE.b se_int))) (SE.b se_non) rfl) (sw_or1 (st_cmp (op2_eq hr.units) (SE.b (s_ix (u1 hr) (vB 2) (SE.b se_int))) (SE.b se_str) rfl))))))) (vE 4) se_non))))))))
theorem okf_Bounds_read {fd : FuncData} (kx : K.In h) (G : h.Ns mainGlobals mg) (c : SaysM fa fm fn K) (F : FunD K d_Bounds_read.name d_Bounds_read.qual d_Bounds_read.params d_Bounds_read.body d_Bounds_read.scope (d_Bounds_read.dvs K) (d_Bounds_read.kws K) (d_Bounds_read.loc.at_ K) fd) : MP.FnOk P w K mg base (L2.CX P w) 7 (d_Bounds_read.loc.at_ K) fd [("cls" : Str), ("text" : Str)] (spD K (DE K) 2 c_Bounds_read) :=
  fnok_of (fin := endE) F sc_Bounds_read rfl finE fun cdv A outer s H E hr =>
    (ss_cons (ss_if (st_not (st_val (se_isi (isK_T tyT_str (fun _ h => nomatch h)) (vB 1) (pe_tyN (n := "str") rfl (He.free_ok kx G (x := "str") (c.a 26 rfl)) (by decide +kernel)) (.ty "str") rfl (He.free_ok kx G (x := "isinstance") (c.a 10 rfl))))) (ss_one ss_never) ss_nil) (ss_cons (ss_set (i := 2) sc_Bounds_read.nd rfl (by first | exact Or.inl rfl | exact Or.inr rfl) (se_split (vB 1) (SE.b se_str))) (ss_cons (ss_set (i := 3) sc_Bounds_read.nd rfl (by first | exact Or.inl rfl | exact Or.inr rfl) (s_call DE.ok (ok_stops_in kx G c) (hr.mono (by decide)) pasX rfl (He.glo_ok kx G (x := "stops_in") (c.a 40 rfl)) (sl_cons (s_ix (u1 hr) (vB 2) (SE.b se_int)) sl_nil))) (ss_cons (ss_if (st_cmp op2_isN (vB 3) (SE.b se_non) rfl) (ss_one ss_never) ss_nil) (ss_cons (ss_own (i := 4) sc_Bounds_read.nd rfl (by first | exact Or.inl rfl | exact Or.inr rfl) (so_lst sl_nil)) (ss_cons (ss_for ownX rfl (si_enu (se_sl (vB 2) (sp_some se_int) sp_none) rfl (He.free_ok kx G (x := "enumerate") (c.a 16 rfl))) (tg_t (tgs_cons (j := 5) (tgs_cons (j := 6) tgs_nil)) rfl) (pg_tup rfl (pgs_cons (pgN 5 sc_Bounds_read.nd) (pgs_cons (pgN 6 sc_Bounds_read.nd) pgs_nil))) (ss_cons (ss_set (i := 7) sc_Bounds_read.nd rfl (by first | exact Or.inl rfl | exact Or.inr rfl) (s_call DE.ok (ok_range_in kx G c) (hr.mono (by decide)) pasX rfl (He.glo_ok kx G (x := "range_in") (c.a 41 rfl)) (sl_cons (vE 6) (sl_cons (vE 3) sl_nil)))) (ss_cons (ss_if (st_w (sw_or (st_cmp op2_isN (vB 7) (SE.b se_non) rfl) (sw_or1 (st_w (sw_and (st_cmp (op2_ne hr.units) (vB 4) (SE.b (SO.e (so_lst sl_nil))) rfl) (sw_and1 (st_cmp (op2_geT hr.units0) (SE.b (s_ix (u1 hr) (SE.b (s_ix (u1 hr) (vB 4) (SE.b (s_un DE.ok op1_neg (SE.b se_int))))) (SE.b se_int))) (SE.b (s_ix (u1 hr) (vB 7) (SE.b se_int))) rfl))))))) (ss_one ss_never) ss_nil) (ss_one (ss_app (i := 4) rfl (by first | exact Or.inl rfl | exact Or.inr (Or.inl rfl)) (vE 7)))))) (ss_one (ss_ret DE.ok (SO.e (so_cls (i := 0) (ok_Bounds___init__ kx G c) (hr.mono (by decide)) pasX rfl (by first | exact Or.inl rfl | exact Or.inr (Or.inl rfl)) (sl_cons (vE 3) (sl_cons (s_callTy DE.ok call_tupS rfl (He.free_ok kx G (x := "tuple") (c.a 7 rfl)) (by decide +kernel) (slb_cons (vB 4) slb_nil)) sl_nil))))))))))))
theorem ok_Bounds_read (kx : K.In h) (G : h.Ns mainGlobals mg) (c : SaysM fa fm fn K) : FnK P w K mg base (DE K) 7 2 ((d_Bounds_read.loc).at_ K) [] c_Bounds_read := by
  obtain ⟨fd, F⟩ := c.d 25 (d := d_Bounds_read) rfl
  exact ⟨fd, _, [], [], okf_Bounds_read kx G c F, F.bindsN fun _ _ _ _ _ _ us hl => match us, hl with | [_, _], _ => rfl, .nil, fun _ _ => .nil, F.kp⟩
theorem okq_Bounds_read_0 (kx : K.In h) (G : h.Ns mainGlobals mg) (c : SaysM fa fm fn K) : FnQ P w K mg base (DE K) 7 2 1 [("text" : Str)] [0, 1] ((d_Bounds_read.loc).at_ K) [] c_Bounds_read := by
  obtain ⟨fd, F⟩ := c.d 25 (d := d_Bounds_read) rfl
  exact fnq_of F (okf_Bounds_read kx G c F) fun _ _ _ _ _ _ us ws hl hw => match us, ws, hl, hw with | [_], [_], _, _ => rfl
theorem ok_Bounds___eq__ (kx : K.In h) (G : h.Ns mainGlobals mg) (c : SaysM fa fm fn K) : FnK P w K mg base (DE K) 1 2 ((.m "Bounds" "__eq__" : Loc3).at_ K) [] c_Bounds___eq__ := by
  obtain ⟨fd, F⟩ := c.d 26 (d := d_Bounds___eq__) rfl
  exact fnk_of (fin := endE) F sc_Bounds___eq__ rfl (F.bindsN fun _ _ _ _ _ _ us hl => match us, hl with | [_, _], _ => rfl) .nil (fun _ _ => .nil) finE fun cdv A outer s H E hr =>
    (ss_one (ss_ret DE.ok (se_and (se_isi (by exact isK_C (kitA_ok (c.b 3 rfl)) (clsTB_ok (c.b 4 rfl)) (fun _ h => nomatch h)) (vB 1) (by exact pe_own (He.glo_ok kx G (x := "Bounds") (c.a 24 rfl))) (.own _) rfl (He.free_ok kx G (x := "isinstance") (c.a 10 rfl))) (se_one (s_cmp DE.ok (op2_eq hr.units) (SE.b (s_attrB DE.ok (op1_fld (He.cls_ok (x := "Bounds") (c.a 22 rfl)) (He.noat_ok (x := "Bounds") (f := "all") (c.a 23 rfl))) (vB 0))) (SE.b (s_attrB DE.ok (op1_fld (He.cls_ok (x := "Bounds") (c.a 22 rfl)) (He.noat_ok (x := "Bounds") (f := "all") (c.a 23 rfl))) (vB 1))) rfl)))))
theorem okf_Bounds_without {fd : FuncData} (kx : K.In h) (G : h.Ns mainGlobals mg) (c : SaysM fa fm fn K) (F : FunD K d_Bounds_without.name d_Bounds_without.qual d_Bounds_without.params d_Bounds_without.body d_Bounds_without.scope (d_Bounds_without.dvs K) (d_Bounds_without.kws K) (d_Bounds_without.loc.at_ K) fd) : MP.FnOk P w K mg base (L2.CX P w) 7 (d_Bounds_without.loc.at_ K) fd [("self" : Str), ("haul" : Str)] (spD K (DE K) 2 c_Bounds_without) :=
  fnok_of (fin := endE) F sc_Bounds_without rfl finE fun cdv A outer s H E hr =>
    (ss_cons (ss_expr (s_call DE.ok (ok_check_haul kx G c) (hr.mono (by decide)) pasX rfl (He.glo_ok kx G (x := "check_haul") (c.a 30 rfl)) (sl_cons (vE 1) (sl_cons (s_attr DE.ok (op1_prop (He.cls_ok (x := "Bounds") (c.a 22 rfl)) (propB_ok (C := "Bounds") (f := "stops") (c.b 0 rfl)) (ok_Bounds_stops kx G c) (hr.mono (by decide))) (vE 0)) sl_nil)))) (ss_one (ss_ret DE.ok (SO.e (so_make (ok_Bounds___init__ kx G c) (hr.mono (by decide)) pasX rfl (He.glo_ok kx G (x := "Bounds") (c.a 24 rfl)) (sl_cons (s_attr DE.ok (op1_prop (He.cls_ok (x := "Bounds") (c.a 22 rfl)) (propB_ok (C := "Bounds") (f := "stops") (c.b 0 rfl)) (ok_Bounds_stops kx G c) (hr.mono (by decide))) (vE 0)) (sl_cons (s_callTy DE.ok call_tupS rfl (He.free_ok kx G (x := "tuple") (c.a 7 rfl)) (by decide +kernel) (slb_cons (SE.b (SO.e (so_lc rfl sc_Bounds_without.nd (SI.any (si_seq (s_attr DE.ok (op1_prop (He.cls_ok (x := "Bounds") (c.a 22 rfl)) (propB_ok (C := "Bounds") (f := "ranges") (c.b 1 rfl)) (ok_Bounds_ranges kx G c) (hr.mono (by decide))) (vE 0)))) (own := [(("one" : Str), 2)]) (blkOk_by (by kernel_rfl)) (tg_n (j := 2)) (by decide) (fun s0 H0 C0 cl0 fp0 => (pgN 2 sc_Bounds_without.nd)) (fun s0 H0 C0 cl0 fp0 => (sts_one (st_cmp (op2_ne hr.units) (SE.b (s_ix (u1 hr) (vB 2) (SE.b se_int))) (vB 1) rfl))) (fun s0 H0 C0 cl0 fp0 => (vE 2))))) slb_nil)) sl_nil)))))))
theorem ok_Bounds_without (kx : K.In h) (G : h.Ns mainGlobals mg) (c : SaysM fa fm fn K) : FnK P w K mg base (DE K) 7 2 ((d_Bounds_without.loc).at_ K) [] c_Bounds_without := by
  obtain ⟨fd, F⟩ := c.d 27 (d := d_Bounds_without) rfl
  exact ⟨fd, _, [], [], okf_Bounds_without kx G c F, F.bindsN fun _ _ _ _ _ _ us hl => match us, hl with | [_, _], _ => rfl, .nil, fun _ _ => .nil, F.kp⟩
theorem okq_Bounds_without_0 (kx : K.In h) (G : h.Ns mainGlobals mg) (c : SaysM fa fm fn K) : FnQ P w K mg base (DE K) 7 2 1 [("haul" : Str)] [0, 1] ((d_Bounds_without.loc).at_ K) [] c_Bounds_without := by
  obtain ⟨fd, F⟩ := c.d 27 (d := d_Bounds_without) rfl
  exact fnq_of F (okf_Bounds_without kx G c F) fun _ _ _ _ _ _ us ws hl hw => match us, ws, hl, hw with | [_], [_], _, _ => rfl
theorem okf_Bounds_seen {fd : FuncData} (kx : K.In h) (G : h.Ns mainGlobals mg) (c : SaysM fa fm fn K) (F : FunD K d_Bounds_seen.name d_Bounds_seen.qual d_Bounds_seen.params d_Bounds_seen.body d_Bounds_seen.scope (d_Bounds_seen.dvs K) (d_Bounds_seen.kws K) (d_Bounds_seen.loc.at_ K) fd) : MP.FnOk P w K mg base (L2.CX P w) 7 (d_Bounds_seen.loc.at_ K) fd [("cls" : Str), ("stops" : Str), ("tickets" : Str)] (spD K (DE K) 3 c_Bounds_seen) :=
  fnok_of (fin := endE) F sc_Bounds_seen rfl finE fun cdv A outer s H E hr =>
    (ss_cons (ss_expr (s_call DE.ok (ok_check_stops kx G c) (hr.mono (by decide)) pasX rfl (He.glo_ok kx G (x := "check_stops") (c.a 15 rfl)) (sl_cons (vE 1) sl_nil))) (ss_cons (ss_if (st_not (st_val (se_isi (isK_T tyT_tuple (fun _ h => nomatch h)) (vB 2) (pe_tyN (n := "tuple") rfl (He.free_ok kx G (x := "tuple") (c.a 7 rfl)) (by decide +kernel)) (.ty "tuple") rfl (He.free_ok kx G (x := "isinstance") (c.a 10 rfl))))) (ss_one ss_never) ss_nil) (ss_cons (ss_for ownX rfl (si_enu (vE 2) rfl (He.free_ok kx G (x := "enumerate") (c.a 16 rfl))) (tg_t (tgs_cons (j := 3) (tgs_cons (j := 4) tgs_nil)) rfl) (pg_tup rfl (pgs_cons (pgN 3 sc_Bounds_seen.nd) (pgs_cons (pgN 4 sc_Bounds_seen.nd) pgs_nil))) (ss_one (ss_if (st_w (sw_or (st_not (st_val (se_isi (isK_T tyT_tuple (fun _ h => nomatch h)) (vB 4) (pe_tyN (n := "tuple") rfl (He.free_ok kx G (x := "tuple") (c.a 7 rfl)) (by decide +kernel)) (.ty "tuple") rfl (He.free_ok kx G (x := "isinstance") (c.a 10 rfl))))) (sw_or (st_cmp (op2_ne hr.units) (SE.b (s_callB DE.ok call_lenS rfl (He.free_ok kx G (x := "len") (c.a 0 rfl)) (by decide +kernel) (slb_cons (vB 4) slb_nil))) (SE.b se_int) rfl) (sw_or (st_not (st_val (s_call DE.ok (ok_is_haul kx G c) (hr.mono (by decide)) pasX rfl (He.glo_ok kx G (x := "is_haul") (c.a 18 rfl)) (sl_cons (s_ix (u1 hr) (vB 4) (SE.b se_int)) (sl_cons (vE 1) sl_nil))))) (sw_or1 (st_w (sw_or (st_not (st_val (s_call DE.ok (ok_is_price kx G c) (hr.mono (by decide)) pasX rfl (He.glo_ok kx G (x := "is_price") (c.a 20 rfl)) (sl_cons (s_ix (u1 hr) (vB 4) (SE.b se_int)) sl_nil)))) (sw_or1 (st_w (sw_and (st_cmp op2_gt (vB 3) (SE.b se_int) rfl) (sw_and1 (st_cmp (op2_geT hr.units0) (SE.b (s_ix (u1 hr) (SE.b (s_ix (u1 hr) (vB 2) (SE.b (s_bin DE.ok op2_sub (vB 3) (SE.b se_int))))) (SE.b se_int))) (SE.b (s_ix (u1 hr) (vB 4) (SE.b se_int))) rfl)))))))))))) (ss_one ss_never) ss_nil))) (ss_one (ss_ret DE.ok (SO.e (so_cls (i := 0) (ok_Bounds___init__ kx G c) (hr.mono (by decide)) pasX rfl (by first | exact Or.inl rfl | exact Or.inr (Or.inl rfl)) (sl_cons (vE 1) (sl_cons (s_callTy DE.ok call_tupS rfl (He.free_ok kx G (x := "tuple") (c.a 7 rfl)) (by decide +kernel) (slb_cons (SE.b (SO.e (so_lc rfl sc_Bounds_seen.nd (SI.any (si_seq (vE 2))) (own := [(("haul" : Str), 5), (("price" : Str), 6)]) (blkOk_by (by kernel_rfl)) (tg_t (tgs_cons (j := 5) (tgs_cons (j := 6) tgs_nil)) rfl) (by decide) (fun s0 H0 C0 cl0 fp0 => (pg_tup rfl (pgs_cons (pgN 5 sc_Bounds_seen.nd) (pgs_cons (pgN 6 sc_Bounds_seen.nd) pgs_nil)))) (fun s0 H0 C0 cl0 fp0 => sts_nil) (fun s0 H0 C0 cl0 fp0 => (se_tup (sl_cons (vE 5) (sl_cons (vE 6) (sl_cons (vE 6) sl_nil)))))))) slb_nil)) sl_nil)))))))))
theorem ok_Bounds_seen (kx : K.In h) (G : h.Ns mainGlobals mg) (c : SaysM fa fm fn K) : FnK P w K mg base (DE K) 7 3 ((d_Bounds_seen.loc).at_ K) [] c_Bounds_seen := by
  obtain ⟨fd, F⟩ := c.d 28 (d := d_Bounds_seen) rfl
  exact ⟨fd, _, [], [], okf_Bounds_seen kx G c F, F.bindsN fun _ _ _ _ _ _ us hl => match us, hl with | [_, _, _], _ => rfl, .nil, fun _ _ => .nil, F.kp⟩
theorem okq_Bounds_seen_0 (kx : K.In h) (G : h.Ns mainGlobals mg) (c : SaysM fa fm fn K) : FnQ P w K mg base (DE K) 7 3 1 [("tickets" : Str), ("stops" : Str)] [0, 2, 1] ((d_Bounds_seen.loc).at_ K) [] c_Bounds_seen := by
  obtain ⟨fd, F⟩ := c.d 28 (d := d_Bounds_seen) rfl
  exact fnq_of F (okf_Bounds_seen kx G c F) fun _ _ _ _ _ _ us ws hl hw => match us, ws, hl, hw with | [_], [_, _], _, _ => rfl
theorem ok__law_right (kx : K.In h) (G : h.Ns mainGlobals mg) (c : SaysM fa fm fn K) : FnK P w K mg base (DE K) 8 1 ((.g "_law_right" : Loc3).at_ K) [] c__law_right := by
  obtain ⟨fd, F⟩ := c.d 29 (d := d__law_right) rfl
  exact fnk_of (fin := endE) F sc__law_right rfl (F.bindsN fun _ _ _ _ _ _ us hl => match us, hl with | [_], _ => rfl) .nil (fun _ _ => .nil) finE fun cdv A outer s H E hr =>
    (ss_cons (ss_for ownX rfl (si_rng1 se_int rfl (He.free_ok kx G (x := "range") (c.a 3 rfl))) (tg_n (j := 1)) (pgN 1 sc__law_right.nd) (ss_cons (ss_set (i := 2) sc__law_right.nd rfl (by first | exact Or.inl rfl | exact Or.inr rfl) (s_bin DE.ok op2_add (SE.b se_int) (SE.b (s_call DE.ok (ok__law_dip kx G c) (hr.mono (by decide)) pasX rfl (He.glo_ok kx G (x := "_law_dip") (c.a 5 rfl)) (sl_cons (vE 0) (sl_cons se_int sl_nil)))))) (ss_cons (ss_set (i := 3) sc__law_right.nd rfl (by first | exact Or.inl rfl | exact Or.inr rfl) (s_call DE.ok (ok__law_spans kx G c) (hr.mono (by decide)) pasX rfl (He.glo_ok kx G (x := "_law_spans") (c.a 9 rfl)) (sl_cons (vE 0) (sl_cons (vE 2) (sl_cons (s_call DE.ok (ok__law_pick kx G c) (hr.mono (by decide)) pasX rfl (He.glo_ok kx G (x := "_law_pick") (c.a 8 rfl)) (sl_cons (vE 0) (sl_cons (SO.e (so_lst (sl_cons se_int (sl_cons se_int (sl_cons (s_bin DE.ok op2_mul (SE.b se_int) (SE.b (s_bin DE.ok op2_pow (SE.b se_int) (SE.b se_int)))) sl_nil))))) sl_nil))) sl_nil))))) (ss_cons (ss_set (i := 4) sc__law_right.nd rfl (by first | exact Or.inl rfl | exact Or.inr rfl) (s_call DE.ok (ok__law_pick kx G c) (hr.mono (by decide)) pasX rfl (He.glo_ok kx G (x := "_law_pick") (c.a 8 rfl)) (sl_cons (vE 0) (sl_cons (SO.e (so_lst (sl_cons (vE 3) (sl_cons (se_sl (vB 3) sp_none (sp_some (s_un DE.ok op1_neg (SE.b se_int)))) (sl_cons (s_call DE.ok (ok__law_spans kx G c) (hr.mono (by decide)) pasX rfl (He.glo_ok kx G (x := "_law_spans") (c.a 9 rfl)) (sl_cons (vE 0) (sl_cons (vE 2) (sl_cons se_int sl_nil)))) sl_nil))))) sl_nil)))) (ss_cons (ss_par (i := 5) (j := 6) rfl sc__law_right.nd rfl rfl (by decide) rfl rfl (SO.e (so_make (ok_Bounds___init__ kx G c) (hr.mono (by decide)) pasX rfl (He.glo_ok kx G (x := "Bounds") (c.a 24 rfl)) (sl_cons (vE 2) (sl_cons (vE 3) sl_nil)))) (SO.e (so_makeQ0 (okq_Bounds___init___0 kx G c) (hr.mono (by decide)) pasX rfl (He.glo_ok kx G (x := "Bounds") (c.a 24 rfl)) (sk_cons (vE 4) (sk_cons (vE 2) sk_nil))))) (ss_cons (ss_if (st_w (sw_or (st_not (st_val (s_call DE.ok (ok__law_is_frame kx G c) (hr.mono (by decide)) pasX rfl (He.glo_ok kx G (x := "_law_is_frame") (c.a 37 rfl)) (sl_cons (vE 5) (sl_cons (vE 2) (sl_cons (vE 3) sl_nil)))))) (sw_or1 (st_not (st_val (s_call DE.ok (ok__law_is_frame kx G c) (hr.mono (by decide)) pasX rfl (He.glo_ok kx G (x := "_law_is_frame") (c.a 37 rfl)) (sl_cons (vE 6) (sl_cons (vE 2) (sl_cons (vE 4) sl_nil))))))))) (ss_one (ss_ret DE.ok se_bl)) ss_nil) (ss_cons (ss_if (st_not (st_val (s_call DE.ok (ok__law_is_frame kx G c) (hr.mono (by decide)) pasX rfl (He.glo_ok kx G (x := "_law_is_frame") (c.a 37 rfl)) (sl_cons (s_cmeth DE.ok (cmB_ok (C := "Bounds") (f := "read") (c.b 2 rfl)) (ok_Bounds_read kx G c) (hr.mono (by decide)) pasX (pe_own (He.glo_ok kx G (x := "Bounds") (c.a 24 rfl))) (sl_cons (s_call DE.ok (ok__law_page kx G c) (hr.mono (by decide)) pasX rfl (He.glo_ok kx G (x := "_law_page") (c.a 29 rfl)) (sl_cons (vE 2) (sl_cons (vE 3) sl_nil))) sl_nil)) (sl_cons (vE 2) (sl_cons (vE 3) sl_nil)))))) (ss_one (ss_ret DE.ok se_bl)) ss_nil) (ss_cons (ss_if (st_w (sw_or (st_not (st_cmpE (op2e_eqI (He.meth_ok (x := "Bounds") (m := "__eq__") (c.a 42 rfl)) (ok_Bounds___eq__ kx G c) (hr.mono (by decide)) pasX) (s_cmethQ DE.ok (by exact cmB_ok (C := "Bounds") (f := "read") (c.b 2 rfl)) (okq_Bounds_read_0 kx G c) (hr.mono (by decide)) pasX (pe_own (He.glo_ok kx G (x := "Bounds") (c.a 24 rfl))) (sk_cons (s_strO (He.meth_ok (x := "Bounds") (m := "__str__") (c.a 27 rfl)) (ok_Bounds___str__ kx G c) (hr.mono (by decide)) (u22 hr) pasX rfl (He.free_ok kx G (x := "str") (c.a 26 rfl)) (sl_cons (vE 6) sl_nil)) sk_nil)) (vE 6) rfl)) (sw_or1 (st_cmp (op2_ne hr.units) (SE.b (s_cmpE DE.ok (op2e_eqI (He.meth_ok (x := "Bounds") (m := "__eq__") (c.a 42 rfl)) (ok_Bounds___eq__ kx G c) (hr.mono (by decide)) pasX) (vE 5) (vE 6) rfl)) (SE.b (s_cmp DE.ok (op2_eq hr.units) (vB 3) (vB 4) rfl)) rfl)))) (ss_one (ss_ret DE.ok se_bl)) ss_nil) (ss_cons (ss_if (st_cmp (op2_eq hr.units) (SE.b (s_cmpE DE.ok (op2e_neI (neO_ok (c.b 5 rfl)) (He.meth_ok (x := "Bounds") (m := "__eq__") (c.a 42 rfl)) (ok_Bounds___eq__ kx G c) (hr.mono (by decide)) pasX) (vE 5) (vE 6) rfl)) (SE.b (s_cmp DE.ok (op2_eq hr.units) (vB 3) (vB 4) rfl)) rfl) (ss_one (ss_ret DE.ok se_bl)) ss_nil) (ss_cons (ss_set (i := 7) sc__law_right.nd rfl (by first | exact Or.inl rfl | exact Or.inr rfl) (s_call DE.ok (ok__law_pick kx G c) (hr.mono (by decide)) pasX rfl (He.glo_ok kx G (x := "_law_pick") (c.a 8 rfl)) (sl_cons (vE 0) (sl_cons (SO.e (so_lst (sl_cons se_non (sl_cons se_int (sl_cons (s_strO (He.meth_ok (x := "Bounds") (m := "__str__") (c.a 27 rfl)) (ok_Bounds___str__ kx G c) (hr.mono (by decide)) (u22 hr) pasX rfl (He.free_ok kx G (x := "str") (c.a 26 rfl)) (sl_cons (vE 5) sl_nil)) (sl_cons (vE 3) (sl_cons (se_tup (sl_cons (vE 2) (sl_cons (vE 3) sl_nil))) (sl_cons (SO.e (so_lst sl_nil)) (sl_cons (SO.e so_dK) sl_nil))))))))) sl_nil)))) (ss_cons (ss_if (st_w (sw_or (st_cmpE (op2e_eqX (kitA_ok (c.b 3 rfl)) (He.meth_ok (x := "Bounds") (m := "__eq__") (c.a 42 rfl)) (ok_Bounds___eq__ kx G c) (hr.mono (by decide)) pasX) (vE 5) (vE 7) rfl) (sw_or1 (st_not (st_cmpE (op2e_neX (kitA_ok (c.b 3 rfl)) (neO_ok (c.b 5 rfl)) (He.meth_ok (x := "Bounds") (m := "__eq__") (c.a 42 rfl)) (ok_Bounds___eq__ kx G c) (hr.mono (by decide)) pasX) (vE 5) (vE 7) rfl))))) (ss_one (ss_ret DE.ok se_bl)) ss_nil) (ss_cons (ss_set (i := 8) sc__law_right.nd rfl (by first | exact Or.inl rfl | exact Or.inr rfl) (s_call DE.ok (ok__law_pick kx G c) (hr.mono (by decide)) pasX rfl (He.glo_ok kx G (x := "_law_pick") (c.a 8 rfl)) (sl_cons (vE 0) (sl_cons (s_call DE.ok (ok__law_rides kx G c) (hr.mono (by decide)) pasX rfl (He.glo_ok kx G (x := "_law_rides") (c.a 6 rfl)) (sl_cons (vE 2) sl_nil)) sl_nil)))) (ss_cons (ss_set (i := 9) sc__law_right.nd rfl (by first | exact Or.inl rfl | exact Or.inr rfl) (s_callTy DE.ok call_tupS rfl (He.free_ok kx G (x := "tuple") (c.a 7 rfl)) (by decide +kernel) (slb_cons (SE.b (SO.e (so_lc rfl sc__law_right.nd (SI.any (si_seq (vE 3))) (own := [(("_law_one" : Str), 12)]) (blkOk_by (by kernel_rfl)) (tg_n (j := 12)) (by decide) (fun s0 H0 C0 cl0 fp0 => (pgN 12 sc__law_right.nd)) (fun s0 H0 C0 cl0 fp0 => (sts_one (st_cmp (op2_ne hr.units) (SE.b (s_ix (u1 hr) (vB 12) (SE.b se_int))) (vB 8) rfl))) (fun s0 H0 C0 cl0 fp0 => (vE 12))))) slb_nil))) (ss_cons (ss_if (st_w (sw_or (st_not (st_cmpE (op2e_eqI (He.meth_ok (x := "Bounds") (m := "__eq__") (c.a 42 rfl)) (ok_Bounds___eq__ kx G c) (hr.mono (by decide)) pasX) (s_meth DE.ok (He.cls_ok (x := "Bounds") (c.a 22 rfl)) (He.meth_ok (x := "Bounds") (m := "without") (c.a 43 rfl)) (ok_Bounds_without kx G c) (hr.mono (by decide)) pasX (vE 5) (sl_cons (vE 8) sl_nil)) (SO.e (so_make (ok_Bounds___init__ kx G c) (hr.mono (by decide)) pasX rfl (He.glo_ok kx G (x := "Bounds") (c.a 24 rfl)) (sl_cons (vE 2) (sl_cons (vE 9) sl_nil)))) rfl)) (sw_or1 (st_not (st_val (s_call DE.ok (ok__law_is_frame kx G c) (hr.mono (by decide)) pasX rfl (He.glo_ok kx G (x := "_law_is_frame") (c.a 37 rfl)) (sl_cons (s_methQ0 DE.ok (He.cls_ok (x := "Bounds") (c.a 22 rfl)) (He.meth_ok (x := "Bounds") (m := "without") (c.a 43 rfl)) (okq_Bounds_without_0 kx G c) (hr.mono (by decide)) pasX (vE 5) (sk_cons (vE 8) sk_nil)) (sl_cons (vE 2) (sl_cons (vE 9) sl_nil))))))))) (ss_one (ss_ret DE.ok se_bl)) ss_nil) (ss_cons (ss_set (i := 10) sc__law_right.nd rfl (by first | exact Or.inl rfl | exact Or.inr rfl) (s_callTy DE.ok call_tupS rfl (He.free_ok kx G (x := "tuple") (c.a 7 rfl)) (by decide +kernel) (slb_cons (SE.b (SO.e (so_lc rfl sc__law_right.nd (SI.any (si_seq (vE 3))) (own := [(("_law_one" : Str), 12), (("_law_low" : Str), 13), (("_law_high" : Str), 14)]) (blkOk_by (by kernel_rfl)) (tg_t (tgs_cons (j := 12) (tgs_cons (j := 13) (tgs_cons (j := 14) tgs_nil))) rfl) (by decide) (fun s0 H0 C0 cl0 fp0 => (pg_tup rfl (pgs_cons (pgN 12 sc__law_right.nd) (pgs_cons (pgN 13 sc__law_right.nd) (pgs_cons (pgN 14 sc__law_right.nd) pgs_nil))))) (fun s0 H0 C0 cl0 fp0 => sts_nil) (fun s0 H0 C0 cl0 fp0 => (se_tup (sl_cons (vE 12) (sl_cons (vE 13) sl_nil))))))) slb_nil))) (ss_cons (ss_set (i := 11) sc__law_right.nd rfl (by first | exact Or.inl rfl | exact Or.inr rfl) (s_callTy DE.ok call_tupS rfl (He.free_ok kx G (x := "tuple") (c.a 7 rfl)) (by decide +kernel) (slb_cons (SE.b (SO.e (so_lc rfl sc__law_right.nd (SI.any (si_seq (vE 3))) (own := [(("_law_one" : Str), 12), (("_law_low" : Str), 13), (("_law_high" : Str), 14)]) (blkOk_by (by kernel_rfl)) (tg_t (tgs_cons (j := 12) (tgs_cons (j := 13) (tgs_cons (j := 14) tgs_nil))) rfl) (by decide) (fun s0 H0 C0 cl0 fp0 => (pg_tup rfl (pgs_cons (pgN 12 sc__law_right.nd) (pgs_cons (pgN 13 sc__law_right.nd) (pgs_cons (pgN 14 sc__law_right.nd) pgs_nil))))) (fun s0 H0 C0 cl0 fp0 => sts_nil) (fun s0 H0 C0 cl0 fp0 => (se_tup (sl_cons (vE 12) (sl_cons (vE 13) (sl_cons (vE 13) sl_nil)))))))) slb_nil))) (ss_cons (ss_if (st_not (st_cmpE (op2e_eqI (He.meth_ok (x := "Bounds") (m := "__eq__") (c.a 42 rfl)) (ok_Bounds___eq__ kx G c) (hr.mono (by decide)) pasX) (s_cmeth DE.ok (cmB_ok (C := "Bounds") (f := "seen") (c.b 6 rfl)) (ok_Bounds_seen kx G c) (hr.mono (by decide)) pasX (pe_own (He.glo_ok kx G (x := "Bounds") (c.a 24 rfl))) (sl_cons (vE 2) (sl_cons (vE 10) sl_nil))) (SO.e (so_make (ok_Bounds___init__ kx G c) (hr.mono (by decide)) pasX rfl (He.glo_ok kx G (x := "Bounds") (c.a 24 rfl)) (sl_cons (vE 2) (sl_cons (vE 11) sl_nil)))) rfl)) (ss_one (ss_ret DE.ok se_bl)) ss_nil) (ss_one (ss_if (st_not (st_cmpE (op2e_eqI (He.meth_ok (x := "Bounds") (m := "__eq__") (c.a 42 rfl)) (ok_Bounds___eq__ kx G c) (hr.mono (by decide)) pasX) (s_cmethQ DE.ok (by exact cmB_ok (C := "Bounds") (f := "seen") (c.b 6 rfl)) (okq_Bounds_seen_0 kx G c) (hr.mono (by decide)) pasX (pe_own (He.glo_ok kx G (x := "Bounds") (c.a 24 rfl))) (sk_cons (se_tup sl_nil) (sk_cons (vE 2) sk_nil))) (SO.e (so_make (okd_Bounds___init__ kx G c) (hr.mono (by decide)) pasX rfl (He.glo_ok kx G (x := "Bounds") (c.a 24 rfl)) (sl_cons (vE 2) sl_nil))) rfl)) (ss_one (ss_ret DE.ok se_bl)) ss_nil))))))))))))))))))) (ss_one (ss_ret DE.ok (s_cmp DE.ok (op2_eq hr.units) (SE.b (s_callB DE.ok (call_reprA hr) rfl (He.free_ok kx G (x := "repr") (c.a 28 rfl)) (by decide +kernel) (slb_cons (SE.b (s_attr DE.ok (op1_prop (He.cls_ok (x := "Bounds") (c.a 22 rfl)) (propB_ok (C := "Bounds") (f := "ranges") (c.b 1 rfl)) (ok_Bounds_ranges kx G c) (hr.mono (by decide))) (SO.e (so_make (okd_Bounds___init__ kx G c) (hr.mono (by decide)) pasX rfl (He.glo_ok kx G (x := "Bounds") (c.a 24 rfl)) (sl_cons se_int sl_nil))))) slb_nil))) (SE.b se_str) rfl))))
theorem ok__law_jar (kx : K.In h) (G : h.Ns mainGlobals mg) (c : SaysM fa fm fn K) : FnK P w K mg base (DE K) 1 2 ((.g "_law_jar" : Loc3).at_ K) [] c__law_jar := by
  obtain ⟨fd, F⟩ := c.d 30 (d := d__law_jar) rfl
  exact fnk_of (fin := endE) F sc__law_jar rfl (F.bindsN fun _ _ _ _ _ _ us hl => match us, hl with | [_, _], _ => rfl) .nil (fun _ _ => .nil) finE fun cdv A outer s H E hr =>
    (ss_cons (ss_set (i := 2) sc__law_jar.nd rfl (by first | exact Or.inl rfl | exact Or.inr rfl) (s_bin DE.ok op2_add (SE.b (s_bin DE.ok op2_mul (SE.b (s_bin DE.ok op2_mul (SE.b se_int) (SE.b (s_bin DE.ok op2_add (vB 1) (SE.b se_int))))) (SE.b (s_bin DE.ok op2_add (vB 1) (SE.b se_int))))) (SE.b (s_bin DE.ok op2_mul (SE.b se_int) (SE.b (s_callB DE.ok call_lenS rfl (He.free_ok kx G (x := "len") (c.a 0 rfl)) (by decide +kernel) (slb_cons (vB 0) slb_nil))))))) (ss_cons (ss_for ownX rfl (si_seq (se_sl (vB 0) sp_none (sp_some se_int))) (tg_n (j := 3)) (pgN 3 sc__law_jar.nd) (ss_one (ss_set (i := 2) sc__law_jar.nd rfl (by first | exact Or.inl rfl | exact Or.inr rfl) (s_bin DE.ok op2_mod (SE.b (s_callTy DE.ok call_intS rfl (He.free_ok kx G (x := "int") (c.a 4 rfl)) (by decide +kernel) (slb_cons (SE.b (s_bin DE.ok op2_add (SE.b (s_bin DE.ok op2_mul (vB 2) (SE.b se_int))) (vB 3))) slb_nil))) (SE.b se_int))))) (ss_cons (ss_set (i := 4) sc__law_jar.nd rfl (by first | exact Or.inl rfl | exact Or.inr rfl) (s_if DE.ok (st_cmp (op2_lt hr.units0) (vB 1) (SE.b (s_callB DE.ok call_lenS rfl (He.free_ok kx G (x := "len") (c.a 0 rfl)) (by decide +kernel) (slb_cons (vB 0) slb_nil))) rfl) (s_ix (u1 hr) (vB 0) (vB 1)) se_int)) (ss_cons (ss_set (i := 5) sc__law_jar.nd rfl (by first | exact Or.inl rfl | exact Or.inr rfl) (s_if DE.ok (st_w (sw_or (st_cmp (op2_lt hr.units0) (vB 4) (SE.b se_int) rfl) (sw_or1 (st_cmp op2_ge (vB 4) (SE.b (s_bin DE.ok op2_pow (SE.b se_int) (SE.b se_int))) rfl)))) (s_callB DE.ok call_absS rfl (He.free_ok kx G (x := "abs") (c.a 44 rfl)) (by decide +kernel) (slb_cons (vB 4) slb_nil)) se_int)) (ss_one (ss_ret DE.ok (SO.cell (so_lst (sl_cons (vE 5) (sl_cons (s_bin DE.ok op2_mod (SE.b (s_callTy DE.ok call_intS rfl (He.free_ok kx G (x := "int") (c.a 4 rfl)) (by decide +kernel) (slb_cons (SE.b (s_bin DE.ok op2_add (SE.b (s_bin DE.ok op2_add (SE.b (s_bin DE.ok op2_mul (vB 2) (SE.b se_int))) (SE.b (s_bin DE.ok op2_mul (vB 4) (SE.b se_int))))) (SE.b (s_bin DE.ok op2_mul (SE.b se_int) (SE.b (s_bin DE.ok op2_add (vB 1) (SE.b se_int))))))) slb_nil))) (SE.b se_int)) (sl_cons se_int sl_nil)))))))))))
theorem ok_law {fd : FuncData} (kx : K.In h) (G : h.Ns mainGlobals mg) (c : SaysM fa fm fn K) (F : FunD K d_law.name d_law.qual d_law.params d_law.body d_law.scope (d_law.dvs K) (d_law.kws K) (d_law.loc.at_ K) fd) : MP.FnOk P w K mg base (L2.CX P w) 9 (He.ga K "law") fd ["_law_script"] (spD K (DE K) 1 c_law) :=
  fnok_of (fin := endE) F sc_law rfl finE fun cdv A outer s H E hr =>
    (ss_one (ss_ret DE.ok (s_callB DE.ok (call_allS rfl) rfl (He.free_ok kx G (x := "all") (c.a 17 rfl)) (by decide +kernel) (slb_cons (SE.b (SO.e (so_lc rfl sc_law.nd (SI.any (si_rng1 (s_callB DE.ok (call_maxS rfl) rfl (He.free_ok kx G (x := "max") (c.a 2 rfl)) (by decide +kernel) (slb_cons (SE.b se_int) (slb_cons (SE.b (s_callB DE.ok (call_minS rfl) rfl (He.free_ok kx G (x := "min") (c.a 1 rfl)) (by decide +kernel) (slb_cons (SE.b (s_callB DE.ok call_lenS rfl (He.free_ok kx G (x := "len") (c.a 0 rfl)) (by decide +kernel) (slb_cons (vB 0) slb_nil))) (slb_cons (SE.b se_int) slb_nil)))) slb_nil))) rfl (He.free_ok kx G (x := "range") (c.a 3 rfl)))) (own := [(("_law_k" : Str), 1)]) (blkOk_by (by kernel_rfl)) (tg_n (j := 1)) (by decide) (fun s0 H0 C0 cl0 fp0 => (pgN 1 sc_law.nd)) (fun s0 H0 C0 cl0 fp0 => sts_nil) (fun s0 H0 C0 cl0 fp0 => (s_call DE.ok (ok__law_right kx G c) (hr.mono (by decide)) pas_no rfl (He.glo_ok kx G (x := "_law_right") (c.a 46 rfl)) (sl_cons (s_call DE.ok (ok__law_jar kx G c) (hr.mono (by decide)) pas_no rfl (He.glo_ok kx G (x := "_law_jar") (c.a 45 rfl)) (sl_cons (vE 0) (sl_cons (vE 1) sl_nil))) sl_nil)))))) slb_nil))))
end
theorem law_F {w : World} {K : PySem.W.Frag} {h : Heap} {mg : Str → Option Value} (kx : K.In h) (G : h.Ns mainGlobals mg) (c : SaysM fa fm fn K) :
    ∃ (K' : PySem.W.Frag) (fd : FuncData) (sp : Sp), K'.In h ∧ (∀ (s : Shared) (u : Value), BindsTo s fd ⟨[u], []⟩ [("_law_script", u)]) ∧
      (∀ (H : Hp) (a : Addr) (ns : List Int), ns.length ≤ 63 → Only H → SqL K' H a (ns.map V.int) → sp [.ref a] H (fun v _ => v = .bl true) fun _ _ _ => False) ∧
      ∀ base : Heap, K'.In base → base.Ns mainGlobals mg → MP.FnOk (PySem.Challenge.rw_haulprices_k08_bounds_and_texts).prog w K' mg base (CXa (PySem.Challenge.rw_haulprices_k08_bounds_and_texts).prog) 9 (He.ga K "law") fd ["_law_script"] sp := by
  obtain ⟨fd, F⟩ := c.d 31 (d := d_law) rfl
  refine ⟨K, fd, spD K (DE K) 1 c_law, kx, fun s u => ?_, fun H a ns hl _ hS => law_sp hS (law_ok hl), fun base hb hm => ?_⟩
  · exact FunD.bindsA (ps := ["_law_script"]) F (fun _ _ _ _ _ _ us hl => match us, hl with | [_], _ => rfl) s [u] rfl
  · exact fn_any (ok_law kx G c F)
end HP
set_option maxRecDepth 100000
set_option maxHeartbeats 0
namespace HP
open PySem PySem.W PySem.Calls PyProof.Rows MP HandSHeadRun HQ
noncomputable section
abbrev PG : Program := PySem.Challenge.pw_haulprices_k08_bounds_and_texts
theorem bootN_ok (w : World) : bootN w = some 11 := by kernel_rfl
def o1_0 (w : World) : Obj := (.mk (.type "dict") none (.dict (.mk (.cons (.mk (HQ.hS w "__name__") (.str "__name__" 1) (.str "builtins" 160)) (.cons (.mk (HQ.hS w "__doc__") (.str "__doc__" 2) (.builtin "builtins.__doc__:str#opaque")) (.cons (.mk (HQ.hS w "__package__") (.str "__package__" 3) (.builtin "builtins.__package__:str#opaque")) (.cons (.mk (HQ.hS w "__loader__") (.str "__loader__" 4) (.builtin "builtins.__loader__:shared#opaque")) (.cons (.mk (HQ.hS w "__spec__") (.str "__spec__" 5) (.builtin "builtins.__spec__#opaque")) (.cons (.mk (HQ.hS w "__build_class__") (.str "__build_class__" 6) (.builtin "__build_class__")) (.cons (.mk (HQ.hS w "__import__") (.str "__import__" 7) (.builtin "__import__")) (.cons (.mk (HQ.hS w "abs") (.str "abs" 8) (.builtin "abs")) (.cons (.mk (HQ.hS w "all") (.str "all" 9) (.builtin "all")) (.cons (.mk (HQ.hS w "any") (.str "any" 10) (.builtin "any")) (.cons (.mk (HQ.hS w "ascii") (.str "ascii" 11) (.builtin "ascii")) (.cons (.mk (HQ.hS w "bin") (.str "bin" 12) (.builtin "bin")) (.cons (.mk (HQ.hS w "breakpoint") (.str "breakpoint" 13) (.builtin "breakpoint")) (.cons (.mk (HQ.hS w "callable") (.str "callable" 14) (.builtin "callable")) (.cons (.mk (HQ.hS w "chr") (.str "chr" 15) (.builtin "chr")) (.cons (.mk (HQ.hS w "compile") (.str "compile" 16) (.builtin "compile")) (.cons (.mk (HQ.hS w "delattr") (.str "delattr" 17) (.builtin "delattr")) (.cons (.mk (HQ.hS w "dir") (.str "dir" 18) (.builtin "dir")) (.cons (.mk (HQ.hS w "divmod") (.str "divmod" 19) (.builtin "divmod")) (.cons (.mk (HQ.hS w "eval") (.str "eval" 20) (.builtin "eval")) (.cons (.mk (HQ.hS w "exec") (.str "exec" 21) (.builtin "exec")) (.cons (.mk (HQ.hS w "format") (.str "format" 22) (.builtin "format")) (.cons (.mk (HQ.hS w "getattr") (.str "getattr" 23) (.builtin "getattr")) (.cons (.mk (HQ.hS w "globals") (.str "globals" 24) (.builtin "globals")) (.cons (.mk (HQ.hS w "hasattr") (.str "hasattr" 25) (.builtin "hasattr")) (.cons (.mk (HQ.hS w "hash") (.str "hash" 26) (.builtin "hash")) (.cons (.mk (HQ.hS w "hex") (.str "hex" 27) (.builtin "hex")) (.cons (.mk (HQ.hS w "id") (.str "id" 28) (.builtin "id")) (.cons (.mk (HQ.hS w "input") (.str "input" 29) (.builtin "input")) (.cons (.mk (HQ.hS w "isinstance") (.str "isinstance" 30) (.builtin "isinstance")) (.cons (.mk (HQ.hS w "issubclass") (.str "issubclass" 31) (.builtin "issubclass")) (.cons (.mk (HQ.hS w "iter") (.str "iter" 32) (.builtin "iter")) (.cons (.mk (HQ.hS w "aiter") (.str "aiter" 33) (.builtin "aiter")) (.cons (.mk (HQ.hS w "len") (.str "len" 34) (.builtin "len")) (.cons (.mk (HQ.hS w "locals") (.str "locals" 35) (.builtin "locals")) (.cons (.mk (HQ.hS w "max") (.str "max" 36) (.builtin "max")) (.cons (.mk (HQ.hS w "min") (.str "min" 37) (.builtin "min")) (.cons (.mk (HQ.hS w "next") (.str "next" 38) (.builtin "next")) (.cons (.mk (HQ.hS w "anext") (.str "anext" 39) (.builtin "anext")) (.cons (.mk (HQ.hS w "oct") (.str "oct" 40) (.builtin "oct")) (.cons (.mk (HQ.hS w "ord") (.str "ord" 41) (.builtin "ord")) (.cons (.mk (HQ.hS w "pow") (.str "pow" 42) (.builtin "pow")) (.cons (.mk (HQ.hS w "print") (.str "print" 43) (.builtin "print")) (.cons (.mk (HQ.hS w "repr") (.str "repr" 44) (.builtin "repr")) (.cons (.mk (HQ.hS w "round") (.str "round" 45) (.builtin "round")) (.cons (.mk (HQ.hS w "setattr") (.str "setattr" 46) (.builtin "setattr")) (.cons (.mk (HQ.hS w "sorted") (.str "sorted" 47) (.builtin "sorted")) (.cons (.mk (HQ.hS w "sum") (.str "sum" 48) (.builtin "sum")) (.cons (.mk (HQ.hS w "vars") (.str "vars" 49) (.builtin "vars")) (.cons (.mk (HQ.hS w "None") (.str "None" 50) .none) (.cons (.mk (HQ.hS w "Ellipsis") (.str "Ellipsis" 51) .ellipsis) (.cons (.mk (HQ.hS w "NotImplemented") (.str "NotImplemented" 52) .notImplemented) (.cons (.mk (HQ.hS w "False") (.str "False" 53) (.bool false)) (.cons (.mk (HQ.hS w "True") (.str "True" 54) (.bool true)) (.cons (.mk (HQ.hS w "bool") (.str "bool" 55) (.type "bool")) (.cons (.mk (HQ.hS w "memoryview") (.str "memoryview" 56) (.type "memoryview")) (.cons (.mk (HQ.hS w "bytearray") (.str "bytearray" 57) (.type "bytearray")) (.cons (.mk (HQ.hS w "bytes") (.str "bytes" 58) (.type "bytes")) (.cons (.mk (HQ.hS w "classmethod") (.str "classmethod" 59) (.type "classmethod")) (.cons (.mk (HQ.hS w "complex") (.str "complex" 60) (.type "complex")) (.cons (.mk (HQ.hS w "dict") (.str "dict" 61) (.type "dict")) (.cons (.mk (HQ.hS w "enumerate") (.str "enumerate" 62) (.type "enumerate")) (.cons (.mk (HQ.hS w "filter") (.str "filter" 63) (.type "filter")) (.cons (.mk (HQ.hS w "float") (.str "float" 64) (.type "float")) (.cons (.mk (HQ.hS w "frozenset") (.str "frozenset" 65) (.type "frozenset")) (.cons (.mk (HQ.hS w "property") (.str "property" 66) (.type "property")) (.cons (.mk (HQ.hS w "int") (.str "int" 67) (.type "int")) (.cons (.mk (HQ.hS w "list") (.str "list" 68) (.type "list")) (.cons (.mk (HQ.hS w "map") (.str "map" 69) (.type "map")) (.cons (.mk (HQ.hS w "object") (.str "object" 70) (.type "object")) (.cons (.mk (HQ.hS w "range") (.str "range" 71) (.type "range")) (.cons (.mk (HQ.hS w "reversed") (.str "reversed" 72) (.type "reversed")) (.cons (.mk (HQ.hS w "set") (.str "set" 73) (.type "set")) (.cons (.mk (HQ.hS w "slice") (.str "slice" 74) (.type "slice")) (.cons (.mk (HQ.hS w "staticmethod") (.str "staticmethod" 75) (.type "staticmethod")) (.cons (.mk (HQ.hS w "str") (.str "str" 76) (.type "str")) (.cons (.mk (HQ.hS w "super") (.str "super" 77) (.type "super")) (.cons (.mk (HQ.hS w "tuple") (.str "tuple" 78) (.type "tuple")) (.cons (.mk (HQ.hS w "type") (.str "type" 79) (.type "type")) (.cons (.mk (HQ.hS w "zip") (.str "zip" 80) (.type "zip")) (.cons (.mk (HQ.hS w "__debug__") (.str "__debug__" 81) (.bool true)) (.cons (.mk (HQ.hS w "BaseException") (.str "BaseException" 82) (.type "BaseException")) (.cons (.mk (HQ.hS w "BaseExceptionGroup") (.str "BaseExceptionGroup" 83) (.type "BaseExceptionGroup")) (.cons (.mk (HQ.hS w "Exception") (.str "Exception" 84) (.type "Exception")) (.cons (.mk (HQ.hS w "GeneratorExit") (.str "GeneratorExit" 85) (.type "GeneratorExit")) (.cons (.mk (HQ.hS w "KeyboardInterrupt") (.str "KeyboardInterrupt" 86) (.type "KeyboardInterrupt")) (.cons (.mk (HQ.hS w "SystemExit") (.str "SystemExit" 87) (.type "SystemExit")) (.cons (.mk (HQ.hS w "ArithmeticError") (.str "ArithmeticError" 88) (.type "ArithmeticError")) (.cons (.mk (HQ.hS w "AssertionError") (.str "AssertionError" 89) (.type "AssertionError")) (.cons (.mk (HQ.hS w "AttributeError") (.str "AttributeError" 90) (.type "AttributeError")) (.cons (.mk (HQ.hS w "BufferError") (.str "BufferError" 91) (.type "BufferError")) (.cons (.mk (HQ.hS w "EOFError") (.str "EOFError" 92) (.type "EOFError")) (.cons (.mk (HQ.hS w "ImportError") (.str "ImportError" 93) (.type "ImportError")) (.cons (.mk (HQ.hS w "LookupError") (.str "LookupError" 94) (.type "LookupError")) (.cons (.mk (HQ.hS w "MemoryError") (.str "MemoryError" 95) (.type "MemoryError")) (.cons (.mk (HQ.hS w "NameError") (.str "NameError" 96) (.type "NameError")) (.cons (.mk (HQ.hS w "OSError") (.str "OSError" 97) (.type "OSError")) (.cons (.mk (HQ.hS w "ReferenceError") (.str "ReferenceError" 98) (.type "ReferenceError")) (.cons (.mk (HQ.hS w "RuntimeError") (.str "RuntimeError" 99) (.type "RuntimeError")) (.cons (.mk (HQ.hS w "StopAsyncIteration") (.str "StopAsyncIteration" 100) (.type "StopAsyncIteration")) (.cons (.mk (HQ.hS w "StopIteration") (.str "StopIteration" 101) (.type "StopIteration")) (.cons (.mk (HQ.hS w "SyntaxError") (.str "SyntaxError" 102) (.type "SyntaxError")) (.cons (.mk (HQ.hS w "SystemError") (.str "SystemError" 103) (.type "SystemError")) (.cons (.mk (HQ.hS w "TypeError") (.str "TypeError" 104) (.type "TypeError")) (.cons (.mk (HQ.hS w "ValueError") (.str "ValueError" 105) (.type "ValueError")) (.cons (.mk (HQ.hS w "Warning") (.str "Warning" 106) (.type "Warning")) (.cons (.mk (HQ.hS w "FloatingPointError") (.str "FloatingPointError" 107) (.type "FloatingPointError")) (.cons (.mk (HQ.hS w "OverflowError") (.str "OverflowError" 108) (.type "OverflowError")) (.cons (.mk (HQ.hS w "ZeroDivisionError") (.str "ZeroDivisionError" 109) (.type "ZeroDivisionError")) (.cons (.mk (HQ.hS w "BytesWarning") (.str "BytesWarning" 110) (.type "BytesWarning")) (.cons (.mk (HQ.hS w "DeprecationWarning") (.str "DeprecationWarning" 111) (.type "DeprecationWarning")) (.cons (.mk (HQ.hS w "EncodingWarning") (.str "EncodingWarning" 112) (.type "EncodingWarning")) (.cons (.mk (HQ.hS w "FutureWarning") (.str "FutureWarning" 113) (.type "FutureWarning")) (.cons (.mk (HQ.hS w "ImportWarning") (.str "ImportWarning" 114) (.type "ImportWarning")) (.cons (.mk (HQ.hS w "PendingDeprecationWarning") (.str "PendingDeprecationWarning" 115) (.type "PendingDeprecationWarning")) (.cons (.mk (HQ.hS w "ResourceWarning") (.str "ResourceWarning" 116) (.type "ResourceWarning")) (.cons (.mk (HQ.hS w "RuntimeWarning") (.str "RuntimeWarning" 117) (.type "RuntimeWarning")) (.cons (.mk (HQ.hS w "SyntaxWarning") (.str "SyntaxWarning" 118) (.type "SyntaxWarning")) (.cons (.mk (HQ.hS w "UnicodeWarning") (.str "UnicodeWarning" 119) (.type "UnicodeWarning")) (.cons (.mk (HQ.hS w "UserWarning") (.str "UserWarning" 120) (.type "UserWarning")) (.cons (.mk (HQ.hS w "BlockingIOError") (.str "BlockingIOError" 121) (.type "BlockingIOError")) (.cons (.mk (HQ.hS w "ChildProcessError") (.str "ChildProcessError" 122) (.type "ChildProcessError")) (.cons (.mk (HQ.hS w "ConnectionError") (.str "ConnectionError" 123) (.type "ConnectionError")) (.cons (.mk (HQ.hS w "FileExistsError") (.str "FileExistsError" 124) (.type "FileExistsError")) (.cons (.mk (HQ.hS w "FileNotFoundError") (.str "FileNotFoundError" 125) (.type "FileNotFoundError")) (.cons (.mk (HQ.hS w "InterruptedError") (.str "InterruptedError" 126) (.type "InterruptedError")) (.cons (.mk (HQ.hS w "IsADirectoryError") (.str "IsADirectoryError" 127) (.type "IsADirectoryError")) (.cons (.mk (HQ.hS w "NotADirectoryError") (.str "NotADirectoryError" 128) (.type "NotADirectoryError")) (.cons (.mk (HQ.hS w "PermissionError") (.str "PermissionError" 129) (.type "PermissionError")) (.cons (.mk (HQ.hS w "ProcessLookupError") (.str "ProcessLookupError" 130) (.type "ProcessLookupError")) (.cons (.mk (HQ.hS w "TimeoutError") (.str "TimeoutError" 131) (.type "TimeoutError")) (.cons (.mk (HQ.hS w "IndentationError") (.str "IndentationError" 132) (.type "IndentationError")) (.cons (.mk (HQ.hS w "_IncompleteInputError") (.str "_IncompleteInputError" 133) (.type "_IncompleteInputError")) (.cons (.mk (HQ.hS w "IndexError") (.str "IndexError" 134) (.type "IndexError")) (.cons (.mk (HQ.hS w "KeyError") (.str "KeyError" 135) (.type "KeyError")) (.cons (.mk (HQ.hS w "ModuleNotFoundError") (.str "ModuleNotFoundError" 136) (.type "ModuleNotFoundError")) (.cons (.mk (HQ.hS w "NotImplementedError") (.str "NotImplementedError" 137) (.type "NotImplementedError")) (.cons (.mk (HQ.hS w "PythonFinalizationError") (.str "PythonFinalizationError" 138) (.type "PythonFinalizationError")) (.cons (.mk (HQ.hS w "RecursionError") (.str "RecursionError" 139) (.type "RecursionError")) (.cons (.mk (HQ.hS w "UnboundLocalError") (.str "UnboundLocalError" 140) (.type "UnboundLocalError")) (.cons (.mk (HQ.hS w "UnicodeError") (.str "UnicodeError" 141) (.type "UnicodeError")) (.cons (.mk (HQ.hS w "BrokenPipeError") (.str "BrokenPipeError" 142) (.type "BrokenPipeError")) (.cons (.mk (HQ.hS w "ConnectionAbortedError") (.str "ConnectionAbortedError" 143) (.type "ConnectionAbortedError")) (.cons (.mk (HQ.hS w "ConnectionRefusedError") (.str "ConnectionRefusedError" 144) (.type "ConnectionRefusedError")) (.cons (.mk (HQ.hS w "ConnectionResetError") (.str "ConnectionResetError" 145) (.type "ConnectionResetError")) (.cons (.mk (HQ.hS w "TabError") (.str "TabError" 146) (.type "TabError")) (.cons (.mk (HQ.hS w "UnicodeDecodeError") (.str "UnicodeDecodeError" 147) (.type "UnicodeDecodeError")) (.cons (.mk (HQ.hS w "UnicodeEncodeError") (.str "UnicodeEncodeError" 148) (.type "UnicodeEncodeError")) (.cons (.mk (HQ.hS w "UnicodeTranslateError") (.str "UnicodeTranslateError" 149) (.type "UnicodeTranslateError")) (.cons (.mk (HQ.hS w "ExceptionGroup") (.str "ExceptionGroup" 150) (.type "ExceptionGroup")) (.cons (.mk (HQ.hS w "EnvironmentError") (.str "EnvironmentError" 151) (.type "OSError")) (.cons (.mk (HQ.hS w "IOError") (.str "IOError" 152) (.type "OSError")) (.cons (.mk (HQ.hS w "open") (.str "open" 153) (.builtin "open")) (.cons (.mk (HQ.hS w "quit") (.str "quit" 154) (.builtin "builtins.quit#opaque")) (.cons (.mk (HQ.hS w "exit") (.str "exit" 155) (.builtin "builtins.exit#opaque")) (.cons (.mk (HQ.hS w "copyright") (.str "copyright" 156) (.builtin "builtins.copyright#opaque")) (.cons (.mk (HQ.hS w "credits") (.str "credits" 157) (.builtin "builtins.credits#opaque")) (.cons (.mk (HQ.hS w "license") (.str "license" 158) (.builtin "builtins.license#opaque")) (.cons (.mk (HQ.hS w "help") (.str "help" 159) (.builtin "builtins.help#opaque")) [])))))))))))))))))))))))))))))))))))))))))))))))))))))))))))))))))))))))))))))))))))))))))))))))))))))))))))))))))))))))))))))))))))))))))))))))))))))))))))))))) 159) (.mk []))
def o1_1 (w : World) : Obj := (.mk (.type "dict") none (.dict (.mk [(.mk (HQ.hS w "builtins") (.str "builtins" 162) (.ref 4)), (.mk (HQ.hS w "__main__") (.str "__main__" 163) (.ref 5))]) 2) (.mk []))
def o1_2 (w : World) : Obj := (.mk .none none (.dict (.mk []) 0) (.mk []))
def o1_3 (w : World) : Obj := (.mk (.type "dict") none (.dict (.mk (.cons (.mk (HQ.hS w "__name__") (.str "__name__" 165) (.str "law_haulprices_k08_bounds_and_texts" 586)) (.cons (.mk (HQ.hS w "__doc__") (.str "__doc__" 166) .none) (.cons (.mk (HQ.hS w "__package__") (.str "__package__" 167) .none) (.cons (.mk (HQ.hS w "__loader__") (.str "__loader__" 168) (.builtin "__main__.__loader__#opaque")) (.cons (.mk (HQ.hS w "__spec__") (.str "__spec__" 169) .none) (.cons (.mk (HQ.hS w "__annotations__") (.str "__annotations__" 170) (.ref 6)) (.cons (.mk (HQ.hS w "__builtins__") (.str "__builtins__" 171) (.ref 4)) (.cons (.mk (HQ.hS w "__file__") (.str "__file__" 173) (.str "/claim/cut.py" 172)) (.cons (.mk (HQ.hS w "__cached__") (.str "__cached__" 174) .none) (.cons (.mk (HQ.hS w "WrongValue") (.str "WrongValue" 206) (.ref 24)) (.cons (.mk (HQ.hS w "InvalidStops") (.str "InvalidStops" 231) (.ref 44)) (.cons (.mk (HQ.hS w "InvalidHaul") (.str "InvalidHaul" 256) (.ref 63)) (.cons (.mk (HQ.hS w "InvalidText") (.str "InvalidText" 281) (.ref 82)) (.cons (.mk (HQ.hS w "InvalidRanges") (.str "InvalidRanges" 306) (.ref 101)) (.cons (.mk (HQ.hS w "InvalidTickets") (.str "InvalidTickets" 331) (.ref 120)) (.cons (.mk (HQ.hS w "WrongRow") (.str "WrongRow" 356) (.ref 139)) (.cons (.mk (HQ.hS w "MOST_STOPS") (.str "MOST_STOPS" 358) (.int (Int.ofNat 10) 357)) (.cons (.mk (HQ.hS w "MOST_PRICE") (.str "MOST_PRICE" 362) (.int (Int.ofNat 1000000000000) 361)) (.cons (.mk (HQ.hS w "is_integer") (.str "is_integer" 371) (.ref 148)) (.cons (.mk (HQ.hS w "is_within") (.str "is_within" 380) (.ref 155)) (.cons (.mk (HQ.hS w "is_price") (.str "is_price" 387) (.ref 162)) (.cons (.mk (HQ.hS w "is_haul") (.str "is_haul" 393) (.ref 167)) (.cons (.mk (HQ.hS w "hauls_of") (.str "hauls_of" 399) (.ref 172)) (.cons (.mk (HQ.hS w "check_stops") (.str "check_stops" 406) (.ref 179)) (.cons (.mk (HQ.hS w "check_haul") (.str "check_haul" 414) (.ref 186)) (.cons (.mk (HQ.hS w "DIGITS") (.str "DIGITS" 418) (.str "0123456789" 417)) (.cons (.mk (HQ.hS w "is_range") (.str "is_range" 426) (.ref 193)) (.cons (.mk (HQ.hS w "number_in") (.str "number_in" 432) (.ref 198)) (.cons (.mk (HQ.hS w "stops_in") (.str "stops_in" 441) (.ref 205)) (.cons (.mk (HQ.hS w "range_in") (.str "range_in" 447) (.ref 210)) (.cons (.mk (HQ.hS w "Bounds") (.str "Bounds" 585) (.ref 299)) (.cons (.mk (HQ.hS w "_law_jar") (.str "_law_jar" 599) (.ref 310)) (.cons (.mk (HQ.hS w "_law_dip") (.str "_law_dip" 609) (.ref 317)) (.cons (.mk (HQ.hS w "_law_pick") (.str "_law_pick" 618) (.ref 324)) (.cons (.mk (HQ.hS w "_law_rides") (.str "_law_rides" 624) (.ref 329)) (.cons (.mk (HQ.hS w "_law_spans") (.str "_law_spans" 637) (.ref 336)) (.cons (.mk (HQ.hS w "_law_lows") (.str "_law_lows" 650) (.ref 343)) (.cons (.mk (HQ.hS w "_law_page") (.str "_law_page" 662) (.ref 350)) (.cons (.mk (HQ.hS w "_law_is_frame") (.str "_law_is_frame" 674) (.ref 357)) (.cons (.mk (HQ.hS w "_law_right") (.str "_law_right" 680) (.ref 362)) []))))))))))))))))))))))))))))))))))))))))) 40) (.mk []))
def o1_4 (w : World) : Obj := (.mk (.type "module") (some 0) .plain (.mk []))
def o1_5 (w : World) : Obj := (.mk (.type "module") (some 3) .plain (.mk []))
def o1_6 (w : World) : Obj := (.mk (.type "dict") none (.dict (.mk []) 0) (.mk []))
def o1_7 (w : World) : Obj := (.mk (.type "tuple") none (.seq (.mk []) 0) (.mk []))
def o1_8 (w : World) : Obj := (.mk .none none (.fields (.mk [])) (.mk []))
def o1_9 (w : World) : Obj := (.mk (.type "code") none (.fields (.mk [(.str "<module>" 176), (.str "<module>" 177), (.str "/claim/cut.py" 178), (.int (Int.ofNat 1) 0), (.int (Int.ofNat 0) 0), (.int (Int.ofNat 0) 0), (.int (Int.ofNat 0) 0), (.int (Int.ofNat 0) 0), (.ref 7), (.bool false), (.int (Int.ofNat 175) 0), (.ref 8), .none, .none, .none, .none, (.int (Int.ofNat 179) 0), (.int (Int.ofNat 1) 0), (.str "/claim/cut.py" 180)])) (.mk []))
def o1_10 (w : World) : Obj := (.mk (.type "frame") none .plain (.mk [(some (.ref 9)), (some (.ref 3)), (some (.ref 3)), none, (some (.str "__main__" 164)), none, (some (.ref 0))]))
def o1_11 (w : World) : Obj := (.mk (.type "tuple") none (.seq (.mk []) 0) (.mk []))
def o1_12 (w : World) : Obj := (.mk .none none (.fields (.mk (.cons (.int (Int.ofNat 2) 0) (.cons (.int (Int.ofNat 0) 0) (.cons (.ref 20) (.cons (.int (Int.ofNat 4) 0) (.cons (.int (Int.ofNat 0) 0) (.cons (.ref 33) (.cons (.int (Int.ofNat 8) 0) (.cons (.int (Int.ofNat 0) 0) (.cons (.ref 52) (.cons (.int (Int.ofNat 12) 0) (.cons (.int (Int.ofNat 0) 0) (.cons (.ref 71) (.cons (.int (Int.ofNat 16) 0) (.cons (.int (Int.ofNat 0) 0) (.cons (.ref 90) (.cons (.int (Int.ofNat 20) 0) (.cons (.int (Int.ofNat 0) 0) (.cons (.ref 109) (.cons (.int (Int.ofNat 24) 0) (.cons (.int (Int.ofNat 0) 0) (.cons (.ref 128) (.cons (.int (Int.ofNat 31) 0) (.cons (.int (Int.ofNat 0) 0) (.cons (.ref 147) (.cons (.int (Int.ofNat 33) 0) (.cons (.int (Int.ofNat 0) 0) (.cons (.ref 154) (.cons (.int (Int.ofNat 35) 0) (.cons (.int (Int.ofNat 0) 0) (.cons (.ref 161) (.cons (.int (Int.ofNat 37) 0) (.cons (.int (Int.ofNat 0) 0) (.cons (.ref 166) (.cons (.int (Int.ofNat 41) 0) (.cons (.int (Int.ofNat 0) 0) (.cons (.ref 171) (.cons (.int (Int.ofNat 46) 0) (.cons (.int (Int.ofNat 0) 0) (.cons (.ref 178) (.cons (.int (Int.ofNat 49) 0) (.cons (.int (Int.ofNat 0) 0) (.cons (.ref 185) (.cons (.int (Int.ofNat 54) 0) (.cons (.int (Int.ofNat 0) 0) (.cons (.ref 192) (.cons (.int (Int.ofNat 58) 0) (.cons (.int (Int.ofNat 0) 0) (.cons (.ref 197) (.cons (.int (Int.ofNat 62) 0) (.cons (.int (Int.ofNat 0) 0) (.cons (.ref 204) (.cons (.int (Int.ofNat 66) 0) (.cons (.int (Int.ofNat 0) 0) (.cons (.ref 209) (.cons (.int (Int.ofNat 73) 0) (.cons (.int (Int.ofNat 0) 0) (.cons (.ref 216) (.cons (.int (Int.ofNat 143) 0) (.cons (.int (Int.ofNat 0) 0) (.cons (.ref 309) (.cons (.int (Int.ofNat 150) 0) (.cons (.int (Int.ofNat 0) 0) (.cons (.ref 316) (.cons (.int (Int.ofNat 159) 0) (.cons (.int (Int.ofNat 0) 0) (.cons (.ref 323) (.cons (.int (Int.ofNat 162) 0) (.cons (.int (Int.ofNat 0) 0) (.cons (.ref 328) (.cons (.int (Int.ofNat 167) 0) (.cons (.int (Int.ofNat 0) 0) (.cons (.ref 335) (.cons (.int (Int.ofNat 175) 0) (.cons (.int (Int.ofNat 0) 0) (.cons (.ref 342) (.cons (.int (Int.ofNat 182) 0) (.cons (.int (Int.ofNat 0) 0) (.cons (.ref 349) (.cons (.int (Int.ofNat 187) 0) (.cons (.int (Int.ofNat 0) 0) (.cons (.ref 356) (.cons (.int (Int.ofNat 195) 0) (.cons (.int (Int.ofNat 0) 0) (.cons (.ref 361) [])))))))))))))))))))))))))))))))))))))))))))))))))))))))))))))))))))))))))))))))))))))) (.mk []))
def o1_13 (w : World) : Obj := (.mk (.type "code") none (.fields (.mk [(.str "<module>" 182), (.str "<module>" 183), (.str "/claim/cut.py" 184), (.int (Int.ofNat 1) 0), (.int (Int.ofNat 0) 0), (.int (Int.ofNat 0) 0), (.int (Int.ofNat 0) 0), (.int (Int.ofNat 0) 0), (.ref 11), (.bool false), (.int (Int.ofNat 181) 0), (.ref 12), .none, .none, .none, .none, (.int (Int.ofNat 185) 0), (.int (Int.ofNat 1) 0), (.str "/claim/cut.py" 186)])) (.mk []))
def o1_14 (w : World) : Obj := (.mk (.type "frame") none .plain (.mk [(some (.ref 13)), (some (.ref 3)), (some (.ref 3)), none, (some (.str "__main__" 164)), none, (some (.ref 0))]))
def o1_15 (w : World) : Obj := (.mk (.type "tuple") none (.seq (.mk [(.type "ValueError")]) 0) (.mk []))
def o1_16 (w : World) : Obj := (.mk (.type "builtin_function_or_method") none (.fields (.mk [(.builtin "type.__prepare__"), (.type "type")])) (.mk []))
def o1_17 (w : World) : Obj := (.mk (.type "dict") none (.dict (.mk [(.mk (HQ.hS w "__module__") (.str "__module__" 196) (.str "haulprices.errors" 187)), (.mk (HQ.hS w "__qualname__") (.str "__qualname__" 198) (.str "WrongValue" 197)), (.mk (HQ.hS w "__firstlineno__") (.str "__firstlineno__" 200) (.int (Int.ofNat 2) 199)), (.mk (HQ.hS w "__static_attributes__") (.str "__static_attributes__" 201) (.ref 22))]) 4) (.mk []))
def o1_18 (w : World) : Obj := (.mk (.type "tuple") none (.seq (.mk []) 0) (.mk []))
def o1_19 (w : World) : Obj := (.mk .none none (.fields (.mk [])) (.mk []))
def o1_20 (w : World) : Obj := (.mk (.type "code") none (.fields (.mk [(.str "WrongValue" 191), (.str "WrongValue" 192), (.str "/claim/cut.py" 193), (.int (Int.ofNat 2) 0), (.int (Int.ofNat 0) 0), (.int (Int.ofNat 0) 0), (.int (Int.ofNat 0) 0), (.int (Int.ofNat 0) 0), (.ref 18), (.bool false), (.int (Int.ofNat 181) 0), (.ref 19), .none, .none, .none, .none, (.int (Int.ofNat 194) 0), (.int (Int.ofNat 2) 0), (.str "/claim/cut.py" 195)])) (.mk []))
def o1_21 (w : World) : Obj := (.mk (.type "frame") none .plain (.mk [(some (.ref 20)), (some (.ref 3)), (some (.ref 17)), none, (some (.str "haulprices.errors" 187)), none, (some (.ref 0))]))
def o1_22 (w : World) : Obj := (.mk (.type "tuple") none (.seq (.mk []) 0) (.mk []))
def o1_23 (w : World) : Obj := (.mk (.type "dict") none (.dict (.mk [(.mk (HQ.hS w "__module__") (.str "__module__" 196) (.str "haulprices.errors" 187)), (.mk (HQ.hS w "__firstlineno__") (.str "__firstlineno__" 200) (.int (Int.ofNat 2) 199)), (.mk (HQ.hS w "__static_attributes__") (.str "__static_attributes__" 201) (.ref 22)), (.mk (HQ.hS w "__weakref__") (.str "__weakref__" 203) (.ref 25)), (.mk (HQ.hS w "__doc__") (.str "__doc__" 204) .none)]) 3) (.mk []))
def o1_24 (w : World) : Obj := (.mk (.type "type") none (.cls (PySem.ClassData.mk "WrongValue" [(.type "ValueError")] [(.ref 24), (.type "ValueError"), (.type "Exception"), (.type "BaseException"), (.type "object")] 23 "WrongValue" true [] [(.ref 44), (.ref 63), (.ref 82), (.ref 101), (.ref 120), (.ref 139)] false none false)) (.mk [(some (.ref 15)), none, (some (.str "WrongValue" 189)), (some (.str "WrongValue" 197)), (some (.builtin "ValueError.__new__")), (some (.bool true))]))
def o1_25 (w : World) : Obj := (.mk (.type "getset_descriptor") none (.fields (.mk [(.str "__weakref__" 202), (.ref 24), (.builtin "ExceptionGroup.__weakref__"), .none])) (.mk []))
def o1_26 (w : World) : Obj := (.mk (.type "super") none (.fields (.mk [(.ref 24), (.ref 24), (.ref 24)])) (.mk []))
def o1_27 (w : World) : Obj := (.mk (.type "builtin_function_or_method") none (.fields (.mk [(.builtin "object.__init_subclass__"), (.ref 24)])) (.mk []))
def o1_28 (w : World) : Obj := (.mk (.type "tuple") none (.seq (.mk [(.ref 24)]) 0) (.mk []))
def o1_29 (w : World) : Obj := (.mk (.type "builtin_function_or_method") none (.fields (.mk [(.builtin "type.__prepare__"), (.type "type")])) (.mk []))
def o1_30 (w : World) : Obj := (.mk (.type "dict") none (.dict (.mk [(.mk (HQ.hS w "__module__") (.str "__module__" 214) (.str "haulprices.errors" 187)), (.mk (HQ.hS w "__qualname__") (.str "__qualname__" 216) (.str "InvalidStops" 215)), (.mk (HQ.hS w "__firstlineno__") (.str "__firstlineno__" 218) (.int (Int.ofNat 4) 217)), (.mk (HQ.hS w "__init__") (.str "__init__" 226) (.ref 41)), (.mk (HQ.hS w "__static_attributes__") (.str "__static_attributes__" 228) (.ref 42))]) 5) (.mk []))
def o1_31 (w : World) : Obj := (.mk (.type "tuple") none (.seq (.mk []) 0) (.mk []))
def o1_32 (w : World) : Obj := (.mk .none none (.fields (.mk [(.int (Int.ofNat 6) 0), (.int (Int.ofNat 4) 0), (.ref 40)])) (.mk []))
def o1_33 (w : World) : Obj := (.mk (.type "code") none (.fields (.mk [(.str "InvalidStops" 209), (.str "InvalidStops" 210), (.str "/claim/cut.py" 211), (.int (Int.ofNat 4) 0), (.int (Int.ofNat 0) 0), (.int (Int.ofNat 0) 0), (.int (Int.ofNat 0) 0), (.int (Int.ofNat 0) 0), (.ref 31), (.bool false), (.int (Int.ofNat 181) 0), (.ref 32), .none, .none, .none, .none, (.int (Int.ofNat 212) 0), (.int (Int.ofNat 4) 0), (.str "/claim/cut.py" 213)])) (.mk []))
def o1_34 (w : World) : Obj := (.mk (.type "frame") none .plain (.mk [(some (.ref 33)), (some (.ref 3)), (some (.ref 30)), none, (some (.str "haulprices.errors" 187)), none, (some (.ref 0))]))
def o1_35 (w : World) : Obj := (.mk (.type "tuple") none (.seq (.mk []) 0) (.mk []))
def o1_36 (w : World) : Obj := (.mk .none none (.fields (.mk [])) (.mk []))
def o1_37 (w : World) : Obj := (.mk (.type "tuple") none (.seq (.mk [(.str "self" 222), (.str "given" 223)]) 0) (.mk []))
def o1_38 (w : World) : Obj := (.mk (.type "tuple") none (.seq (.mk []) 0) (.mk []))
def o1_39 (w : World) : Obj := (.mk .none none (.func (FuncData.mk "__init__" "InvalidStops.__init__" (L2.defArgs ((MP.clsB (HP.top 2)).getD 0 (.Pass ⟨0, 0, 0, 0⟩))) (FuncBody.stmts (L2.defBody ((MP.clsB (HP.top 2)).getD 0 (.Pass ⟨0, 0, 0, 0⟩)))) (L2.defScope ((MP.clsB (HP.top 2)).getD 0 (.Pass ⟨0, 0, 0, 0⟩))) 0 [] .none .none .none .none none .none .none 0)) (.mk []))
def o1_40 (w : World) : Obj := (.mk (.type "code") none (.fields (.mk [(.str "__init__" 219), (.str "InvalidStops.__init__" 220), (.str "/claim/cut.py" 221), (.int (Int.ofNat 6) 0), (.int (Int.ofNat 2) 0), (.int (Int.ofNat 0) 0), (.int (Int.ofNat 0) 0), (.int (Int.ofNat 3) 0), (.ref 35), (.bool true), (.int (Int.ofNat 181) 0), (.ref 36), .none, (.ref 37), (.ref 38), (.ref 39), (.int (Int.ofNat 224) 0), (.int (Int.ofNat 6) 0), (.str "/claim/cut.py" 225)])) (.mk []))
def o1_41 (w : World) : Obj := (.mk (.type "function") none (.func (FuncData.mk "__init__" "InvalidStops.__init__" (L2.defArgs ((MP.clsB (HP.top 2)).getD 0 (.Pass ⟨0, 0, 0, 0⟩))) (FuncBody.stmts (L2.defBody ((MP.clsB (HP.top 2)).getD 0 (.Pass ⟨0, 0, 0, 0⟩)))) (L2.defScope ((MP.clsB (HP.top 2)).getD 0 (.Pass ⟨0, 0, 0, 0⟩))) 3 [] .none .none .none (.str "haulprices.errors" 187) none (.ref 40) .none 0)) (.mk []))
def o1_42 (w : World) : Obj := (.mk (.type "tuple") none (.seq (.mk [(.str "given" 227)]) 0) (.mk []))
def o1_43 (w : World) : Obj := (.mk (.type "dict") none (.dict (.mk [(.mk (HQ.hS w "__module__") (.str "__module__" 214) (.str "haulprices.errors" 187)), (.mk (HQ.hS w "__firstlineno__") (.str "__firstlineno__" 218) (.int (Int.ofNat 4) 217)), (.mk (HQ.hS w "__init__") (.str "__init__" 226) (.ref 41)), (.mk (HQ.hS w "__static_attributes__") (.str "__static_attributes__" 228) (.ref 42)), (.mk (HQ.hS w "__doc__") (.str "__doc__" 229) .none)]) 2) (.mk []))
def o1_44 (w : World) : Obj := (.mk (.type "type") none (.cls (PySem.ClassData.mk "InvalidStops" [(.ref 24)] [(.ref 44), (.ref 24), (.type "ValueError"), (.type "Exception"), (.type "BaseException"), (.type "object")] 43 "InvalidStops" true [] [] false none false)) (.mk [(some (.ref 28)), none, (some (.str "InvalidStops" 207)), (some (.str "InvalidStops" 215)), (some (.builtin "ValueError.__new__")), (some (.bool true))]))
def o1_45 (w : World) : Obj := (.mk (.type "super") none (.fields (.mk [(.ref 44), (.ref 44), (.ref 44)])) (.mk []))
def o1_46 (w : World) : Obj := (.mk (.type "builtin_function_or_method") none (.fields (.mk [(.builtin "object.__init_subclass__"), (.ref 44)])) (.mk []))
def o1_47 (w : World) : Obj := (.mk (.type "tuple") none (.seq (.mk [(.ref 24)]) 0) (.mk []))
def o1_48 (w : World) : Obj := (.mk (.type "builtin_function_or_method") none (.fields (.mk [(.builtin "type.__prepare__"), (.type "type")])) (.mk []))
def o1_49 (w : World) : Obj := (.mk (.type "dict") none (.dict (.mk [(.mk (HQ.hS w "__module__") (.str "__module__" 239) (.str "haulprices.errors" 187)), (.mk (HQ.hS w "__qualname__") (.str "__qualname__" 241) (.str "InvalidHaul" 240)), (.mk (HQ.hS w "__firstlineno__") (.str "__firstlineno__" 243) (.int (Int.ofNat 8) 242)), (.mk (HQ.hS w "__init__") (.str "__init__" 251) (.ref 60)), (.mk (HQ.hS w "__static_attributes__") (.str "__static_attributes__" 253) (.ref 61))]) 5) (.mk []))
def o1_50 (w : World) : Obj := (.mk (.type "tuple") none (.seq (.mk []) 0) (.mk []))
def o1_51 (w : World) : Obj := (.mk .none none (.fields (.mk [(.int (Int.ofNat 10) 0), (.int (Int.ofNat 4) 0), (.ref 59)])) (.mk []))
def o1_52 (w : World) : Obj := (.mk (.type "code") none (.fields (.mk [(.str "InvalidHaul" 234), (.str "InvalidHaul" 235), (.str "/claim/cut.py" 236), (.int (Int.ofNat 8) 0), (.int (Int.ofNat 0) 0), (.int (Int.ofNat 0) 0), (.int (Int.ofNat 0) 0), (.int (Int.ofNat 0) 0), (.ref 50), (.bool false), (.int (Int.ofNat 181) 0), (.ref 51), .none, .none, .none, .none, (.int (Int.ofNat 237) 0), (.int (Int.ofNat 8) 0), (.str "/claim/cut.py" 238)])) (.mk []))
def o1_53 (w : World) : Obj := (.mk (.type "frame") none .plain (.mk [(some (.ref 52)), (some (.ref 3)), (some (.ref 49)), none, (some (.str "haulprices.errors" 187)), none, (some (.ref 0))]))
def o1_54 (w : World) : Obj := (.mk (.type "tuple") none (.seq (.mk []) 0) (.mk []))
def o1_55 (w : World) : Obj := (.mk .none none (.fields (.mk [])) (.mk []))
def o1_56 (w : World) : Obj := (.mk (.type "tuple") none (.seq (.mk [(.str "self" 247), (.str "given" 248)]) 0) (.mk []))
def o1_57 (w : World) : Obj := (.mk (.type "tuple") none (.seq (.mk []) 0) (.mk []))
def o1_58 (w : World) : Obj := (.mk .none none (.func (FuncData.mk "__init__" "InvalidHaul.__init__" (L2.defArgs ((MP.clsB (HP.top 3)).getD 0 (.Pass ⟨0, 0, 0, 0⟩))) (FuncBody.stmts (L2.defBody ((MP.clsB (HP.top 3)).getD 0 (.Pass ⟨0, 0, 0, 0⟩)))) (L2.defScope ((MP.clsB (HP.top 3)).getD 0 (.Pass ⟨0, 0, 0, 0⟩))) 0 [] .none .none .none .none none .none .none 0)) (.mk []))
def o1_59 (w : World) : Obj := (.mk (.type "code") none (.fields (.mk [(.str "__init__" 244), (.str "InvalidHaul.__init__" 245), (.str "/claim/cut.py" 246), (.int (Int.ofNat 10) 0), (.int (Int.ofNat 2) 0), (.int (Int.ofNat 0) 0), (.int (Int.ofNat 0) 0), (.int (Int.ofNat 3) 0), (.ref 54), (.bool true), (.int (Int.ofNat 181) 0), (.ref 55), .none, (.ref 56), (.ref 57), (.ref 58), (.int (Int.ofNat 249) 0), (.int (Int.ofNat 10) 0), (.str "/claim/cut.py" 250)])) (.mk []))
def o1_60 (w : World) : Obj := (.mk (.type "function") none (.func (FuncData.mk "__init__" "InvalidHaul.__init__" (L2.defArgs ((MP.clsB (HP.top 3)).getD 0 (.Pass ⟨0, 0, 0, 0⟩))) (FuncBody.stmts (L2.defBody ((MP.clsB (HP.top 3)).getD 0 (.Pass ⟨0, 0, 0, 0⟩)))) (L2.defScope ((MP.clsB (HP.top 3)).getD 0 (.Pass ⟨0, 0, 0, 0⟩))) 3 [] .none .none .none (.str "haulprices.errors" 187) none (.ref 59) .none 0)) (.mk []))
def o1_61 (w : World) : Obj := (.mk (.type "tuple") none (.seq (.mk [(.str "given" 252)]) 0) (.mk []))
def o1_62 (w : World) : Obj := (.mk (.type "dict") none (.dict (.mk [(.mk (HQ.hS w "__module__") (.str "__module__" 239) (.str "haulprices.errors" 187)), (.mk (HQ.hS w "__firstlineno__") (.str "__firstlineno__" 243) (.int (Int.ofNat 8) 242)), (.mk (HQ.hS w "__init__") (.str "__init__" 251) (.ref 60)), (.mk (HQ.hS w "__static_attributes__") (.str "__static_attributes__" 253) (.ref 61)), (.mk (HQ.hS w "__doc__") (.str "__doc__" 254) .none)]) 2) (.mk []))
def o1_63 (w : World) : Obj := (.mk (.type "type") none (.cls (PySem.ClassData.mk "InvalidHaul" [(.ref 24)] [(.ref 63), (.ref 24), (.type "ValueError"), (.type "Exception"), (.type "BaseException"), (.type "object")] 62 "InvalidHaul" true [] [] false none false)) (.mk [(some (.ref 47)), none, (some (.str "InvalidHaul" 232)), (some (.str "InvalidHaul" 240)), (some (.builtin "ValueError.__new__")), (some (.bool true))]))
def o1_64 (w : World) : Obj := (.mk (.type "super") none (.fields (.mk [(.ref 63), (.ref 63), (.ref 63)])) (.mk []))
def o1_65 (w : World) : Obj := (.mk (.type "builtin_function_or_method") none (.fields (.mk [(.builtin "object.__init_subclass__"), (.ref 63)])) (.mk []))
def o1_66 (w : World) : Obj := (.mk (.type "tuple") none (.seq (.mk [(.ref 24)]) 0) (.mk []))
def o1_67 (w : World) : Obj := (.mk (.type "builtin_function_or_method") none (.fields (.mk [(.builtin "type.__prepare__"), (.type "type")])) (.mk []))
def o1_68 (w : World) : Obj := (.mk (.type "dict") none (.dict (.mk [(.mk (HQ.hS w "__module__") (.str "__module__" 264) (.str "haulprices.errors" 187)), (.mk (HQ.hS w "__qualname__") (.str "__qualname__" 266) (.str "InvalidText" 265)), (.mk (HQ.hS w "__firstlineno__") (.str "__firstlineno__" 268) (.int (Int.ofNat 12) 267)), (.mk (HQ.hS w "__init__") (.str "__init__" 276) (.ref 79)), (.mk (HQ.hS w "__static_attributes__") (.str "__static_attributes__" 278) (.ref 80))]) 5) (.mk []))
def o1_69 (w : World) : Obj := (.mk (.type "tuple") none (.seq (.mk []) 0) (.mk []))
def o1_70 (w : World) : Obj := (.mk .none none (.fields (.mk [(.int (Int.ofNat 14) 0), (.int (Int.ofNat 4) 0), (.ref 78)])) (.mk []))
def o1_71 (w : World) : Obj := (.mk (.type "code") none (.fields (.mk [(.str "InvalidText" 259), (.str "InvalidText" 260), (.str "/claim/cut.py" 261), (.int (Int.ofNat 12) 0), (.int (Int.ofNat 0) 0), (.int (Int.ofNat 0) 0), (.int (Int.ofNat 0) 0), (.int (Int.ofNat 0) 0), (.ref 69), (.bool false), (.int (Int.ofNat 181) 0), (.ref 70), .none, .none, .none, .none, (.int (Int.ofNat 262) 0), (.int (Int.ofNat 12) 0), (.str "/claim/cut.py" 263)])) (.mk []))
def o1_72 (w : World) : Obj := (.mk (.type "frame") none .plain (.mk [(some (.ref 71)), (some (.ref 3)), (some (.ref 68)), none, (some (.str "haulprices.errors" 187)), none, (some (.ref 0))]))
def o1_73 (w : World) : Obj := (.mk (.type "tuple") none (.seq (.mk []) 0) (.mk []))
def o1_74 (w : World) : Obj := (.mk .none none (.fields (.mk [])) (.mk []))
def o1_75 (w : World) : Obj := (.mk (.type "tuple") none (.seq (.mk [(.str "self" 272), (.str "given" 273)]) 0) (.mk []))
def o1_76 (w : World) : Obj := (.mk (.type "tuple") none (.seq (.mk []) 0) (.mk []))
def o1_77 (w : World) : Obj := (.mk .none none (.func (FuncData.mk "__init__" "InvalidText.__init__" (L2.defArgs ((MP.clsB (HP.top 4)).getD 0 (.Pass ⟨0, 0, 0, 0⟩))) (FuncBody.stmts (L2.defBody ((MP.clsB (HP.top 4)).getD 0 (.Pass ⟨0, 0, 0, 0⟩)))) (L2.defScope ((MP.clsB (HP.top 4)).getD 0 (.Pass ⟨0, 0, 0, 0⟩))) 0 [] .none .none .none .none none .none .none 0)) (.mk []))
def o1_78 (w : World) : Obj := (.mk (.type "code") none (.fields (.mk [(.str "__init__" 269), (.str "InvalidText.__init__" 270), (.str "/claim/cut.py" 271), (.int (Int.ofNat 14) 0), (.int (Int.ofNat 2) 0), (.int (Int.ofNat 0) 0), (.int (Int.ofNat 0) 0), (.int (Int.ofNat 3) 0), (.ref 73), (.bool true), (.int (Int.ofNat 181) 0), (.ref 74), .none, (.ref 75), (.ref 76), (.ref 77), (.int (Int.ofNat 274) 0), (.int (Int.ofNat 14) 0), (.str "/claim/cut.py" 275)])) (.mk []))
def o1_79 (w : World) : Obj := (.mk (.type "function") none (.func (FuncData.mk "__init__" "InvalidText.__init__" (L2.defArgs ((MP.clsB (HP.top 4)).getD 0 (.Pass ⟨0, 0, 0, 0⟩))) (FuncBody.stmts (L2.defBody ((MP.clsB (HP.top 4)).getD 0 (.Pass ⟨0, 0, 0, 0⟩)))) (L2.defScope ((MP.clsB (HP.top 4)).getD 0 (.Pass ⟨0, 0, 0, 0⟩))) 3 [] .none .none .none (.str "haulprices.errors" 187) none (.ref 78) .none 0)) (.mk []))
def o1_80 (w : World) : Obj := (.mk (.type "tuple") none (.seq (.mk [(.str "given" 277)]) 0) (.mk []))
def o1_81 (w : World) : Obj := (.mk (.type "dict") none (.dict (.mk [(.mk (HQ.hS w "__module__") (.str "__module__" 264) (.str "haulprices.errors" 187)), (.mk (HQ.hS w "__firstlineno__") (.str "__firstlineno__" 268) (.int (Int.ofNat 12) 267)), (.mk (HQ.hS w "__init__") (.str "__init__" 276) (.ref 79)), (.mk (HQ.hS w "__static_attributes__") (.str "__static_attributes__" 278) (.ref 80)), (.mk (HQ.hS w "__doc__") (.str "__doc__" 279) .none)]) 2) (.mk []))
def o1_82 (w : World) : Obj := (.mk (.type "type") none (.cls (PySem.ClassData.mk "InvalidText" [(.ref 24)] [(.ref 82), (.ref 24), (.type "ValueError"), (.type "Exception"), (.type "BaseException"), (.type "object")] 81 "InvalidText" true [] [] false none false)) (.mk [(some (.ref 66)), none, (some (.str "InvalidText" 257)), (some (.str "InvalidText" 265)), (some (.builtin "ValueError.__new__")), (some (.bool true))]))
def o1_83 (w : World) : Obj := (.mk (.type "super") none (.fields (.mk [(.ref 82), (.ref 82), (.ref 82)])) (.mk []))
def o1_84 (w : World) : Obj := (.mk (.type "builtin_function_or_method") none (.fields (.mk [(.builtin "object.__init_subclass__"), (.ref 82)])) (.mk []))
def o1_85 (w : World) : Obj := (.mk (.type "tuple") none (.seq (.mk [(.ref 24)]) 0) (.mk []))
def o1_86 (w : World) : Obj := (.mk (.type "builtin_function_or_method") none (.fields (.mk [(.builtin "type.__prepare__"), (.type "type")])) (.mk []))
def o1_87 (w : World) : Obj := (.mk (.type "dict") none (.dict (.mk [(.mk (HQ.hS w "__module__") (.str "__module__" 289) (.str "haulprices.errors" 187)), (.mk (HQ.hS w "__qualname__") (.str "__qualname__" 291) (.str "InvalidRanges" 290)), (.mk (HQ.hS w "__firstlineno__") (.str "__firstlineno__" 293) (.int (Int.ofNat 16) 292)), (.mk (HQ.hS w "__init__") (.str "__init__" 301) (.ref 98)), (.mk (HQ.hS w "__static_attributes__") (.str "__static_attributes__" 303) (.ref 99))]) 5) (.mk []))
def o1_88 (w : World) : Obj := (.mk (.type "tuple") none (.seq (.mk []) 0) (.mk []))
def o1_89 (w : World) : Obj := (.mk .none none (.fields (.mk [(.int (Int.ofNat 18) 0), (.int (Int.ofNat 4) 0), (.ref 97)])) (.mk []))
def o1_90 (w : World) : Obj := (.mk (.type "code") none (.fields (.mk [(.str "InvalidRanges" 284), (.str "InvalidRanges" 285), (.str "/claim/cut.py" 286), (.int (Int.ofNat 16) 0), (.int (Int.ofNat 0) 0), (.int (Int.ofNat 0) 0), (.int (Int.ofNat 0) 0), (.int (Int.ofNat 0) 0), (.ref 88), (.bool false), (.int (Int.ofNat 181) 0), (.ref 89), .none, .none, .none, .none, (.int (Int.ofNat 287) 0), (.int (Int.ofNat 16) 0), (.str "/claim/cut.py" 288)])) (.mk []))
def o1_91 (w : World) : Obj := (.mk (.type "frame") none .plain (.mk [(some (.ref 90)), (some (.ref 3)), (some (.ref 87)), none, (some (.str "haulprices.errors" 187)), none, (some (.ref 0))]))
def o1_92 (w : World) : Obj := (.mk (.type "tuple") none (.seq (.mk []) 0) (.mk []))
def o1_93 (w : World) : Obj := (.mk .none none (.fields (.mk [])) (.mk []))
def o1_94 (w : World) : Obj := (.mk (.type "tuple") none (.seq (.mk [(.str "self" 297), (.str "index" 298)]) 0) (.mk []))
def o1_95 (w : World) : Obj := (.mk (.type "tuple") none (.seq (.mk []) 0) (.mk []))
def o1_96 (w : World) : Obj := (.mk .none none (.func (FuncData.mk "__init__" "InvalidRanges.__init__" (L2.defArgs ((MP.clsB (HP.top 5)).getD 0 (.Pass ⟨0, 0, 0, 0⟩))) (FuncBody.stmts (L2.defBody ((MP.clsB (HP.top 5)).getD 0 (.Pass ⟨0, 0, 0, 0⟩)))) (L2.defScope ((MP.clsB (HP.top 5)).getD 0 (.Pass ⟨0, 0, 0, 0⟩))) 0 [] .none .none .none .none none .none .none 0)) (.mk []))
def o1_97 (w : World) : Obj := (.mk (.type "code") none (.fields (.mk [(.str "__init__" 294), (.str "InvalidRanges.__init__" 295), (.str "/claim/cut.py" 296), (.int (Int.ofNat 18) 0), (.int (Int.ofNat 2) 0), (.int (Int.ofNat 0) 0), (.int (Int.ofNat 0) 0), (.int (Int.ofNat 3) 0), (.ref 92), (.bool true), (.int (Int.ofNat 181) 0), (.ref 93), .none, (.ref 94), (.ref 95), (.ref 96), (.int (Int.ofNat 299) 0), (.int (Int.ofNat 18) 0), (.str "/claim/cut.py" 300)])) (.mk []))
def o1_98 (w : World) : Obj := (.mk (.type "function") none (.func (FuncData.mk "__init__" "InvalidRanges.__init__" (L2.defArgs ((MP.clsB (HP.top 5)).getD 0 (.Pass ⟨0, 0, 0, 0⟩))) (FuncBody.stmts (L2.defBody ((MP.clsB (HP.top 5)).getD 0 (.Pass ⟨0, 0, 0, 0⟩)))) (L2.defScope ((MP.clsB (HP.top 5)).getD 0 (.Pass ⟨0, 0, 0, 0⟩))) 3 [] .none .none .none (.str "haulprices.errors" 187) none (.ref 97) .none 0)) (.mk []))
def o1_99 (w : World) : Obj := (.mk (.type "tuple") none (.seq (.mk [(.str "index" 302)]) 0) (.mk []))
def o1_100 (w : World) : Obj := (.mk (.type "dict") none (.dict (.mk [(.mk (HQ.hS w "__module__") (.str "__module__" 289) (.str "haulprices.errors" 187)), (.mk (HQ.hS w "__firstlineno__") (.str "__firstlineno__" 293) (.int (Int.ofNat 16) 292)), (.mk (HQ.hS w "__init__") (.str "__init__" 301) (.ref 98)), (.mk (HQ.hS w "__static_attributes__") (.str "__static_attributes__" 303) (.ref 99)), (.mk (HQ.hS w "__doc__") (.str "__doc__" 304) .none)]) 2) (.mk []))
def o1_101 (w : World) : Obj := (.mk (.type "type") none (.cls (PySem.ClassData.mk "InvalidRanges" [(.ref 24)] [(.ref 101), (.ref 24), (.type "ValueError"), (.type "Exception"), (.type "BaseException"), (.type "object")] 100 "InvalidRanges" true [] [] false none false)) (.mk [(some (.ref 85)), none, (some (.str "InvalidRanges" 282)), (some (.str "InvalidRanges" 290)), (some (.builtin "ValueError.__new__")), (some (.bool true))]))
def o1_102 (w : World) : Obj := (.mk (.type "super") none (.fields (.mk [(.ref 101), (.ref 101), (.ref 101)])) (.mk []))
def o1_103 (w : World) : Obj := (.mk (.type "builtin_function_or_method") none (.fields (.mk [(.builtin "object.__init_subclass__"), (.ref 101)])) (.mk []))
def o1_104 (w : World) : Obj := (.mk (.type "tuple") none (.seq (.mk [(.ref 24)]) 0) (.mk []))
def o1_105 (w : World) : Obj := (.mk (.type "builtin_function_or_method") none (.fields (.mk [(.builtin "type.__prepare__"), (.type "type")])) (.mk []))
def o1_106 (w : World) : Obj := (.mk (.type "dict") none (.dict (.mk [(.mk (HQ.hS w "__module__") (.str "__module__" 314) (.str "haulprices.errors" 187)), (.mk (HQ.hS w "__qualname__") (.str "__qualname__" 316) (.str "InvalidTickets" 315)), (.mk (HQ.hS w "__firstlineno__") (.str "__firstlineno__" 318) (.int (Int.ofNat 20) 317)), (.mk (HQ.hS w "__init__") (.str "__init__" 326) (.ref 117)), (.mk (HQ.hS w "__static_attributes__") (.str "__static_attributes__" 328) (.ref 118))]) 5) (.mk []))
def o1_107 (w : World) : Obj := (.mk (.type "tuple") none (.seq (.mk []) 0) (.mk []))
def o1_108 (w : World) : Obj := (.mk .none none (.fields (.mk [(.int (Int.ofNat 22) 0), (.int (Int.ofNat 4) 0), (.ref 116)])) (.mk []))
def o1_109 (w : World) : Obj := (.mk (.type "code") none (.fields (.mk [(.str "InvalidTickets" 309), (.str "InvalidTickets" 310), (.str "/claim/cut.py" 311), (.int (Int.ofNat 20) 0), (.int (Int.ofNat 0) 0), (.int (Int.ofNat 0) 0), (.int (Int.ofNat 0) 0), (.int (Int.ofNat 0) 0), (.ref 107), (.bool false), (.int (Int.ofNat 181) 0), (.ref 108), .none, .none, .none, .none, (.int (Int.ofNat 312) 0), (.int (Int.ofNat 20) 0), (.str "/claim/cut.py" 313)])) (.mk []))
def o1_110 (w : World) : Obj := (.mk (.type "frame") none .plain (.mk [(some (.ref 109)), (some (.ref 3)), (some (.ref 106)), none, (some (.str "haulprices.errors" 187)), none, (some (.ref 0))]))
def o1_111 (w : World) : Obj := (.mk (.type "tuple") none (.seq (.mk []) 0) (.mk []))
def o1_112 (w : World) : Obj := (.mk .none none (.fields (.mk [])) (.mk []))
def o1_113 (w : World) : Obj := (.mk (.type "tuple") none (.seq (.mk [(.str "self" 322), (.str "index" 323)]) 0) (.mk []))
def o1_114 (w : World) : Obj := (.mk (.type "tuple") none (.seq (.mk []) 0) (.mk []))
def o1_115 (w : World) : Obj := (.mk .none none (.func (FuncData.mk "__init__" "InvalidTickets.__init__" (L2.defArgs ((MP.clsB (HP.top 6)).getD 0 (.Pass ⟨0, 0, 0, 0⟩))) (FuncBody.stmts (L2.defBody ((MP.clsB (HP.top 6)).getD 0 (.Pass ⟨0, 0, 0, 0⟩)))) (L2.defScope ((MP.clsB (HP.top 6)).getD 0 (.Pass ⟨0, 0, 0, 0⟩))) 0 [] .none .none .none .none none .none .none 0)) (.mk []))
def o1_116 (w : World) : Obj := (.mk (.type "code") none (.fields (.mk [(.str "__init__" 319), (.str "InvalidTickets.__init__" 320), (.str "/claim/cut.py" 321), (.int (Int.ofNat 22) 0), (.int (Int.ofNat 2) 0), (.int (Int.ofNat 0) 0), (.int (Int.ofNat 0) 0), (.int (Int.ofNat 3) 0), (.ref 111), (.bool true), (.int (Int.ofNat 181) 0), (.ref 112), .none, (.ref 113), (.ref 114), (.ref 115), (.int (Int.ofNat 324) 0), (.int (Int.ofNat 22) 0), (.str "/claim/cut.py" 325)])) (.mk []))
def o1_117 (w : World) : Obj := (.mk (.type "function") none (.func (FuncData.mk "__init__" "InvalidTickets.__init__" (L2.defArgs ((MP.clsB (HP.top 6)).getD 0 (.Pass ⟨0, 0, 0, 0⟩))) (FuncBody.stmts (L2.defBody ((MP.clsB (HP.top 6)).getD 0 (.Pass ⟨0, 0, 0, 0⟩)))) (L2.defScope ((MP.clsB (HP.top 6)).getD 0 (.Pass ⟨0, 0, 0, 0⟩))) 3 [] .none .none .none (.str "haulprices.errors" 187) none (.ref 116) .none 0)) (.mk []))
def o1_118 (w : World) : Obj := (.mk (.type "tuple") none (.seq (.mk [(.str "index" 327)]) 0) (.mk []))
def o1_119 (w : World) : Obj := (.mk (.type "dict") none (.dict (.mk [(.mk (HQ.hS w "__module__") (.str "__module__" 314) (.str "haulprices.errors" 187)), (.mk (HQ.hS w "__firstlineno__") (.str "__firstlineno__" 318) (.int (Int.ofNat 20) 317)), (.mk (HQ.hS w "__init__") (.str "__init__" 326) (.ref 117)), (.mk (HQ.hS w "__static_attributes__") (.str "__static_attributes__" 328) (.ref 118)), (.mk (HQ.hS w "__doc__") (.str "__doc__" 329) .none)]) 2) (.mk []))
def o1_120 (w : World) : Obj := (.mk (.type "type") none (.cls (PySem.ClassData.mk "InvalidTickets" [(.ref 24)] [(.ref 120), (.ref 24), (.type "ValueError"), (.type "Exception"), (.type "BaseException"), (.type "object")] 119 "InvalidTickets" true [] [] false none false)) (.mk [(some (.ref 104)), none, (some (.str "InvalidTickets" 307)), (some (.str "InvalidTickets" 315)), (some (.builtin "ValueError.__new__")), (some (.bool true))]))
def o1_121 (w : World) : Obj := (.mk (.type "super") none (.fields (.mk [(.ref 120), (.ref 120), (.ref 120)])) (.mk []))
def o1_122 (w : World) : Obj := (.mk (.type "builtin_function_or_method") none (.fields (.mk [(.builtin "object.__init_subclass__"), (.ref 120)])) (.mk []))
def o1_123 (w : World) : Obj := (.mk (.type "tuple") none (.seq (.mk [(.ref 24)]) 0) (.mk []))
def o1_124 (w : World) : Obj := (.mk (.type "builtin_function_or_method") none (.fields (.mk [(.builtin "type.__prepare__"), (.type "type")])) (.mk []))
def o1_125 (w : World) : Obj := (.mk (.type "dict") none (.dict (.mk [(.mk (HQ.hS w "__module__") (.str "__module__" 339) (.str "haulprices.errors" 187)), (.mk (HQ.hS w "__qualname__") (.str "__qualname__" 341) (.str "WrongRow" 340)), (.mk (HQ.hS w "__firstlineno__") (.str "__firstlineno__" 343) (.int (Int.ofNat 24) 342)), (.mk (HQ.hS w "__init__") (.str "__init__" 351) (.ref 136)), (.mk (HQ.hS w "__static_attributes__") (.str "__static_attributes__" 353) (.ref 137))]) 5) (.mk []))
def o1_126 (w : World) : Obj := (.mk (.type "tuple") none (.seq (.mk []) 0) (.mk []))
def o1_127 (w : World) : Obj := (.mk .none none (.fields (.mk [(.int (Int.ofNat 26) 0), (.int (Int.ofNat 4) 0), (.ref 135)])) (.mk []))
def o1_128 (w : World) : Obj := (.mk (.type "code") none (.fields (.mk [(.str "WrongRow" 334), (.str "WrongRow" 335), (.str "/claim/cut.py" 336), (.int (Int.ofNat 24) 0), (.int (Int.ofNat 0) 0), (.int (Int.ofNat 0) 0), (.int (Int.ofNat 0) 0), (.int (Int.ofNat 0) 0), (.ref 126), (.bool false), (.int (Int.ofNat 181) 0), (.ref 127), .none, .none, .none, .none, (.int (Int.ofNat 337) 0), (.int (Int.ofNat 24) 0), (.str "/claim/cut.py" 338)])) (.mk []))
def o1_129 (w : World) : Obj := (.mk (.type "frame") none .plain (.mk [(some (.ref 128)), (some (.ref 3)), (some (.ref 125)), none, (some (.str "haulprices.errors" 187)), none, (some (.ref 0))]))
def o1_130 (w : World) : Obj := (.mk (.type "tuple") none (.seq (.mk []) 0) (.mk []))
def o1_131 (w : World) : Obj := (.mk .none none (.fields (.mk [])) (.mk []))
def o1_132 (w : World) : Obj := (.mk (.type "tuple") none (.seq (.mk [(.str "self" 347), (.str "index" 348)]) 0) (.mk []))
def o1_133 (w : World) : Obj := (.mk (.type "tuple") none (.seq (.mk []) 0) (.mk []))
def o1_134 (w : World) : Obj := (.mk .none none (.func (FuncData.mk "__init__" "WrongRow.__init__" (L2.defArgs ((MP.clsB (HP.top 7)).getD 0 (.Pass ⟨0, 0, 0, 0⟩))) (FuncBody.stmts (L2.defBody ((MP.clsB (HP.top 7)).getD 0 (.Pass ⟨0, 0, 0, 0⟩)))) (L2.defScope ((MP.clsB (HP.top 7)).getD 0 (.Pass ⟨0, 0, 0, 0⟩))) 0 [] .none .none .none .none none .none .none 0)) (.mk []))
def o1_135 (w : World) : Obj := (.mk (.type "code") none (.fields (.mk [(.str "__init__" 344), (.str "WrongRow.__init__" 345), (.str "/claim/cut.py" 346), (.int (Int.ofNat 26) 0), (.int (Int.ofNat 2) 0), (.int (Int.ofNat 0) 0), (.int (Int.ofNat 0) 0), (.int (Int.ofNat 3) 0), (.ref 130), (.bool true), (.int (Int.ofNat 181) 0), (.ref 131), .none, (.ref 132), (.ref 133), (.ref 134), (.int (Int.ofNat 349) 0), (.int (Int.ofNat 26) 0), (.str "/claim/cut.py" 350)])) (.mk []))
def o1_136 (w : World) : Obj := (.mk (.type "function") none (.func (FuncData.mk "__init__" "WrongRow.__init__" (L2.defArgs ((MP.clsB (HP.top 7)).getD 0 (.Pass ⟨0, 0, 0, 0⟩))) (FuncBody.stmts (L2.defBody ((MP.clsB (HP.top 7)).getD 0 (.Pass ⟨0, 0, 0, 0⟩)))) (L2.defScope ((MP.clsB (HP.top 7)).getD 0 (.Pass ⟨0, 0, 0, 0⟩))) 3 [] .none .none .none (.str "haulprices.errors" 187) none (.ref 135) .none 0)) (.mk []))
def o1_137 (w : World) : Obj := (.mk (.type "tuple") none (.seq (.mk [(.str "index" 352)]) 0) (.mk []))
def o1_138 (w : World) : Obj := (.mk (.type "dict") none (.dict (.mk [(.mk (HQ.hS w "__module__") (.str "__module__" 339) (.str "haulprices.errors" 187)), (.mk (HQ.hS w "__firstlineno__") (.str "__firstlineno__" 343) (.int (Int.ofNat 24) 342)), (.mk (HQ.hS w "__init__") (.str "__init__" 351) (.ref 136)), (.mk (HQ.hS w "__static_attributes__") (.str "__static_attributes__" 353) (.ref 137)), (.mk (HQ.hS w "__doc__") (.str "__doc__" 354) .none)]) 2) (.mk []))
def o1_139 (w : World) : Obj := (.mk (.type "type") none (.cls (PySem.ClassData.mk "WrongRow" [(.ref 24)] [(.ref 139), (.ref 24), (.type "ValueError"), (.type "Exception"), (.type "BaseException"), (.type "object")] 138 "WrongRow" true [] [] false none false)) (.mk [(some (.ref 123)), none, (some (.str "WrongRow" 332)), (some (.str "WrongRow" 340)), (some (.builtin "ValueError.__new__")), (some (.bool true))]))
def o1_140 (w : World) : Obj := (.mk (.type "super") none (.fields (.mk [(.ref 139), (.ref 139), (.ref 139)])) (.mk []))
def o1_141 (w : World) : Obj := (.mk (.type "builtin_function_or_method") none (.fields (.mk [(.builtin "object.__init_subclass__"), (.ref 139)])) (.mk []))
def o1_142 (w : World) : Obj := (.mk (.type "tuple") none (.seq (.mk []) 0) (.mk []))
def o1_143 (w : World) : Obj := (.mk .none none (.fields (.mk [])) (.mk []))
def o1_144 (w : World) : Obj := (.mk (.type "tuple") none (.seq (.mk [(.str "value" 368)]) 0) (.mk []))
def o1_145 (w : World) : Obj := (.mk (.type "tuple") none (.seq (.mk []) 0) (.mk []))
def o1_146 (w : World) : Obj := (.mk .none none (.func (FuncData.mk "is_integer" "is_integer" (L2.defArgs (HP.top 11)) (FuncBody.stmts (L2.defBody (HP.top 11))) (L2.defScope (HP.top 11)) 0 [] .none .none .none .none none .none .none 0)) (.mk []))
def o1_147 (w : World) : Obj := (.mk (.type "code") none (.fields (.mk [(.str "is_integer" 365), (.str "is_integer" 366), (.str "/claim/cut.py" 367), (.int (Int.ofNat 31) 0), (.int (Int.ofNat 1) 0), (.int (Int.ofNat 0) 0), (.int (Int.ofNat 0) 0), (.int (Int.ofNat 3) 0), (.ref 142), (.bool true), (.int (Int.ofNat 181) 0), (.ref 143), .none, (.ref 144), (.ref 145), (.ref 146), (.int (Int.ofNat 369) 0), (.int (Int.ofNat 31) 0), (.str "/claim/cut.py" 370)])) (.mk []))
def o1_148 (w : World) : Obj := (.mk (.type "function") none (.func (FuncData.mk "is_integer" "is_integer" (L2.defArgs (HP.top 11)) (FuncBody.stmts (L2.defBody (HP.top 11))) (L2.defScope (HP.top 11)) 3 [] .none .none .none (.str "haulprices.hauls" 363) none (.ref 147) .none 0)) (.mk []))
def o1_149 (w : World) : Obj := (.mk (.type "tuple") none (.seq (.mk []) 0) (.mk []))
def o1_150 (w : World) : Obj := (.mk .none none (.fields (.mk [])) (.mk []))
def o1_151 (w : World) : Obj := (.mk (.type "tuple") none (.seq (.mk [(.str "value" 375), (.str "low" 376), (.str "high" 377)]) 0) (.mk []))
def o1_152 (w : World) : Obj := (.mk (.type "tuple") none (.seq (.mk []) 0) (.mk []))
def o1_153 (w : World) : Obj := (.mk .none none (.func (FuncData.mk "is_within" "is_within" (L2.defArgs (HP.top 12)) (FuncBody.stmts (L2.defBody (HP.top 12))) (L2.defScope (HP.top 12)) 0 [] .none .none .none .none none .none .none 0)) (.mk []))
def o1_154 (w : World) : Obj := (.mk (.type "code") none (.fields (.mk [(.str "is_within" 372), (.str "is_within" 373), (.str "/claim/cut.py" 374), (.int (Int.ofNat 33) 0), (.int (Int.ofNat 3) 0), (.int (Int.ofNat 0) 0), (.int (Int.ofNat 0) 0), (.int (Int.ofNat 3) 0), (.ref 149), (.bool true), (.int (Int.ofNat 181) 0), (.ref 150), .none, (.ref 151), (.ref 152), (.ref 153), (.int (Int.ofNat 378) 0), (.int (Int.ofNat 33) 0), (.str "/claim/cut.py" 379)])) (.mk []))
def o1_155 (w : World) : Obj := (.mk (.type "function") none (.func (FuncData.mk "is_within" "is_within" (L2.defArgs (HP.top 12)) (FuncBody.stmts (L2.defBody (HP.top 12))) (L2.defScope (HP.top 12)) 3 [] .none .none .none (.str "haulprices.hauls" 363) none (.ref 154) .none 0)) (.mk []))
def o1_156 (w : World) : Obj := (.mk (.type "tuple") none (.seq (.mk []) 0) (.mk []))
def o1_157 (w : World) : Obj := (.mk .none none (.fields (.mk [])) (.mk []))
def o1_158 (w : World) : Obj := (.mk (.type "tuple") none (.seq (.mk [(.str "value" 384)]) 0) (.mk []))
def o1_159 (w : World) : Obj := (.mk (.type "tuple") none (.seq (.mk []) 0) (.mk []))
def o1_160 (w : World) : Obj := (.mk .none none (.func (FuncData.mk "is_price" "is_price" (L2.defArgs (HP.top 13)) (FuncBody.stmts (L2.defBody (HP.top 13))) (L2.defScope (HP.top 13)) 0 [] .none .none .none .none none .none .none 0)) (.mk []))
def o1_161 (w : World) : Obj := (.mk (.type "code") none (.fields (.mk [(.str "is_price" 381), (.str "is_price" 382), (.str "/claim/cut.py" 383), (.int (Int.ofNat 35) 0), (.int (Int.ofNat 1) 0), (.int (Int.ofNat 0) 0), (.int (Int.ofNat 0) 0), (.int (Int.ofNat 3) 0), (.ref 156), (.bool true), (.int (Int.ofNat 181) 0), (.ref 157), .none, (.ref 158), (.ref 159), (.ref 160), (.int (Int.ofNat 385) 0), (.int (Int.ofNat 35) 0), (.str "/claim/cut.py" 386)])) (.mk []))
def o1_162 (w : World) : Obj := (.mk (.type "function") none (.func (FuncData.mk "is_price" "is_price" (L2.defArgs (HP.top 13)) (FuncBody.stmts (L2.defBody (HP.top 13))) (L2.defScope (HP.top 13)) 3 [] .none .none .none (.str "haulprices.hauls" 363) none (.ref 161) .none 0)) (.mk []))
def o1_163 (w : World) : Obj := (.mk (.type "tuple") none (.seq (.mk []) 0) (.mk []))
def o1_164 (w : World) : Obj := (.mk .none none (.fields (.mk [])) (.mk []))
def o1_165 (w : World) : Obj := (.mk .none none (.func (FuncData.mk "is_haul" "is_haul" (L2.defArgs (HP.top 14)) (FuncBody.stmts (L2.defBody (HP.top 14))) (L2.defScope (HP.top 14)) 0 [] .none .none .none .none none .none .none 0)) (.mk []))
def o1_166 (w : World) : Obj := (.mk (.type "code") none (.fields (.mk [(.str "is_haul" 388), (.str "is_haul" 389), (.str "/claim/cut.py" 390), (.int (Int.ofNat 37) 0), (.int (Int.ofNat 2) 0), (.int (Int.ofNat 0) 0), (.int (Int.ofNat 0) 0), (.int (Int.ofNat 3) 0), (.ref 163), (.bool true), (.int (Int.ofNat 181) 0), (.ref 164), .none, .none, .none, (.ref 165), (.int (Int.ofNat 391) 0), (.int (Int.ofNat 37) 0), (.str "/claim/cut.py" 392)])) (.mk []))
def o1_167 (w : World) : Obj := (.mk (.type "function") none (.func (FuncData.mk "is_haul" "is_haul" (L2.defArgs (HP.top 14)) (FuncBody.stmts (L2.defBody (HP.top 14))) (L2.defScope (HP.top 14)) 3 [] .none .none .none (.str "haulprices.hauls" 363) none (.ref 166) .none 0)) (.mk []))
def o1_168 (w : World) : Obj := (.mk (.type "tuple") none (.seq (.mk []) 0) (.mk []))
def o1_169 (w : World) : Obj := (.mk .none none (.fields (.mk [])) (.mk []))
def o1_170 (w : World) : Obj := (.mk .none none (.func (FuncData.mk "hauls_of" "hauls_of" (L2.defArgs (HP.top 15)) (FuncBody.stmts (L2.defBody (HP.top 15))) (L2.defScope (HP.top 15)) 0 [] .none .none .none .none none .none .none 0)) (.mk []))
def o1_171 (w : World) : Obj := (.mk (.type "code") none (.fields (.mk [(.str "hauls_of" 394), (.str "hauls_of" 395), (.str "/claim/cut.py" 396), (.int (Int.ofNat 41) 0), (.int (Int.ofNat 1) 0), (.int (Int.ofNat 0) 0), (.int (Int.ofNat 0) 0), (.int (Int.ofNat 3) 0), (.ref 168), (.bool true), (.int (Int.ofNat 181) 0), (.ref 169), .none, .none, .none, (.ref 170), (.int (Int.ofNat 397) 0), (.int (Int.ofNat 41) 0), (.str "/claim/cut.py" 398)])) (.mk []))
def o1_172 (w : World) : Obj := (.mk (.type "function") none (.func (FuncData.mk "hauls_of" "hauls_of" (L2.defArgs (HP.top 15)) (FuncBody.stmts (L2.defBody (HP.top 15))) (L2.defScope (HP.top 15)) 3 [] .none .none .none (.str "haulprices.hauls" 363) none (.ref 171) .none 0)) (.mk []))
def o1_173 (w : World) : Obj := (.mk (.type "tuple") none (.seq (.mk []) 0) (.mk []))
def o1_174 (w : World) : Obj := (.mk .none none (.fields (.mk [])) (.mk []))
def o1_175 (w : World) : Obj := (.mk (.type "tuple") none (.seq (.mk [(.str "stops" 403)]) 0) (.mk []))
def o1_176 (w : World) : Obj := (.mk (.type "tuple") none (.seq (.mk []) 0) (.mk []))
def o1_177 (w : World) : Obj := (.mk .none none (.func (FuncData.mk "check_stops" "check_stops" (L2.defArgs (HP.top 16)) (FuncBody.stmts (L2.defBody (HP.top 16))) (L2.defScope (HP.top 16)) 0 [] .none .none .none .none none .none .none 0)) (.mk []))
def o1_178 (w : World) : Obj := (.mk (.type "code") none (.fields (.mk [(.str "check_stops" 400), (.str "check_stops" 401), (.str "/claim/cut.py" 402), (.int (Int.ofNat 46) 0), (.int (Int.ofNat 1) 0), (.int (Int.ofNat 0) 0), (.int (Int.ofNat 0) 0), (.int (Int.ofNat 3) 0), (.ref 173), (.bool true), (.int (Int.ofNat 181) 0), (.ref 174), .none, (.ref 175), (.ref 176), (.ref 177), (.int (Int.ofNat 404) 0), (.int (Int.ofNat 46) 0), (.str "/claim/cut.py" 405)])) (.mk []))
def o1_179 (w : World) : Obj := (.mk (.type "function") none (.func (FuncData.mk "check_stops" "check_stops" (L2.defArgs (HP.top 16)) (FuncBody.stmts (L2.defBody (HP.top 16))) (L2.defScope (HP.top 16)) 3 [] .none .none .none (.str "haulprices.hauls" 363) none (.ref 178) .none 0)) (.mk []))
def o1_180 (w : World) : Obj := (.mk (.type "tuple") none (.seq (.mk []) 0) (.mk []))
def o1_181 (w : World) : Obj := (.mk .none none (.fields (.mk [])) (.mk []))
def o1_182 (w : World) : Obj := (.mk (.type "tuple") none (.seq (.mk [(.str "haul" 410), (.str "stops" 411)]) 0) (.mk []))
def o1_183 (w : World) : Obj := (.mk (.type "tuple") none (.seq (.mk []) 0) (.mk []))
def o1_184 (w : World) : Obj := (.mk .none none (.func (FuncData.mk "check_haul" "check_haul" (L2.defArgs (HP.top 17)) (FuncBody.stmts (L2.defBody (HP.top 17))) (L2.defScope (HP.top 17)) 0 [] .none .none .none .none none .none .none 0)) (.mk []))
def o1_185 (w : World) : Obj := (.mk (.type "code") none (.fields (.mk [(.str "check_haul" 407), (.str "check_haul" 408), (.str "/claim/cut.py" 409), (.int (Int.ofNat 49) 0), (.int (Int.ofNat 2) 0), (.int (Int.ofNat 0) 0), (.int (Int.ofNat 0) 0), (.int (Int.ofNat 3) 0), (.ref 180), (.bool true), (.int (Int.ofNat 181) 0), (.ref 181), .none, (.ref 182), (.ref 183), (.ref 184), (.int (Int.ofNat 412) 0), (.int (Int.ofNat 49) 0), (.str "/claim/cut.py" 413)])) (.mk []))
def o1_186 (w : World) : Obj := (.mk (.type "function") none (.func (FuncData.mk "check_haul" "check_haul" (L2.defArgs (HP.top 17)) (FuncBody.stmts (L2.defBody (HP.top 17))) (L2.defScope (HP.top 17)) 3 [] .none .none .none (.str "haulprices.hauls" 363) none (.ref 185) .none 0)) (.mk []))
def o1_187 (w : World) : Obj := (.mk (.type "tuple") none (.seq (.mk []) 0) (.mk []))
def o1_188 (w : World) : Obj := (.mk .none none (.fields (.mk [])) (.mk []))
def o1_189 (w : World) : Obj := (.mk (.type "tuple") none (.seq (.mk [(.str "value" 422), (.str "stops" 423)]) 0) (.mk []))
def o1_190 (w : World) : Obj := (.mk (.type "tuple") none (.seq (.mk []) 0) (.mk []))
def o1_191 (w : World) : Obj := (.mk .none none (.func (FuncData.mk "is_range" "is_range" (L2.defArgs (HP.top 20)) (FuncBody.stmts (L2.defBody (HP.top 20))) (L2.defScope (HP.top 20)) 0 [] .none .none .none .none none .none .none 0)) (.mk []))
def o1_192 (w : World) : Obj := (.mk (.type "code") none (.fields (.mk [(.str "is_range" 419), (.str "is_range" 420), (.str "/claim/cut.py" 421), (.int (Int.ofNat 54) 0), (.int (Int.ofNat 2) 0), (.int (Int.ofNat 0) 0), (.int (Int.ofNat 0) 0), (.int (Int.ofNat 3) 0), (.ref 187), (.bool true), (.int (Int.ofNat 181) 0), (.ref 188), .none, (.ref 189), (.ref 190), (.ref 191), (.int (Int.ofNat 424) 0), (.int (Int.ofNat 54) 0), (.str "/claim/cut.py" 425)])) (.mk []))
def o1_193 (w : World) : Obj := (.mk (.type "function") none (.func (FuncData.mk "is_range" "is_range" (L2.defArgs (HP.top 20)) (FuncBody.stmts (L2.defBody (HP.top 20))) (L2.defScope (HP.top 20)) 3 [] .none .none .none (.str "haulprices.bounds" 415) none (.ref 192) .none 0)) (.mk []))
def o1_194 (w : World) : Obj := (.mk (.type "tuple") none (.seq (.mk []) 0) (.mk []))
def o1_195 (w : World) : Obj := (.mk .none none (.fields (.mk [])) (.mk []))
def o1_196 (w : World) : Obj := (.mk .none none (.func (FuncData.mk "number_in" "number_in" (L2.defArgs (HP.top 21)) (FuncBody.stmts (L2.defBody (HP.top 21))) (L2.defScope (HP.top 21)) 0 [] .none .none .none .none none .none .none 0)) (.mk []))
def o1_197 (w : World) : Obj := (.mk (.type "code") none (.fields (.mk [(.str "number_in" 427), (.str "number_in" 428), (.str "/claim/cut.py" 429), (.int (Int.ofNat 58) 0), (.int (Int.ofNat 1) 0), (.int (Int.ofNat 0) 0), (.int (Int.ofNat 0) 0), (.int (Int.ofNat 3) 0), (.ref 194), (.bool true), (.int (Int.ofNat 181) 0), (.ref 195), .none, .none, .none, (.ref 196), (.int (Int.ofNat 430) 0), (.int (Int.ofNat 58) 0), (.str "/claim/cut.py" 431)])) (.mk []))
def o1_198 (w : World) : Obj := (.mk (.type "function") none (.func (FuncData.mk "number_in" "number_in" (L2.defArgs (HP.top 21)) (FuncBody.stmts (L2.defBody (HP.top 21))) (L2.defScope (HP.top 21)) 3 [] .none .none .none (.str "haulprices.bounds" 415) none (.ref 197) .none 0)) (.mk []))
def o1_199 (w : World) : Obj := (.mk (.type "tuple") none (.seq (.mk []) 0) (.mk []))
def o1_200 (w : World) : Obj := (.mk .none none (.fields (.mk [])) (.mk []))
def o1_201 (w : World) : Obj := (.mk (.type "tuple") none (.seq (.mk [(.str "line" 436), (.str "words" 437), (.str "stops" 438)]) 0) (.mk []))
def o1_202 (w : World) : Obj := (.mk (.type "tuple") none (.seq (.mk []) 0) (.mk []))
def o1_203 (w : World) : Obj := (.mk .none none (.func (FuncData.mk "stops_in" "stops_in" (L2.defArgs (HP.top 22)) (FuncBody.stmts (L2.defBody (HP.top 22))) (L2.defScope (HP.top 22)) 0 [] .none .none .none .none none .none .none 0)) (.mk []))
def o1_204 (w : World) : Obj := (.mk (.type "code") none (.fields (.mk [(.str "stops_in" 433), (.str "stops_in" 434), (.str "/claim/cut.py" 435), (.int (Int.ofNat 62) 0), (.int (Int.ofNat 1) 0), (.int (Int.ofNat 0) 0), (.int (Int.ofNat 0) 0), (.int (Int.ofNat 3) 0), (.ref 199), (.bool true), (.int (Int.ofNat 181) 0), (.ref 200), .none, (.ref 201), (.ref 202), (.ref 203), (.int (Int.ofNat 439) 0), (.int (Int.ofNat 62) 0), (.str "/claim/cut.py" 440)])) (.mk []))
def o1_205 (w : World) : Obj := (.mk (.type "function") none (.func (FuncData.mk "stops_in" "stops_in" (L2.defArgs (HP.top 22)) (FuncBody.stmts (L2.defBody (HP.top 22))) (L2.defScope (HP.top 22)) 3 [] .none .none .none (.str "haulprices.bounds" 415) none (.ref 204) .none 0)) (.mk []))
def o1_206 (w : World) : Obj := (.mk (.type "tuple") none (.seq (.mk []) 0) (.mk []))
def o1_207 (w : World) : Obj := (.mk .none none (.fields (.mk [])) (.mk []))
def o1_208 (w : World) : Obj := (.mk .none none (.func (FuncData.mk "range_in" "range_in" (L2.defArgs (HP.top 23)) (FuncBody.stmts (L2.defBody (HP.top 23))) (L2.defScope (HP.top 23)) 0 [] .none .none .none .none none .none .none 0)) (.mk []))
def o1_209 (w : World) : Obj := (.mk (.type "code") none (.fields (.mk [(.str "range_in" 442), (.str "range_in" 443), (.str "/claim/cut.py" 444), (.int (Int.ofNat 66) 0), (.int (Int.ofNat 2) 0), (.int (Int.ofNat 0) 0), (.int (Int.ofNat 0) 0), (.int (Int.ofNat 3) 0), (.ref 206), (.bool true), (.int (Int.ofNat 181) 0), (.ref 207), .none, .none, .none, (.ref 208), (.int (Int.ofNat 445) 0), (.int (Int.ofNat 66) 0), (.str "/claim/cut.py" 446)])) (.mk []))
def o1_210 (w : World) : Obj := (.mk (.type "function") none (.func (FuncData.mk "range_in" "range_in" (L2.defArgs (HP.top 23)) (FuncBody.stmts (L2.defBody (HP.top 23))) (L2.defScope (HP.top 23)) 3 [] .none .none .none (.str "haulprices.bounds" 415) none (.ref 209) .none 0)) (.mk []))
def o1_211 (w : World) : Obj := (.mk (.type "tuple") none (.seq (.mk []) 0) (.mk []))
def o1_212 (w : World) : Obj := (.mk (.type "builtin_function_or_method") none (.fields (.mk [(.builtin "type.__prepare__"), (.type "type")])) (.mk []))
def o1_213 (w : World) : Obj := (.mk (.type "dict") none (.dict (.mk [(.mk (HQ.hS w "__module__") (.str "__module__" 455) (.str "haulprices.bounds" 415)), (.mk (HQ.hS w "__qualname__") (.str "__qualname__" 457) (.str "Bounds" 456)), (.mk (HQ.hS w "__firstlineno__") (.str "__firstlineno__" 459) (.int (Int.ofNat 73) 458)), (.mk (HQ.hS w "__init__") (.str "__init__" 470) (.ref 226)), (.mk (HQ.hS w "read") (.str "read" 496) (.ref 235)), (.mk (HQ.hS w "seen") (.str "seen" 514) (.ref 243)), (.mk (HQ.hS w "stops") (.str "stops" 522) (.ref 252)), (.mk (HQ.hS w "ranges") (.str "ranges" 530) (.ref 260)), (.mk (HQ.hS w "__str__") (.str "__str__" 541) (.ref 267)), (.mk (HQ.hS w "__eq__") (.str "__eq__" 549) (.ref 274)), (.mk (HQ.hS w "leasts") (.str "leasts" 555) (.ref 279)), (.mk (HQ.hS w "greatests") (.str "greatests" 561) (.ref 284)), (.mk (HQ.hS w "told") (.str "told" 569) (.ref 291)), (.mk (HQ.hS w "without") (.str "without" 575) (.ref 296)), (.mk (HQ.hS w "__static_attributes__") (.str "__static_attributes__" 577) (.ref 297))]) 15) (.mk []))
def o1_214 (w : World) : Obj := (.mk (.type "tuple") none (.seq (.mk []) 0) (.mk []))
def o1_215 (w : World) : Obj := (.mk .none none (.fields (.mk (.cons (.int (Int.ofNat 75) 0) (.cons (.int (Int.ofNat 4) 0) (.cons (.ref 225) (.cons (.int (Int.ofNat 85) 0) (.cons (.int (Int.ofNat 4) 0) (.cons (.ref 232) (.cons (.int (Int.ofNat 101) 0) (.cons (.int (Int.ofNat 4) 0) (.cons (.ref 240) (.cons (.int (Int.ofNat 111) 0) (.cons (.int (Int.ofNat 4) 0) (.cons (.ref 250) (.cons (.int (Int.ofNat 115) 0) (.cons (.int (Int.ofNat 4) 0) (.cons (.ref 258) (.cons (.int (Int.ofNat 118) 0) (.cons (.int (Int.ofNat 4) 0) (.cons (.ref 266) (.cons (.int (Int.ofNat 124) 0) (.cons (.int (Int.ofNat 4) 0) (.cons (.ref 273) (.cons (.int (Int.ofNat 127) 0) (.cons (.int (Int.ofNat 4) 0) (.cons (.ref 278) (.cons (.int (Int.ofNat 131) 0) (.cons (.int (Int.ofNat 4) 0) (.cons (.ref 283) (.cons (.int (Int.ofNat 135) 0) (.cons (.int (Int.ofNat 4) 0) (.cons (.ref 290) (.cons (.int (Int.ofNat 139) 0) (.cons (.int (Int.ofNat 4) 0) (.cons (.ref 295) []))))))))))))))))))))))))))))))))))) (.mk []))
def o1_216 (w : World) : Obj := (.mk (.type "code") none (.fields (.mk [(.str "Bounds" 450), (.str "Bounds" 451), (.str "/claim/cut.py" 452), (.int (Int.ofNat 73) 0), (.int (Int.ofNat 0) 0), (.int (Int.ofNat 0) 0), (.int (Int.ofNat 0) 0), (.int (Int.ofNat 0) 0), (.ref 214), (.bool false), (.int (Int.ofNat 181) 0), (.ref 215), .none, .none, .none, .none, (.int (Int.ofNat 453) 0), (.int (Int.ofNat 73) 0), (.str "/claim/cut.py" 454)])) (.mk []))
def o1_217 (w : World) : Obj := (.mk (.type "frame") none .plain (.mk [(some (.ref 216)), (some (.ref 3)), (some (.ref 213)), none, (some (.str "haulprices.bounds" 415)), none, (some (.ref 0))]))
def o1_218 (w : World) : Obj := (.mk (.type "tuple") none (.seq (.mk []) 0) (.mk []))
def o1_219 (w : World) : Obj := (.mk (.type "tuple") none (.seq (.mk [(.ref 218)]) 0) (.mk []))
def o1_220 (w : World) : Obj := (.mk (.type "tuple") none (.seq (.mk []) 0) (.mk []))
def o1_221 (w : World) : Obj := (.mk .none none (.fields (.mk [])) (.mk []))
def o1_222 (w : World) : Obj := (.mk (.type "tuple") none (.seq (.mk [(.str "self" 463), (.str "stops" 464), (.str "ranges" 465), (.str "index" 466), (.str "one" 467)]) 0) (.mk []))
def o1_223 (w : World) : Obj := (.mk (.type "tuple") none (.seq (.mk []) 0) (.mk []))
def o1_224 (w : World) : Obj := (.mk .none none (.func (FuncData.mk "__init__" "Bounds.__init__" (L2.defArgs ((MP.clsB (HP.top 24)).getD 0 (.Pass ⟨0, 0, 0, 0⟩))) (FuncBody.stmts (L2.defBody ((MP.clsB (HP.top 24)).getD 0 (.Pass ⟨0, 0, 0, 0⟩)))) (L2.defScope ((MP.clsB (HP.top 24)).getD 0 (.Pass ⟨0, 0, 0, 0⟩))) 0 [] .none .none .none .none none .none .none 0)) (.mk []))
def o1_225 (w : World) : Obj := (.mk (.type "code") none (.fields (.mk [(.str "__init__" 460), (.str "Bounds.__init__" 461), (.str "/claim/cut.py" 462), (.int (Int.ofNat 75) 0), (.int (Int.ofNat 3) 0), (.int (Int.ofNat 0) 0), (.int (Int.ofNat 0) 0), (.int (Int.ofNat 3) 0), (.ref 220), (.bool true), (.int (Int.ofNat 181) 0), (.ref 221), .none, (.ref 222), (.ref 223), (.ref 224), (.int (Int.ofNat 468) 0), (.int (Int.ofNat 75) 0), (.str "/claim/cut.py" 469)])) (.mk []))
def o1_226 (w : World) : Obj := (.mk (.type "function") none (.func (FuncData.mk "__init__" "Bounds.__init__" (L2.defArgs ((MP.clsB (HP.top 24)).getD 0 (.Pass ⟨0, 0, 0, 0⟩))) (FuncBody.stmts (L2.defBody ((MP.clsB (HP.top 24)).getD 0 (.Pass ⟨0, 0, 0, 0⟩)))) (L2.defScope ((MP.clsB (HP.top 24)).getD 0 (.Pass ⟨0, 0, 0, 0⟩))) 3 [] (.ref 219) .none .none (.str "haulprices.bounds" 415) none (.ref 225) .none 0)) (.mk []))
def o1_227 (w : World) : Obj := (.mk (.type "tuple") none (.seq (.mk []) 0) (.mk []))
def o1_228 (w : World) : Obj := (.mk .none none (.fields (.mk [])) (.mk []))
def o1_229 (w : World) : Obj := (.mk (.type "tuple") none (.seq (.mk [(.str "cls" 474), (.str "text" 475), (.str "lines" 476), (.str "stops" 477), (.str "ranges" 478), (.str "index" 479), (.str "line" 480), (.str "found" 481)]) 0) (.mk []))
def o1_230 (w : World) : Obj := (.mk (.type "tuple") none (.seq (.mk []) 0) (.mk []))
def o1_231 (w : World) : Obj := (.mk .none none (.func (FuncData.mk "read" "Bounds.read" (L2.defArgs ((MP.clsB (HP.top 24)).getD 1 (.Pass ⟨0, 0, 0, 0⟩))) (FuncBody.stmts (L2.defBody ((MP.clsB (HP.top 24)).getD 1 (.Pass ⟨0, 0, 0, 0⟩)))) (L2.defScope ((MP.clsB (HP.top 24)).getD 1 (.Pass ⟨0, 0, 0, 0⟩))) 0 [] .none .none .none .none none .none .none 0)) (.mk []))
def o1_232 (w : World) : Obj := (.mk (.type "code") none (.fields (.mk [(.str "read" 471), (.str "Bounds.read" 472), (.str "/claim/cut.py" 473), (.int (Int.ofNat 84) 0), (.int (Int.ofNat 2) 0), (.int (Int.ofNat 0) 0), (.int (Int.ofNat 0) 0), (.int (Int.ofNat 3) 0), (.ref 227), (.bool true), (.int (Int.ofNat 181) 0), (.ref 228), .none, (.ref 229), (.ref 230), (.ref 231), (.int (Int.ofNat 482) 0), (.int (Int.ofNat 84) 0), (.str "/claim/cut.py" 483)])) (.mk []))
def o1_233 (w : World) : Obj := (.mk (.type "function") none (.func (FuncData.mk "read" "Bounds.read" (L2.defArgs ((MP.clsB (HP.top 24)).getD 1 (.Pass ⟨0, 0, 0, 0⟩))) (FuncBody.stmts (L2.defBody ((MP.clsB (HP.top 24)).getD 1 (.Pass ⟨0, 0, 0, 0⟩)))) (L2.defScope ((MP.clsB (HP.top 24)).getD 1 (.Pass ⟨0, 0, 0, 0⟩))) 3 [] .none .none .none (.str "haulprices.bounds" 415) (some 236) (.ref 232) .none 0)) (.mk []))
def o1_234 (w : World) : Obj := (.mk (.type "dict") none (.dict (.mk [(.mk (HQ.hS w "__module__") (.str "__module__" 485) (.str "haulprices.bounds" 415)), (.mk (HQ.hS w "__name__") (.str "__name__" 488) (.str "read" 487)), (.mk (HQ.hS w "__qualname__") (.str "__qualname__" 491) (.str "Bounds.read" 490)), (.mk (HQ.hS w "__doc__") (.str "__doc__" 493) .none), (.mk (HQ.hS w "__annotations__") (.str "__annotations__" 495) (.ref 236))]) 5) (.mk []))
def o1_235 (w : World) : Obj := (.mk (.type "classmethod") (some 234) (.fields (.mk [(.ref 233), (.bool false)])) (.mk []))
def o1_236 (w : World) : Obj := (.mk (.type "dict") none (.dict (.mk []) 0) (.mk []))
def o1_237 (w : World) : Obj := (.mk (.type "tuple") none (.seq (.mk []) 0) (.mk []))
def o1_238 (w : World) : Obj := (.mk .none none (.fields (.mk [])) (.mk []))
def o1_239 (w : World) : Obj := (.mk .none none (.func (FuncData.mk "seen" "Bounds.seen" (L2.defArgs ((MP.clsB (HP.top 24)).getD 2 (.Pass ⟨0, 0, 0, 0⟩))) (FuncBody.stmts (L2.defBody ((MP.clsB (HP.top 24)).getD 2 (.Pass ⟨0, 0, 0, 0⟩)))) (L2.defScope ((MP.clsB (HP.top 24)).getD 2 (.Pass ⟨0, 0, 0, 0⟩))) 0 [] .none .none .none .none none .none .none 0)) (.mk []))
def o1_240 (w : World) : Obj := (.mk (.type "code") none (.fields (.mk [(.str "seen" 497), (.str "Bounds.seen" 498), (.str "/claim/cut.py" 499), (.int (Int.ofNat 100) 0), (.int (Int.ofNat 3) 0), (.int (Int.ofNat 0) 0), (.int (Int.ofNat 0) 0), (.int (Int.ofNat 3) 0), (.ref 237), (.bool true), (.int (Int.ofNat 181) 0), (.ref 238), .none, .none, .none, (.ref 239), (.int (Int.ofNat 500) 0), (.int (Int.ofNat 100) 0), (.str "/claim/cut.py" 501)])) (.mk []))
def o1_241 (w : World) : Obj := (.mk (.type "function") none (.func (FuncData.mk "seen" "Bounds.seen" (L2.defArgs ((MP.clsB (HP.top 24)).getD 2 (.Pass ⟨0, 0, 0, 0⟩))) (FuncBody.stmts (L2.defBody ((MP.clsB (HP.top 24)).getD 2 (.Pass ⟨0, 0, 0, 0⟩)))) (L2.defScope ((MP.clsB (HP.top 24)).getD 2 (.Pass ⟨0, 0, 0, 0⟩))) 3 [] .none .none .none (.str "haulprices.bounds" 415) (some 244) (.ref 240) .none 0)) (.mk []))
def o1_242 (w : World) : Obj := (.mk (.type "dict") none (.dict (.mk [(.mk (HQ.hS w "__module__") (.str "__module__" 503) (.str "haulprices.bounds" 415)), (.mk (HQ.hS w "__name__") (.str "__name__" 506) (.str "seen" 505)), (.mk (HQ.hS w "__qualname__") (.str "__qualname__" 509) (.str "Bounds.seen" 508)), (.mk (HQ.hS w "__doc__") (.str "__doc__" 511) .none), (.mk (HQ.hS w "__annotations__") (.str "__annotations__" 513) (.ref 244))]) 5) (.mk []))
def o1_243 (w : World) : Obj := (.mk (.type "classmethod") (some 242) (.fields (.mk [(.ref 241), (.bool false)])) (.mk []))
def o1_244 (w : World) : Obj := (.mk (.type "dict") none (.dict (.mk []) 0) (.mk []))
def o1_245 (w : World) : Obj := (.mk (.type "tuple") none (.seq (.mk []) 0) (.mk []))
def o1_246 (w : World) : Obj := (.mk .none none (.fields (.mk [])) (.mk []))
def o1_247 (w : World) : Obj := (.mk (.type "tuple") none (.seq (.mk [(.str "self" 518)]) 0) (.mk []))
def o1_248 (w : World) : Obj := (.mk (.type "tuple") none (.seq (.mk []) 0) (.mk []))
def o1_249 (w : World) : Obj := (.mk .none none (.func (FuncData.mk "stops" "Bounds.stops" (L2.defArgs ((MP.clsB (HP.top 24)).getD 3 (.Pass ⟨0, 0, 0, 0⟩))) (FuncBody.stmts (L2.defBody ((MP.clsB (HP.top 24)).getD 3 (.Pass ⟨0, 0, 0, 0⟩)))) (L2.defScope ((MP.clsB (HP.top 24)).getD 3 (.Pass ⟨0, 0, 0, 0⟩))) 0 [] .none .none .none .none none .none .none 0)) (.mk []))
def o1_250 (w : World) : Obj := (.mk (.type "code") none (.fields (.mk [(.str "stops" 515), (.str "Bounds.stops" 516), (.str "/claim/cut.py" 517), (.int (Int.ofNat 110) 0), (.int (Int.ofNat 1) 0), (.int (Int.ofNat 0) 0), (.int (Int.ofNat 0) 0), (.int (Int.ofNat 3) 0), (.ref 245), (.bool true), (.int (Int.ofNat 181) 0), (.ref 246), .none, (.ref 247), (.ref 248), (.ref 249), (.int (Int.ofNat 519) 0), (.int (Int.ofNat 110) 0), (.str "/claim/cut.py" 520)])) (.mk []))
def o1_251 (w : World) : Obj := (.mk (.type "function") none (.func (FuncData.mk "stops" "Bounds.stops" (L2.defArgs ((MP.clsB (HP.top 24)).getD 3 (.Pass ⟨0, 0, 0, 0⟩))) (FuncBody.stmts (L2.defBody ((MP.clsB (HP.top 24)).getD 3 (.Pass ⟨0, 0, 0, 0⟩)))) (L2.defScope ((MP.clsB (HP.top 24)).getD 3 (.Pass ⟨0, 0, 0, 0⟩))) 3 [] .none .none .none (.str "haulprices.bounds" 415) none (.ref 250) .none 0)) (.mk []))
def o1_252 (w : World) : Obj := (.mk (.type "property") none (.fields (.mk [(.ref 251), .none, .none, .none, (.str "stops" 522), (.bool false)])) (.mk []))
def o1_253 (w : World) : Obj := (.mk (.type "tuple") none (.seq (.mk []) 0) (.mk []))
def o1_254 (w : World) : Obj := (.mk .none none (.fields (.mk [])) (.mk []))
def o1_255 (w : World) : Obj := (.mk (.type "tuple") none (.seq (.mk [(.str "self" 526)]) 0) (.mk []))
def o1_256 (w : World) : Obj := (.mk (.type "tuple") none (.seq (.mk []) 0) (.mk []))
def o1_257 (w : World) : Obj := (.mk .none none (.func (FuncData.mk "ranges" "Bounds.ranges" (L2.defArgs ((MP.clsB (HP.top 24)).getD 4 (.Pass ⟨0, 0, 0, 0⟩))) (FuncBody.stmts (L2.defBody ((MP.clsB (HP.top 24)).getD 4 (.Pass ⟨0, 0, 0, 0⟩)))) (L2.defScope ((MP.clsB (HP.top 24)).getD 4 (.Pass ⟨0, 0, 0, 0⟩))) 0 [] .none .none .none .none none .none .none 0)) (.mk []))
def o1_258 (w : World) : Obj := (.mk (.type "code") none (.fields (.mk [(.str "ranges" 523), (.str "Bounds.ranges" 524), (.str "/claim/cut.py" 525), (.int (Int.ofNat 114) 0), (.int (Int.ofNat 1) 0), (.int (Int.ofNat 0) 0), (.int (Int.ofNat 0) 0), (.int (Int.ofNat 3) 0), (.ref 253), (.bool true), (.int (Int.ofNat 181) 0), (.ref 254), .none, (.ref 255), (.ref 256), (.ref 257), (.int (Int.ofNat 527) 0), (.int (Int.ofNat 114) 0), (.str "/claim/cut.py" 528)])) (.mk []))
def o1_259 (w : World) : Obj := (.mk (.type "function") none (.func (FuncData.mk "ranges" "Bounds.ranges" (L2.defArgs ((MP.clsB (HP.top 24)).getD 4 (.Pass ⟨0, 0, 0, 0⟩))) (FuncBody.stmts (L2.defBody ((MP.clsB (HP.top 24)).getD 4 (.Pass ⟨0, 0, 0, 0⟩)))) (L2.defScope ((MP.clsB (HP.top 24)).getD 4 (.Pass ⟨0, 0, 0, 0⟩))) 3 [] .none .none .none (.str "haulprices.bounds" 415) none (.ref 258) .none 0)) (.mk []))
def o1_260 (w : World) : Obj := (.mk (.type "property") none (.fields (.mk [(.ref 259), .none, .none, .none, (.str "ranges" 530), (.bool false)])) (.mk []))
def o1_261 (w : World) : Obj := (.mk (.type "tuple") none (.seq (.mk []) 0) (.mk []))
def o1_262 (w : World) : Obj := (.mk .none none (.fields (.mk [])) (.mk []))
def o1_263 (w : World) : Obj := (.mk (.type "tuple") none (.seq (.mk [(.str "self" 534), (.str "rows" 535), (.str "haul" 536), (.str "least" 537), (.str "greatest" 538)]) 0) (.mk []))
def o1_264 (w : World) : Obj := (.mk (.type "tuple") none (.seq (.mk []) 0) (.mk []))
def o1_265 (w : World) : Obj := (.mk .none none (.func (FuncData.mk "__str__" "Bounds.__str__" (L2.defArgs ((MP.clsB (HP.top 24)).getD 5 (.Pass ⟨0, 0, 0, 0⟩))) (FuncBody.stmts (L2.defBody ((MP.clsB (HP.top 24)).getD 5 (.Pass ⟨0, 0, 0, 0⟩)))) (L2.defScope ((MP.clsB (HP.top 24)).getD 5 (.Pass ⟨0, 0, 0, 0⟩))) 0 [] .none .none .none .none none .none .none 0)) (.mk []))
def o1_266 (w : World) : Obj := (.mk (.type "code") none (.fields (.mk [(.str "__str__" 531), (.str "Bounds.__str__" 532), (.str "/claim/cut.py" 533), (.int (Int.ofNat 118) 0), (.int (Int.ofNat 1) 0), (.int (Int.ofNat 0) 0), (.int (Int.ofNat 0) 0), (.int (Int.ofNat 3) 0), (.ref 261), (.bool true), (.int (Int.ofNat 181) 0), (.ref 262), .none, (.ref 263), (.ref 264), (.ref 265), (.int (Int.ofNat 539) 0), (.int (Int.ofNat 118) 0), (.str "/claim/cut.py" 540)])) (.mk []))
def o1_267 (w : World) : Obj := (.mk (.type "function") none (.func (FuncData.mk "__str__" "Bounds.__str__" (L2.defArgs ((MP.clsB (HP.top 24)).getD 5 (.Pass ⟨0, 0, 0, 0⟩))) (FuncBody.stmts (L2.defBody ((MP.clsB (HP.top 24)).getD 5 (.Pass ⟨0, 0, 0, 0⟩)))) (L2.defScope ((MP.clsB (HP.top 24)).getD 5 (.Pass ⟨0, 0, 0, 0⟩))) 3 [] .none .none .none (.str "haulprices.bounds" 415) none (.ref 266) .none 0)) (.mk []))
def o1_268 (w : World) : Obj := (.mk (.type "tuple") none (.seq (.mk []) 0) (.mk []))
def o1_269 (w : World) : Obj := (.mk .none none (.fields (.mk [])) (.mk []))
def o1_270 (w : World) : Obj := (.mk (.type "tuple") none (.seq (.mk [(.str "self" 545), (.str "other" 546)]) 0) (.mk []))
def o1_271 (w : World) : Obj := (.mk (.type "tuple") none (.seq (.mk []) 0) (.mk []))
def o1_272 (w : World) : Obj := (.mk .none none (.func (FuncData.mk "__eq__" "Bounds.__eq__" (L2.defArgs ((MP.clsB (HP.top 24)).getD 6 (.Pass ⟨0, 0, 0, 0⟩))) (FuncBody.stmts (L2.defBody ((MP.clsB (HP.top 24)).getD 6 (.Pass ⟨0, 0, 0, 0⟩)))) (L2.defScope ((MP.clsB (HP.top 24)).getD 6 (.Pass ⟨0, 0, 0, 0⟩))) 0 [] .none .none .none .none none .none .none 0)) (.mk []))
def o1_273 (w : World) : Obj := (.mk (.type "code") none (.fields (.mk [(.str "__eq__" 542), (.str "Bounds.__eq__" 543), (.str "/claim/cut.py" 544), (.int (Int.ofNat 124) 0), (.int (Int.ofNat 2) 0), (.int (Int.ofNat 0) 0), (.int (Int.ofNat 0) 0), (.int (Int.ofNat 3) 0), (.ref 268), (.bool true), (.int (Int.ofNat 181) 0), (.ref 269), .none, (.ref 270), (.ref 271), (.ref 272), (.int (Int.ofNat 547) 0), (.int (Int.ofNat 124) 0), (.str "/claim/cut.py" 548)])) (.mk []))
def o1_274 (w : World) : Obj := (.mk (.type "function") none (.func (FuncData.mk "__eq__" "Bounds.__eq__" (L2.defArgs ((MP.clsB (HP.top 24)).getD 6 (.Pass ⟨0, 0, 0, 0⟩))) (FuncBody.stmts (L2.defBody ((MP.clsB (HP.top 24)).getD 6 (.Pass ⟨0, 0, 0, 0⟩)))) (L2.defScope ((MP.clsB (HP.top 24)).getD 6 (.Pass ⟨0, 0, 0, 0⟩))) 3 [] .none .none .none (.str "haulprices.bounds" 415) none (.ref 273) .none 0)) (.mk []))
def o1_275 (w : World) : Obj := (.mk (.type "tuple") none (.seq (.mk []) 0) (.mk []))
def o1_276 (w : World) : Obj := (.mk .none none (.fields (.mk [])) (.mk []))
def o1_277 (w : World) : Obj := (.mk .none none (.func (FuncData.mk "leasts" "Bounds.leasts" (L2.defArgs ((MP.clsB (HP.top 24)).getD 7 (.Pass ⟨0, 0, 0, 0⟩))) (FuncBody.stmts (L2.defBody ((MP.clsB (HP.top 24)).getD 7 (.Pass ⟨0, 0, 0, 0⟩)))) (L2.defScope ((MP.clsB (HP.top 24)).getD 7 (.Pass ⟨0, 0, 0, 0⟩))) 0 [] .none .none .none .none none .none .none 0)) (.mk []))
def o1_278 (w : World) : Obj := (.mk (.type "code") none (.fields (.mk [(.str "leasts" 550), (.str "Bounds.leasts" 551), (.str "/claim/cut.py" 552), (.int (Int.ofNat 127) 0), (.int (Int.ofNat 1) 0), (.int (Int.ofNat 0) 0), (.int (Int.ofNat 0) 0), (.int (Int.ofNat 3) 0), (.ref 275), (.bool true), (.int (Int.ofNat 181) 0), (.ref 276), .none, .none, .none, (.ref 277), (.int (Int.ofNat 553) 0), (.int (Int.ofNat 127) 0), (.str "/claim/cut.py" 554)])) (.mk []))
def o1_279 (w : World) : Obj := (.mk (.type "function") none (.func (FuncData.mk "leasts" "Bounds.leasts" (L2.defArgs ((MP.clsB (HP.top 24)).getD 7 (.Pass ⟨0, 0, 0, 0⟩))) (FuncBody.stmts (L2.defBody ((MP.clsB (HP.top 24)).getD 7 (.Pass ⟨0, 0, 0, 0⟩)))) (L2.defScope ((MP.clsB (HP.top 24)).getD 7 (.Pass ⟨0, 0, 0, 0⟩))) 3 [] .none .none .none (.str "haulprices.bounds" 415) none (.ref 278) .none 0)) (.mk []))
def o1_280 (w : World) : Obj := (.mk (.type "tuple") none (.seq (.mk []) 0) (.mk []))
def o1_281 (w : World) : Obj := (.mk .none none (.fields (.mk [])) (.mk []))
def o1_282 (w : World) : Obj := (.mk .none none (.func (FuncData.mk "greatests" "Bounds.greatests" (L2.defArgs ((MP.clsB (HP.top 24)).getD 8 (.Pass ⟨0, 0, 0, 0⟩))) (FuncBody.stmts (L2.defBody ((MP.clsB (HP.top 24)).getD 8 (.Pass ⟨0, 0, 0, 0⟩)))) (L2.defScope ((MP.clsB (HP.top 24)).getD 8 (.Pass ⟨0, 0, 0, 0⟩))) 0 [] .none .none .none .none none .none .none 0)) (.mk []))
def o1_283 (w : World) : Obj := (.mk (.type "code") none (.fields (.mk [(.str "greatests" 556), (.str "Bounds.greatests" 557), (.str "/claim/cut.py" 558), (.int (Int.ofNat 131) 0), (.int (Int.ofNat 1) 0), (.int (Int.ofNat 0) 0), (.int (Int.ofNat 0) 0), (.int (Int.ofNat 3) 0), (.ref 280), (.bool true), (.int (Int.ofNat 181) 0), (.ref 281), .none, .none, .none, (.ref 282), (.int (Int.ofNat 559) 0), (.int (Int.ofNat 131) 0), (.str "/claim/cut.py" 560)])) (.mk []))
def o1_284 (w : World) : Obj := (.mk (.type "function") none (.func (FuncData.mk "greatests" "Bounds.greatests" (L2.defArgs ((MP.clsB (HP.top 24)).getD 8 (.Pass ⟨0, 0, 0, 0⟩))) (FuncBody.stmts (L2.defBody ((MP.clsB (HP.top 24)).getD 8 (.Pass ⟨0, 0, 0, 0⟩)))) (L2.defScope ((MP.clsB (HP.top 24)).getD 8 (.Pass ⟨0, 0, 0, 0⟩))) 3 [] .none .none .none (.str "haulprices.bounds" 415) none (.ref 283) .none 0)) (.mk []))
def o1_285 (w : World) : Obj := (.mk (.type "tuple") none (.seq (.mk []) 0) (.mk []))
def o1_286 (w : World) : Obj := (.mk .none none (.fields (.mk [])) (.mk []))
def o1_287 (w : World) : Obj := (.mk (.type "tuple") none (.seq (.mk [(.str "self" 565), (.str "haul" 566)]) 0) (.mk []))
def o1_288 (w : World) : Obj := (.mk (.type "tuple") none (.seq (.mk []) 0) (.mk []))
def o1_289 (w : World) : Obj := (.mk .none none (.func (FuncData.mk "told" "Bounds.told" (L2.defArgs ((MP.clsB (HP.top 24)).getD 9 (.Pass ⟨0, 0, 0, 0⟩))) (FuncBody.stmts (L2.defBody ((MP.clsB (HP.top 24)).getD 9 (.Pass ⟨0, 0, 0, 0⟩)))) (L2.defScope ((MP.clsB (HP.top 24)).getD 9 (.Pass ⟨0, 0, 0, 0⟩))) 0 [] .none .none .none .none none .none .none 0)) (.mk []))
def o1_290 (w : World) : Obj := (.mk (.type "code") none (.fields (.mk [(.str "told" 562), (.str "Bounds.told" 563), (.str "/claim/cut.py" 564), (.int (Int.ofNat 135) 0), (.int (Int.ofNat 2) 0), (.int (Int.ofNat 0) 0), (.int (Int.ofNat 0) 0), (.int (Int.ofNat 3) 0), (.ref 285), (.bool true), (.int (Int.ofNat 181) 0), (.ref 286), .none, (.ref 287), (.ref 288), (.ref 289), (.int (Int.ofNat 567) 0), (.int (Int.ofNat 135) 0), (.str "/claim/cut.py" 568)])) (.mk []))
def o1_291 (w : World) : Obj := (.mk (.type "function") none (.func (FuncData.mk "told" "Bounds.told" (L2.defArgs ((MP.clsB (HP.top 24)).getD 9 (.Pass ⟨0, 0, 0, 0⟩))) (FuncBody.stmts (L2.defBody ((MP.clsB (HP.top 24)).getD 9 (.Pass ⟨0, 0, 0, 0⟩)))) (L2.defScope ((MP.clsB (HP.top 24)).getD 9 (.Pass ⟨0, 0, 0, 0⟩))) 3 [] .none .none .none (.str "haulprices.bounds" 415) none (.ref 290) .none 0)) (.mk []))
def o1_292 (w : World) : Obj := (.mk (.type "tuple") none (.seq (.mk []) 0) (.mk []))
def o1_293 (w : World) : Obj := (.mk .none none (.fields (.mk [])) (.mk []))
def o1_294 (w : World) : Obj := (.mk .none none (.func (FuncData.mk "without" "Bounds.without" (L2.defArgs ((MP.clsB (HP.top 24)).getD 10 (.Pass ⟨0, 0, 0, 0⟩))) (FuncBody.stmts (L2.defBody ((MP.clsB (HP.top 24)).getD 10 (.Pass ⟨0, 0, 0, 0⟩)))) (L2.defScope ((MP.clsB (HP.top 24)).getD 10 (.Pass ⟨0, 0, 0, 0⟩))) 0 [] .none .none .none .none none .none .none 0)) (.mk []))
def o1_295 (w : World) : Obj := (.mk (.type "code") none (.fields (.mk [(.str "without" 570), (.str "Bounds.without" 571), (.str "/claim/cut.py" 572), (.int (Int.ofNat 139) 0), (.int (Int.ofNat 2) 0), (.int (Int.ofNat 0) 0), (.int (Int.ofNat 0) 0), (.int (Int.ofNat 3) 0), (.ref 292), (.bool true), (.int (Int.ofNat 181) 0), (.ref 293), .none, .none, .none, (.ref 294), (.int (Int.ofNat 573) 0), (.int (Int.ofNat 139) 0), (.str "/claim/cut.py" 574)])) (.mk []))
def o1_296 (w : World) : Obj := (.mk (.type "function") none (.func (FuncData.mk "without" "Bounds.without" (L2.defArgs ((MP.clsB (HP.top 24)).getD 10 (.Pass ⟨0, 0, 0, 0⟩))) (FuncBody.stmts (L2.defBody ((MP.clsB (HP.top 24)).getD 10 (.Pass ⟨0, 0, 0, 0⟩)))) (L2.defScope ((MP.clsB (HP.top 24)).getD 10 (.Pass ⟨0, 0, 0, 0⟩))) 3 [] .none .none .none (.str "haulprices.bounds" 415) none (.ref 295) .none 0)) (.mk []))
def o1_297 (w : World) : Obj := (.mk (.type "tuple") none (.seq (.mk [(.str "all" 576)]) 0) (.mk []))
def o1_298 (w : World) : Obj := (.mk (.type "dict") none (.dict (.mk [(.mk (HQ.hS w "__module__") (.str "__module__" 455) (.str "haulprices.bounds" 415)), (.mk (HQ.hS w "__firstlineno__") (.str "__firstlineno__" 459) (.int (Int.ofNat 73) 458)), (.mk (HQ.hS w "__init__") (.str "__init__" 470) (.ref 226)), (.mk (HQ.hS w "read") (.str "read" 496) (.ref 235)), (.mk (HQ.hS w "seen") (.str "seen" 514) (.ref 243)), (.mk (HQ.hS w "stops") (.str "stops" 522) (.ref 252)), (.mk (HQ.hS w "ranges") (.str "ranges" 530) (.ref 260)), (.mk (HQ.hS w "__str__") (.str "__str__" 541) (.ref 267)), (.mk (HQ.hS w "__eq__") (.str "__eq__" 549) (.ref 274)), (.mk (HQ.hS w "leasts") (.str "leasts" 555) (.ref 279)), (.mk (HQ.hS w "greatests") (.str "greatests" 561) (.ref 284)), (.mk (HQ.hS w "told") (.str "told" 569) (.ref 291)), (.mk (HQ.hS w "without") (.str "without" 575) (.ref 296)), (.mk (HQ.hS w "__static_attributes__") (.str "__static_attributes__" 577) (.ref 297)), (.mk (HQ.hS w "__dict__") (.str "__dict__" 579) (.ref 300)), (.mk (HQ.hS w "__weakref__") (.str "__weakref__" 581) (.ref 301)), (.mk (HQ.hS w "__doc__") (.str "__doc__" 582) .none), (.mk (HQ.hS w "__hash__") (.str "__hash__" 583) .none)]) 5) (.mk []))
def o1_299 (w : World) : Obj := (.mk (.type "type") none (.cls (PySem.ClassData.mk "Bounds" [(.type "object")] [(.ref 299), (.type "object")] 298 "Bounds" true [] [] false none false)) (.mk [none, none, (some (.str "Bounds" 448)), (some (.str "Bounds" 456)), (some (.builtin "object.__new__")), (some (.bool true))]))
def o1_300 (w : World) : Obj := (.mk (.type "getset_descriptor") none (.fields (.mk [(.str "__dict__" 578), (.ref 299), (.builtin "function.__dict__"), (.builtin "function.__dict__#set")])) (.mk []))
def o1_301 (w : World) : Obj := (.mk (.type "getset_descriptor") none (.fields (.mk [(.str "__weakref__" 580), (.ref 299), (.builtin "ExceptionGroup.__weakref__"), .none])) (.mk []))
def o1_302 (w : World) : Obj := (.mk (.type "super") none (.fields (.mk [(.ref 299), (.ref 299), (.ref 299)])) (.mk []))
def o1_303 (w : World) : Obj := (.mk (.type "builtin_function_or_method") none (.fields (.mk [(.builtin "object.__init_subclass__"), (.ref 299)])) (.mk []))
def o1_304 (w : World) : Obj := (.mk (.type "tuple") none (.seq (.mk []) 0) (.mk []))
def o1_305 (w : World) : Obj := (.mk .none none (.fields (.mk [])) (.mk []))
def o1_306 (w : World) : Obj := (.mk (.type "tuple") none (.seq (.mk [(.str "_law_script" 591), (.str "_law_k" 592), (.str "_law_mixed" 593), (.str "_law_cell" 594), (.str "_law_own" 595), (.str "_law_digits" 596)]) 0) (.mk []))
def o1_307 (w : World) : Obj := (.mk (.type "tuple") none (.seq (.mk []) 0) (.mk []))
def o1_308 (w : World) : Obj := (.mk .none none (.func (FuncData.mk "_law_jar" "_law_jar" (L2.defArgs (HP.top 26)) (FuncBody.stmts (L2.defBody (HP.top 26))) (L2.defScope (HP.top 26)) 0 [] .none .none .none .none none .none .none 0)) (.mk []))
def o1_309 (w : World) : Obj := (.mk (.type "code") none (.fields (.mk [(.str "_law_jar" 588), (.str "_law_jar" 589), (.str "/claim/cut.py" 590), (.int (Int.ofNat 143) 0), (.int (Int.ofNat 2) 0), (.int (Int.ofNat 0) 0), (.int (Int.ofNat 0) 0), (.int (Int.ofNat 3) 0), (.ref 304), (.bool true), (.int (Int.ofNat 181) 0), (.ref 305), .none, (.ref 306), (.ref 307), (.ref 308), (.int (Int.ofNat 597) 0), (.int (Int.ofNat 143) 0), (.str "/claim/cut.py" 598)])) (.mk []))
def o1_310 (w : World) : Obj := (.mk (.type "function") none (.func (FuncData.mk "_law_jar" "_law_jar" (L2.defArgs (HP.top 26)) (FuncBody.stmts (L2.defBody (HP.top 26))) (L2.defScope (HP.top 26)) 3 [] .none .none .none (.str "law_haulprices_k08_bounds_and_texts" 586) none (.ref 309) .none 0)) (.mk []))
def o1_311 (w : World) : Obj := (.mk (.type "tuple") none (.seq (.mk []) 0) (.mk []))
def o1_312 (w : World) : Obj := (.mk .none none (.fields (.mk [])) (.mk []))
def o1_313 (w : World) : Obj := (.mk (.type "tuple") none (.seq (.mk [(.str "_law_jar_here" 603), (.str "_law_many" 604), (.str "_law_digit" 605), (.str "_law_seed" 606)]) 0) (.mk []))
def o1_314 (w : World) : Obj := (.mk (.type "tuple") none (.seq (.mk []) 0) (.mk []))
def o1_315 (w : World) : Obj := (.mk .none none (.func (FuncData.mk "_law_dip" "_law_dip" (L2.defArgs (HP.top 27)) (FuncBody.stmts (L2.defBody (HP.top 27))) (L2.defScope (HP.top 27)) 0 [] .none .none .none .none none .none .none 0)) (.mk []))
def o1_316 (w : World) : Obj := (.mk (.type "code") none (.fields (.mk [(.str "_law_dip" 600), (.str "_law_dip" 601), (.str "/claim/cut.py" 602), (.int (Int.ofNat 150) 0), (.int (Int.ofNat 2) 0), (.int (Int.ofNat 0) 0), (.int (Int.ofNat 0) 0), (.int (Int.ofNat 3) 0), (.ref 311), (.bool true), (.int (Int.ofNat 181) 0), (.ref 312), .none, (.ref 313), (.ref 314), (.ref 315), (.int (Int.ofNat 607) 0), (.int (Int.ofNat 150) 0), (.str "/claim/cut.py" 608)])) (.mk []))
def o1_317 (w : World) : Obj := (.mk (.type "function") none (.func (FuncData.mk "_law_dip" "_law_dip" (L2.defArgs (HP.top 27)) (FuncBody.stmts (L2.defBody (HP.top 27))) (L2.defScope (HP.top 27)) 3 [] .none .none .none (.str "law_haulprices_k08_bounds_and_texts" 586) none (.ref 316) .none 0)) (.mk []))
def o1_318 (w : World) : Obj := (.mk (.type "tuple") none (.seq (.mk []) 0) (.mk []))
def o1_319 (w : World) : Obj := (.mk .none none (.fields (.mk [])) (.mk []))
def o1_320 (w : World) : Obj := (.mk (.type "tuple") none (.seq (.mk [(.str "_law_jar_here" 613), (.str "_law_menu" 614), (.str "_law_at" 615)]) 0) (.mk []))
def o1_321 (w : World) : Obj := (.mk (.type "tuple") none (.seq (.mk []) 0) (.mk []))
def o1_322 (w : World) : Obj := (.mk .none none (.func (FuncData.mk "_law_pick" "_law_pick" (L2.defArgs (HP.top 28)) (FuncBody.stmts (L2.defBody (HP.top 28))) (L2.defScope (HP.top 28)) 0 [] .none .none .none .none none .none .none 0)) (.mk []))
def o1_323 (w : World) : Obj := (.mk (.type "code") none (.fields (.mk [(.str "_law_pick" 610), (.str "_law_pick" 611), (.str "/claim/cut.py" 612), (.int (Int.ofNat 159) 0), (.int (Int.ofNat 2) 0), (.int (Int.ofNat 0) 0), (.int (Int.ofNat 0) 0), (.int (Int.ofNat 3) 0), (.ref 318), (.bool true), (.int (Int.ofNat 181) 0), (.ref 319), .none, (.ref 320), (.ref 321), (.ref 322), (.int (Int.ofNat 616) 0), (.int (Int.ofNat 159) 0), (.str "/claim/cut.py" 617)])) (.mk []))
def o1_324 (w : World) : Obj := (.mk (.type "function") none (.func (FuncData.mk "_law_pick" "_law_pick" (L2.defArgs (HP.top 28)) (FuncBody.stmts (L2.defBody (HP.top 28))) (L2.defScope (HP.top 28)) 3 [] .none .none .none (.str "law_haulprices_k08_bounds_and_texts" 586) none (.ref 323) .none 0)) (.mk []))
def o1_325 (w : World) : Obj := (.mk (.type "tuple") none (.seq (.mk []) 0) (.mk []))
def o1_326 (w : World) : Obj := (.mk .none none (.fields (.mk [])) (.mk []))
def o1_327 (w : World) : Obj := (.mk .none none (.func (FuncData.mk "_law_rides" "_law_rides" (L2.defArgs (HP.top 29)) (FuncBody.stmts (L2.defBody (HP.top 29))) (L2.defScope (HP.top 29)) 0 [] .none .none .none .none none .none .none 0)) (.mk []))
def o1_328 (w : World) : Obj := (.mk (.type "code") none (.fields (.mk [(.str "_law_rides" 619), (.str "_law_rides" 620), (.str "/claim/cut.py" 621), (.int (Int.ofNat 162) 0), (.int (Int.ofNat 1) 0), (.int (Int.ofNat 0) 0), (.int (Int.ofNat 0) 0), (.int (Int.ofNat 3) 0), (.ref 325), (.bool true), (.int (Int.ofNat 181) 0), (.ref 326), .none, .none, .none, (.ref 327), (.int (Int.ofNat 622) 0), (.int (Int.ofNat 162) 0), (.str "/claim/cut.py" 623)])) (.mk []))
def o1_329 (w : World) : Obj := (.mk (.type "function") none (.func (FuncData.mk "_law_rides" "_law_rides" (L2.defArgs (HP.top 29)) (FuncBody.stmts (L2.defBody (HP.top 29))) (L2.defScope (HP.top 29)) 3 [] .none .none .none (.str "law_haulprices_k08_bounds_and_texts" 586) none (.ref 328) .none 0)) (.mk []))
def o1_330 (w : World) : Obj := (.mk (.type "tuple") none (.seq (.mk []) 0) (.mk []))
def o1_331 (w : World) : Obj := (.mk .none none (.fields (.mk [])) (.mk []))
def o1_332 (w : World) : Obj := (.mk (.type "tuple") none (.seq (.mk [(.str "_law_jar_here" 628), (.str "_law_many" 629), (.str "_law_most" 630), (.str "_law_found" 631), (.str "_law_ride" 632), (.str "_law_low" 633), (.str "_law_high" 634)]) 0) (.mk []))
def o1_333 (w : World) : Obj := (.mk (.type "tuple") none (.seq (.mk []) 0) (.mk []))
def o1_334 (w : World) : Obj := (.mk .none none (.func (FuncData.mk "_law_spans" "_law_spans" (L2.defArgs (HP.top 30)) (FuncBody.stmts (L2.defBody (HP.top 30))) (L2.defScope (HP.top 30)) 0 [] .none .none .none .none none .none .none 0)) (.mk []))
def o1_335 (w : World) : Obj := (.mk (.type "code") none (.fields (.mk [(.str "_law_spans" 625), (.str "_law_spans" 626), (.str "/claim/cut.py" 627), (.int (Int.ofNat 167) 0), (.int (Int.ofNat 3) 0), (.int (Int.ofNat 0) 0), (.int (Int.ofNat 0) 0), (.int (Int.ofNat 3) 0), (.ref 330), (.bool true), (.int (Int.ofNat 181) 0), (.ref 331), .none, (.ref 332), (.ref 333), (.ref 334), (.int (Int.ofNat 635) 0), (.int (Int.ofNat 167) 0), (.str "/claim/cut.py" 636)])) (.mk []))
def o1_336 (w : World) : Obj := (.mk (.type "function") none (.func (FuncData.mk "_law_spans" "_law_spans" (L2.defArgs (HP.top 30)) (FuncBody.stmts (L2.defBody (HP.top 30))) (L2.defScope (HP.top 30)) 3 [] .none .none .none (.str "law_haulprices_k08_bounds_and_texts" 586) none (.ref 335) .none 0)) (.mk []))
def o1_337 (w : World) : Obj := (.mk (.type "tuple") none (.seq (.mk []) 0) (.mk []))
def o1_338 (w : World) : Obj := (.mk .none none (.fields (.mk [])) (.mk []))
def o1_339 (w : World) : Obj := (.mk (.type "tuple") none (.seq (.mk [(.str "_law_many" 641), (.str "_law_spans_here" 642), (.str "_law_low" 643), (.str "_law_high" 644), (.str "_law_ride" 645), (.str "_law_least" 646), (.str "_law_greatest" 647)]) 0) (.mk []))
def o1_340 (w : World) : Obj := (.mk (.type "tuple") none (.seq (.mk []) 0) (.mk []))
def o1_341 (w : World) : Obj := (.mk .none none (.func (FuncData.mk "_law_lows" "_law_lows" (L2.defArgs (HP.top 31)) (FuncBody.stmts (L2.defBody (HP.top 31))) (L2.defScope (HP.top 31)) 0 [] .none .none .none .none none .none .none 0)) (.mk []))
def o1_342 (w : World) : Obj := (.mk (.type "code") none (.fields (.mk [(.str "_law_lows" 638), (.str "_law_lows" 639), (.str "/claim/cut.py" 640), (.int (Int.ofNat 175) 0), (.int (Int.ofNat 2) 0), (.int (Int.ofNat 0) 0), (.int (Int.ofNat 0) 0), (.int (Int.ofNat 3) 0), (.ref 337), (.bool true), (.int (Int.ofNat 181) 0), (.ref 338), .none, (.ref 339), (.ref 340), (.ref 341), (.int (Int.ofNat 648) 0), (.int (Int.ofNat 175) 0), (.str "/claim/cut.py" 649)])) (.mk []))
def o1_343 (w : World) : Obj := (.mk (.type "function") none (.func (FuncData.mk "_law_lows" "_law_lows" (L2.defArgs (HP.top 31)) (FuncBody.stmts (L2.defBody (HP.top 31))) (L2.defScope (HP.top 31)) 3 [] .none .none .none (.str "law_haulprices_k08_bounds_and_texts" 586) none (.ref 342) .none 0)) (.mk []))
def o1_344 (w : World) : Obj := (.mk (.type "tuple") none (.seq (.mk []) 0) (.mk []))
def o1_345 (w : World) : Obj := (.mk .none none (.fields (.mk [])) (.mk []))
def o1_346 (w : World) : Obj := (.mk (.type "tuple") none (.seq (.mk [(.str "_law_many" 654), (.str "_law_spans_here" 655), (.str "_law_rows" 656), (.str "_law_ride" 657), (.str "_law_low" 658), (.str "_law_high" 659)]) 0) (.mk []))
def o1_347 (w : World) : Obj := (.mk (.type "tuple") none (.seq (.mk []) 0) (.mk []))
def o1_348 (w : World) : Obj := (.mk .none none (.func (FuncData.mk "_law_page" "_law_page" (L2.defArgs (HP.top 32)) (FuncBody.stmts (L2.defBody (HP.top 32))) (L2.defScope (HP.top 32)) 0 [] .none .none .none .none none .none .none 0)) (.mk []))
def o1_349 (w : World) : Obj := (.mk (.type "code") none (.fields (.mk [(.str "_law_page" 651), (.str "_law_page" 652), (.str "/claim/cut.py" 653), (.int (Int.ofNat 182) 0), (.int (Int.ofNat 2) 0), (.int (Int.ofNat 0) 0), (.int (Int.ofNat 0) 0), (.int (Int.ofNat 3) 0), (.ref 344), (.bool true), (.int (Int.ofNat 181) 0), (.ref 345), .none, (.ref 346), (.ref 347), (.ref 348), (.int (Int.ofNat 660) 0), (.int (Int.ofNat 182) 0), (.str "/claim/cut.py" 661)])) (.mk []))
def o1_350 (w : World) : Obj := (.mk (.type "function") none (.func (FuncData.mk "_law_page" "_law_page" (L2.defArgs (HP.top 32)) (FuncBody.stmts (L2.defBody (HP.top 32))) (L2.defScope (HP.top 32)) 3 [] .none .none .none (.str "law_haulprices_k08_bounds_and_texts" 586) none (.ref 349) .none 0)) (.mk []))
def o1_351 (w : World) : Obj := (.mk (.type "tuple") none (.seq (.mk []) 0) (.mk []))
def o1_352 (w : World) : Obj := (.mk .none none (.fields (.mk [])) (.mk []))
def o1_353 (w : World) : Obj := (.mk (.type "tuple") none (.seq (.mk [(.str "_law_frame" 666), (.str "_law_many" 667), (.str "_law_spans_here" 668), (.str "_law_low" 669), (.str "_law_high" 670), (.str "_law_ride" 671)]) 0) (.mk []))
def o1_354 (w : World) : Obj := (.mk (.type "tuple") none (.seq (.mk []) 0) (.mk []))
def o1_355 (w : World) : Obj := (.mk .none none (.func (FuncData.mk "_law_is_frame" "_law_is_frame" (L2.defArgs (HP.top 33)) (FuncBody.stmts (L2.defBody (HP.top 33))) (L2.defScope (HP.top 33)) 0 [] .none .none .none .none none .none .none 0)) (.mk []))
def o1_356 (w : World) : Obj := (.mk (.type "code") none (.fields (.mk [(.str "_law_is_frame" 663), (.str "_law_is_frame" 664), (.str "/claim/cut.py" 665), (.int (Int.ofNat 187) 0), (.int (Int.ofNat 3) 0), (.int (Int.ofNat 0) 0), (.int (Int.ofNat 0) 0), (.int (Int.ofNat 3) 0), (.ref 351), (.bool true), (.int (Int.ofNat 181) 0), (.ref 352), .none, (.ref 353), (.ref 354), (.ref 355), (.int (Int.ofNat 672) 0), (.int (Int.ofNat 187) 0), (.str "/claim/cut.py" 673)])) (.mk []))
def o1_357 (w : World) : Obj := (.mk (.type "function") none (.func (FuncData.mk "_law_is_frame" "_law_is_frame" (L2.defArgs (HP.top 33)) (FuncBody.stmts (L2.defBody (HP.top 33))) (L2.defScope (HP.top 33)) 3 [] .none .none .none (.str "law_haulprices_k08_bounds_and_texts" 586) none (.ref 356) .none 0)) (.mk []))
def o1_358 (w : World) : Obj := (.mk (.type "tuple") none (.seq (.mk []) 0) (.mk []))
def o1_359 (w : World) : Obj := (.mk .none none (.fields (.mk [])) (.mk []))
def o1_360 (w : World) : Obj := (.mk .none none (.func (FuncData.mk "_law_right" "_law_right" (L2.defArgs (HP.top 34)) (FuncBody.stmts (L2.defBody (HP.top 34))) (L2.defScope (HP.top 34)) 0 [] .none .none .none .none none .none .none 0)) (.mk []))
def o1_361 (w : World) : Obj := (.mk (.type "code") none (.fields (.mk [(.str "_law_right" 675), (.str "_law_right" 676), (.str "/claim/cut.py" 677), (.int (Int.ofNat 195) 0), (.int (Int.ofNat 1) 0), (.int (Int.ofNat 0) 0), (.int (Int.ofNat 0) 0), (.int (Int.ofNat 3) 0), (.ref 358), (.bool true), (.int (Int.ofNat 181) 0), (.ref 359), .none, .none, .none, (.ref 360), (.int (Int.ofNat 678) 0), (.int (Int.ofNat 195) 0), (.str "/claim/cut.py" 679)])) (.mk []))
def o1_362 (w : World) : Obj := (.mk (.type "function") none (.func (FuncData.mk "_law_right" "_law_right" (L2.defArgs (HP.top 34)) (FuncBody.stmts (L2.defBody (HP.top 34))) (L2.defScope (HP.top 34)) 3 [] .none .none .none (.str "law_haulprices_k08_bounds_and_texts" 586) none (.ref 361) .none 0)) (.mk []))
def l1_0 (w : World) : List Obj := [o1_0 w, o1_1 w, o1_2 w, o1_3 w, o1_4 w, o1_5 w, o1_6 w, o1_7 w, o1_8 w, o1_9 w, o1_10 w, o1_11 w, o1_12 w, o1_13 w, o1_14 w, o1_15 w, o1_16 w, o1_17 w, o1_18 w, o1_19 w, o1_20 w, o1_21 w, o1_22 w, o1_23 w, o1_24 w]
def l1_1 (w : World) : List Obj := [o1_25 w, o1_26 w, o1_27 w, o1_28 w, o1_29 w, o1_30 w, o1_31 w, o1_32 w, o1_33 w, o1_34 w, o1_35 w, o1_36 w, o1_37 w, o1_38 w, o1_39 w, o1_40 w, o1_41 w, o1_42 w, o1_43 w, o1_44 w, o1_45 w, o1_46 w, o1_47 w, o1_48 w, o1_49 w]
def l1_2 (w : World) : List Obj := [o1_50 w, o1_51 w, o1_52 w, o1_53 w, o1_54 w, o1_55 w, o1_56 w, o1_57 w, o1_58 w, o1_59 w, o1_60 w, o1_61 w, o1_62 w, o1_63 w, o1_64 w, o1_65 w, o1_66 w, o1_67 w, o1_68 w, o1_69 w, o1_70 w, o1_71 w, o1_72 w, o1_73 w, o1_74 w]
def l1_3 (w : World) : List Obj := [o1_75 w, o1_76 w, o1_77 w, o1_78 w, o1_79 w, o1_80 w, o1_81 w, o1_82 w, o1_83 w, o1_84 w, o1_85 w, o1_86 w, o1_87 w, o1_88 w, o1_89 w, o1_90 w, o1_91 w, o1_92 w, o1_93 w, o1_94 w, o1_95 w, o1_96 w, o1_97 w, o1_98 w, o1_99 w]
def l1_4 (w : World) : List Obj := [o1_100 w, o1_101 w, o1_102 w, o1_103 w, o1_104 w, o1_105 w, o1_106 w, o1_107 w, o1_108 w, o1_109 w, o1_110 w, o1_111 w, o1_112 w, o1_113 w, o1_114 w, o1_115 w, o1_116 w, o1_117 w, o1_118 w, o1_119 w, o1_120 w, o1_121 w, o1_122 w, o1_123 w, o1_124 w]
def l1_5 (w : World) : List Obj := [o1_125 w, o1_126 w, o1_127 w, o1_128 w, o1_129 w, o1_130 w, o1_131 w, o1_132 w, o1_133 w, o1_134 w, o1_135 w, o1_136 w, o1_137 w, o1_138 w, o1_139 w, o1_140 w, o1_141 w, o1_142 w, o1_143 w, o1_144 w, o1_145 w, o1_146 w, o1_147 w, o1_148 w, o1_149 w]
def l1_6 (w : World) : List Obj := [o1_150 w, o1_151 w, o1_152 w, o1_153 w, o1_154 w, o1_155 w, o1_156 w, o1_157 w, o1_158 w, o1_159 w, o1_160 w, o1_161 w, o1_162 w, o1_163 w, o1_164 w, o1_165 w, o1_166 w, o1_167 w, o1_168 w, o1_169 w, o1_170 w, o1_171 w, o1_172 w, o1_173 w, o1_174 w]
def l1_7 (w : World) : List Obj := [o1_175 w, o1_176 w, o1_177 w, o1_178 w, o1_179 w, o1_180 w, o1_181 w, o1_182 w, o1_183 w, o1_184 w, o1_185 w, o1_186 w, o1_187 w, o1_188 w, o1_189 w, o1_190 w, o1_191 w, o1_192 w, o1_193 w, o1_194 w, o1_195 w, o1_196 w, o1_197 w, o1_198 w, o1_199 w]
def l1_8 (w : World) : List Obj := [o1_200 w, o1_201 w, o1_202 w, o1_203 w, o1_204 w, o1_205 w, o1_206 w, o1_207 w, o1_208 w, o1_209 w, o1_210 w, o1_211 w, o1_212 w, o1_213 w, o1_214 w, o1_215 w, o1_216 w, o1_217 w, o1_218 w, o1_219 w, o1_220 w, o1_221 w, o1_222 w, o1_223 w, o1_224 w]
def l1_9 (w : World) : List Obj := [o1_225 w, o1_226 w, o1_227 w, o1_228 w, o1_229 w, o1_230 w, o1_231 w, o1_232 w, o1_233 w, o1_234 w, o1_235 w, o1_236 w, o1_237 w, o1_238 w, o1_239 w, o1_240 w, o1_241 w, o1_242 w, o1_243 w, o1_244 w, o1_245 w, o1_246 w, o1_247 w, o1_248 w, o1_249 w]
def l1_10 (w : World) : List Obj := [o1_250 w, o1_251 w, o1_252 w, o1_253 w, o1_254 w, o1_255 w, o1_256 w, o1_257 w, o1_258 w, o1_259 w, o1_260 w, o1_261 w, o1_262 w, o1_263 w, o1_264 w, o1_265 w, o1_266 w, o1_267 w, o1_268 w, o1_269 w, o1_270 w, o1_271 w, o1_272 w, o1_273 w, o1_274 w]
def l1_11 (w : World) : List Obj := [o1_275 w, o1_276 w, o1_277 w, o1_278 w, o1_279 w, o1_280 w, o1_281 w, o1_282 w, o1_283 w, o1_284 w, o1_285 w, o1_286 w, o1_287 w, o1_288 w, o1_289 w, o1_290 w, o1_291 w, o1_292 w, o1_293 w, o1_294 w, o1_295 w, o1_296 w, o1_297 w, o1_298 w, o1_299 w]
def l1_12 (w : World) : List Obj := [o1_300 w, o1_301 w, o1_302 w, o1_303 w, o1_304 w, o1_305 w, o1_306 w, o1_307 w, o1_308 w, o1_309 w, o1_310 w, o1_311 w, o1_312 w, o1_313 w, o1_314 w, o1_315 w, o1_316 w, o1_317 w, o1_318 w, o1_319 w, o1_320 w, o1_321 w, o1_322 w, o1_323 w, o1_324 w]
def l1_13 (w : World) : List Obj := [o1_325 w, o1_326 w, o1_327 w, o1_328 w, o1_329 w, o1_330 w, o1_331 w, o1_332 w, o1_333 w, o1_334 w, o1_335 w, o1_336 w, o1_337 w, o1_338 w, o1_339 w, o1_340 w, o1_341 w, o1_342 w, o1_343 w, o1_344 w, o1_345 w, o1_346 w, o1_347 w, o1_348 w, o1_349 w]
def l1_14 (w : World) : List Obj := [o1_350 w, o1_351 w, o1_352 w, o1_353 w, o1_354 w, o1_355 w, o1_356 w, o1_357 w, o1_358 w, o1_359 w, o1_360 w, o1_361 w, o1_362 w]
def ll1 (w : World) : List Obj := l1_0 w ++ (l1_1 w ++ (l1_2 w ++ (l1_3 w ++ (l1_4 w ++ (l1_5 w ++ (l1_6 w ++ (l1_7 w ++ (l1_8 w ++ (l1_9 w ++ (l1_10 w ++ (l1_11 w ++ (l1_12 w ++ (l1_13 w ++ (l1_14 w))))))))))))))
def S1 (w : World) (os : OsState) : SharedT := stOf w os (ll1 w) 363 681
def T1 (w : World) (os : OsState) : Thread := thOf PG w os 13 14 35 (PySem.Pos.mk 195 0 222 41)
theorem part1 (w : World) (os : OsState) : beg (stepQ (denQ tabQ) PG w) 3262 PG w os = some (S1 w os, T1 w os) := by kernel_rfl
def o2_3 (w : World) : Obj := (.mk (.type "dict") none (.dict (.mk (.cons (.mk (HQ.hS w "__name__") (.str "__name__" 165) (.str "law_haulprices_k08_bounds_and_texts" 586)) (.cons (.mk (HQ.hS w "__doc__") (.str "__doc__" 166) .none) (.cons (.mk (HQ.hS w "__package__") (.str "__package__" 167) .none) (.cons (.mk (HQ.hS w "__loader__") (.str "__loader__" 168) (.builtin "__main__.__loader__#opaque")) (.cons (.mk (HQ.hS w "__spec__") (.str "__spec__" 169) .none) (.cons (.mk (HQ.hS w "__annotations__") (.str "__annotations__" 170) (.ref 6)) (.cons (.mk (HQ.hS w "__builtins__") (.str "__builtins__" 171) (.ref 4)) (.cons (.mk (HQ.hS w "__file__") (.str "__file__" 173) (.str "/claim/cut.py" 172)) (.cons (.mk (HQ.hS w "__cached__") (.str "__cached__" 174) .none) (.cons (.mk (HQ.hS w "WrongValue") (.str "WrongValue" 206) (.ref 24)) (.cons (.mk (HQ.hS w "InvalidStops") (.str "InvalidStops" 231) (.ref 44)) (.cons (.mk (HQ.hS w "InvalidHaul") (.str "InvalidHaul" 256) (.ref 63)) (.cons (.mk (HQ.hS w "InvalidText") (.str "InvalidText" 281) (.ref 82)) (.cons (.mk (HQ.hS w "InvalidRanges") (.str "InvalidRanges" 306) (.ref 101)) (.cons (.mk (HQ.hS w "InvalidTickets") (.str "InvalidTickets" 331) (.ref 120)) (.cons (.mk (HQ.hS w "WrongRow") (.str "WrongRow" 356) (.ref 139)) (.cons (.mk (HQ.hS w "MOST_STOPS") (.str "MOST_STOPS" 358) (.int (Int.ofNat 10) 357)) (.cons (.mk (HQ.hS w "MOST_PRICE") (.str "MOST_PRICE" 362) (.int (Int.ofNat 1000000000000) 361)) (.cons (.mk (HQ.hS w "is_integer") (.str "is_integer" 371) (.ref 148)) (.cons (.mk (HQ.hS w "is_within") (.str "is_within" 380) (.ref 155)) (.cons (.mk (HQ.hS w "is_price") (.str "is_price" 387) (.ref 162)) (.cons (.mk (HQ.hS w "is_haul") (.str "is_haul" 393) (.ref 167)) (.cons (.mk (HQ.hS w "hauls_of") (.str "hauls_of" 399) (.ref 172)) (.cons (.mk (HQ.hS w "check_stops") (.str "check_stops" 406) (.ref 179)) (.cons (.mk (HQ.hS w "check_haul") (.str "check_haul" 414) (.ref 186)) (.cons (.mk (HQ.hS w "DIGITS") (.str "DIGITS" 418) (.str "0123456789" 417)) (.cons (.mk (HQ.hS w "is_range") (.str "is_range" 426) (.ref 193)) (.cons (.mk (HQ.hS w "number_in") (.str "number_in" 432) (.ref 198)) (.cons (.mk (HQ.hS w "stops_in") (.str "stops_in" 441) (.ref 205)) (.cons (.mk (HQ.hS w "range_in") (.str "range_in" 447) (.ref 210)) (.cons (.mk (HQ.hS w "Bounds") (.str "Bounds" 585) (.ref 299)) (.cons (.mk (HQ.hS w "_law_jar") (.str "_law_jar" 599) (.ref 310)) (.cons (.mk (HQ.hS w "_law_dip") (.str "_law_dip" 609) (.ref 317)) (.cons (.mk (HQ.hS w "_law_pick") (.str "_law_pick" 618) (.ref 324)) (.cons (.mk (HQ.hS w "_law_rides") (.str "_law_rides" 624) (.ref 329)) (.cons (.mk (HQ.hS w "_law_spans") (.str "_law_spans" 637) (.ref 336)) (.cons (.mk (HQ.hS w "_law_lows") (.str "_law_lows" 650) (.ref 343)) (.cons (.mk (HQ.hS w "_law_page") (.str "_law_page" 662) (.ref 350)) (.cons (.mk (HQ.hS w "_law_is_frame") (.str "_law_is_frame" 674) (.ref 357)) (.cons (.mk (HQ.hS w "_law_right") (.str "_law_right" 680) (.ref 362)) (.cons (.mk (HQ.hS w "law") (.str "law" 686) (.ref 367)) [])))))))))))))))))))))))))))))))))))))))))) 41) (.mk []))
def o2_12 (w : World) : Obj := (.mk .none none (.fields (.mk (.cons (.int (Int.ofNat 2) 0) (.cons (.int (Int.ofNat 0) 0) (.cons (.ref 20) (.cons (.int (Int.ofNat 4) 0) (.cons (.int (Int.ofNat 0) 0) (.cons (.ref 33) (.cons (.int (Int.ofNat 8) 0) (.cons (.int (Int.ofNat 0) 0) (.cons (.ref 52) (.cons (.int (Int.ofNat 12) 0) (.cons (.int (Int.ofNat 0) 0) (.cons (.ref 71) (.cons (.int (Int.ofNat 16) 0) (.cons (.int (Int.ofNat 0) 0) (.cons (.ref 90) (.cons (.int (Int.ofNat 20) 0) (.cons (.int (Int.ofNat 0) 0) (.cons (.ref 109) (.cons (.int (Int.ofNat 24) 0) (.cons (.int (Int.ofNat 0) 0) (.cons (.ref 128) (.cons (.int (Int.ofNat 31) 0) (.cons (.int (Int.ofNat 0) 0) (.cons (.ref 147) (.cons (.int (Int.ofNat 33) 0) (.cons (.int (Int.ofNat 0) 0) (.cons (.ref 154) (.cons (.int (Int.ofNat 35) 0) (.cons (.int (Int.ofNat 0) 0) (.cons (.ref 161) (.cons (.int (Int.ofNat 37) 0) (.cons (.int (Int.ofNat 0) 0) (.cons (.ref 166) (.cons (.int (Int.ofNat 41) 0) (.cons (.int (Int.ofNat 0) 0) (.cons (.ref 171) (.cons (.int (Int.ofNat 46) 0) (.cons (.int (Int.ofNat 0) 0) (.cons (.ref 178) (.cons (.int (Int.ofNat 49) 0) (.cons (.int (Int.ofNat 0) 0) (.cons (.ref 185) (.cons (.int (Int.ofNat 54) 0) (.cons (.int (Int.ofNat 0) 0) (.cons (.ref 192) (.cons (.int (Int.ofNat 58) 0) (.cons (.int (Int.ofNat 0) 0) (.cons (.ref 197) (.cons (.int (Int.ofNat 62) 0) (.cons (.int (Int.ofNat 0) 0) (.cons (.ref 204) (.cons (.int (Int.ofNat 66) 0) (.cons (.int (Int.ofNat 0) 0) (.cons (.ref 209) (.cons (.int (Int.ofNat 73) 0) (.cons (.int (Int.ofNat 0) 0) (.cons (.ref 216) (.cons (.int (Int.ofNat 143) 0) (.cons (.int (Int.ofNat 0) 0) (.cons (.ref 309) (.cons (.int (Int.ofNat 150) 0) (.cons (.int (Int.ofNat 0) 0) (.cons (.ref 316) (.cons (.int (Int.ofNat 159) 0) (.cons (.int (Int.ofNat 0) 0) (.cons (.ref 323) (.cons (.int (Int.ofNat 162) 0) (.cons (.int (Int.ofNat 0) 0) (.cons (.ref 328) (.cons (.int (Int.ofNat 167) 0) (.cons (.int (Int.ofNat 0) 0) (.cons (.ref 335) (.cons (.int (Int.ofNat 175) 0) (.cons (.int (Int.ofNat 0) 0) (.cons (.ref 342) (.cons (.int (Int.ofNat 182) 0) (.cons (.int (Int.ofNat 0) 0) (.cons (.ref 349) (.cons (.int (Int.ofNat 187) 0) (.cons (.int (Int.ofNat 0) 0) (.cons (.ref 356) (.cons (.int (Int.ofNat 195) 0) (.cons (.int (Int.ofNat 0) 0) (.cons (.ref 361) (.cons (.int (Int.ofNat 223) 0) (.cons (.int (Int.ofNat 0) 0) (.cons (.ref 366) []))))))))))))))))))))))))))))))))))))))))))))))))))))))))))))))))))))))))))))))))))))))))) (.mk []))
def o2_363 (w : World) : Obj := (.mk (.type "tuple") none (.seq (.mk []) 0) (.mk []))
def o2_364 (w : World) : Obj := (.mk .none none (.fields (.mk [])) (.mk []))
def o2_365 (w : World) : Obj := (.mk .none none (.func (FuncData.mk "law" "law" (L2.defArgs (HP.top 35)) (FuncBody.stmts (L2.defBody (HP.top 35))) (L2.defScope (HP.top 35)) 0 [] .none .none .none .none none .none .none 0)) (.mk []))
def o2_366 (w : World) : Obj := (.mk (.type "code") none (.fields (.mk [(.str "law" 681), (.str "law" 682), (.str "/claim/cut.py" 683), (.int (Int.ofNat 223) 0), (.int (Int.ofNat 1) 0), (.int (Int.ofNat 0) 0), (.int (Int.ofNat 0) 0), (.int (Int.ofNat 3) 0), (.ref 363), (.bool true), (.int (Int.ofNat 181) 0), (.ref 364), .none, .none, .none, (.ref 365), (.int (Int.ofNat 684) 0), (.int (Int.ofNat 223) 0), (.str "/claim/cut.py" 685)])) (.mk []))
def o2_367 (w : World) : Obj := (.mk (.type "function") none (.func (FuncData.mk "law" "law" (L2.defArgs (HP.top 35)) (FuncBody.stmts (L2.defBody (HP.top 35))) (L2.defScope (HP.top 35)) 3 [] .none .none .none (.str "law_haulprices_k08_bounds_and_texts" 586) none (.ref 366) .none 0)) (.mk []))
def l2_0 (w : World) : List Obj := [o1_0 w, o1_1 w, o1_2 w, o2_3 w, o1_4 w, o1_5 w, o1_6 w, o1_7 w, o1_8 w, o1_9 w, o1_10 w, o1_11 w, o2_12 w, o1_13 w, o1_14 w, o1_15 w, o1_16 w, o1_17 w, o1_18 w, o1_19 w, o1_20 w, o1_21 w, o1_22 w, o1_23 w, o1_24 w]
def l2_1 (w : World) : List Obj := [o1_25 w, o1_26 w, o1_27 w, o1_28 w, o1_29 w, o1_30 w, o1_31 w, o1_32 w, o1_33 w, o1_34 w, o1_35 w, o1_36 w, o1_37 w, o1_38 w, o1_39 w, o1_40 w, o1_41 w, o1_42 w, o1_43 w, o1_44 w, o1_45 w, o1_46 w, o1_47 w, o1_48 w, o1_49 w]
def l2_2 (w : World) : List Obj := [o1_50 w, o1_51 w, o1_52 w, o1_53 w, o1_54 w, o1_55 w, o1_56 w, o1_57 w, o1_58 w, o1_59 w, o1_60 w, o1_61 w, o1_62 w, o1_63 w, o1_64 w, o1_65 w, o1_66 w, o1_67 w, o1_68 w, o1_69 w, o1_70 w, o1_71 w, o1_72 w, o1_73 w, o1_74 w]
def l2_3 (w : World) : List Obj := [o1_75 w, o1_76 w, o1_77 w, o1_78 w, o1_79 w, o1_80 w, o1_81 w, o1_82 w, o1_83 w, o1_84 w, o1_85 w, o1_86 w, o1_87 w, o1_88 w, o1_89 w, o1_90 w, o1_91 w, o1_92 w, o1_93 w, o1_94 w, o1_95 w, o1_96 w, o1_97 w, o1_98 w, o1_99 w]
def l2_4 (w : World) : List Obj := [o1_100 w, o1_101 w, o1_102 w, o1_103 w, o1_104 w, o1_105 w, o1_106 w, o1_107 w, o1_108 w, o1_109 w, o1_110 w, o1_111 w, o1_112 w, o1_113 w, o1_114 w, o1_115 w, o1_116 w, o1_117 w, o1_118 w, o1_119 w, o1_120 w, o1_121 w, o1_122 w, o1_123 w, o1_124 w]
def l2_5 (w : World) : List Obj := [o1_125 w, o1_126 w, o1_127 w, o1_128 w, o1_129 w, o1_130 w, o1_131 w, o1_132 w, o1_133 w, o1_134 w, o1_135 w, o1_136 w, o1_137 w, o1_138 w, o1_139 w, o1_140 w, o1_141 w, o1_142 w, o1_143 w, o1_144 w, o1_145 w, o1_146 w, o1_147 w, o1_148 w, o1_149 w]
def l2_6 (w : World) : List Obj := [o1_150 w, o1_151 w, o1_152 w, o1_153 w, o1_154 w, o1_155 w, o1_156 w, o1_157 w, o1_158 w, o1_159 w, o1_160 w, o1_161 w, o1_162 w, o1_163 w, o1_164 w, o1_165 w, o1_166 w, o1_167 w, o1_168 w, o1_169 w, o1_170 w, o1_171 w, o1_172 w, o1_173 w, o1_174 w]
def l2_7 (w : World) : List Obj := [o1_175 w, o1_176 w, o1_177 w, o1_178 w, o1_179 w, o1_180 w, o1_181 w, o1_182 w, o1_183 w, o1_184 w, o1_185 w, o1_186 w, o1_187 w, o1_188 w, o1_189 w, o1_190 w, o1_191 w, o1_192 w, o1_193 w, o1_194 w, o1_195 w, o1_196 w, o1_197 w, o1_198 w, o1_199 w]
def l2_8 (w : World) : List Obj := [o1_200 w, o1_201 w, o1_202 w, o1_203 w, o1_204 w, o1_205 w, o1_206 w, o1_207 w, o1_208 w, o1_209 w, o1_210 w, o1_211 w, o1_212 w, o1_213 w, o1_214 w, o1_215 w, o1_216 w, o1_217 w, o1_218 w, o1_219 w, o1_220 w, o1_221 w, o1_222 w, o1_223 w, o1_224 w]
def l2_9 (w : World) : List Obj := [o1_225 w, o1_226 w, o1_227 w, o1_228 w, o1_229 w, o1_230 w, o1_231 w, o1_232 w, o1_233 w, o1_234 w, o1_235 w, o1_236 w, o1_237 w, o1_238 w, o1_239 w, o1_240 w, o1_241 w, o1_242 w, o1_243 w, o1_244 w, o1_245 w, o1_246 w, o1_247 w, o1_248 w, o1_249 w]
def l2_10 (w : World) : List Obj := [o1_250 w, o1_251 w, o1_252 w, o1_253 w, o1_254 w, o1_255 w, o1_256 w, o1_257 w, o1_258 w, o1_259 w, o1_260 w, o1_261 w, o1_262 w, o1_263 w, o1_264 w, o1_265 w, o1_266 w, o1_267 w, o1_268 w, o1_269 w, o1_270 w, o1_271 w, o1_272 w, o1_273 w, o1_274 w]
def l2_11 (w : World) : List Obj := [o1_275 w, o1_276 w, o1_277 w, o1_278 w, o1_279 w, o1_280 w, o1_281 w, o1_282 w, o1_283 w, o1_284 w, o1_285 w, o1_286 w, o1_287 w, o1_288 w, o1_289 w, o1_290 w, o1_291 w, o1_292 w, o1_293 w, o1_294 w, o1_295 w, o1_296 w, o1_297 w, o1_298 w, o1_299 w]
def l2_12 (w : World) : List Obj := [o1_300 w, o1_301 w, o1_302 w, o1_303 w, o1_304 w, o1_305 w, o1_306 w, o1_307 w, o1_308 w, o1_309 w, o1_310 w, o1_311 w, o1_312 w, o1_313 w, o1_314 w, o1_315 w, o1_316 w, o1_317 w, o1_318 w, o1_319 w, o1_320 w, o1_321 w, o1_322 w, o1_323 w, o1_324 w]
def l2_13 (w : World) : List Obj := [o1_325 w, o1_326 w, o1_327 w, o1_328 w, o1_329 w, o1_330 w, o1_331 w, o1_332 w, o1_333 w, o1_334 w, o1_335 w, o1_336 w, o1_337 w, o1_338 w, o1_339 w, o1_340 w, o1_341 w, o1_342 w, o1_343 w, o1_344 w, o1_345 w, o1_346 w, o1_347 w, o1_348 w, o1_349 w]
def l2_14 (w : World) : List Obj := [o1_350 w, o1_351 w, o1_352 w, o1_353 w, o1_354 w, o1_355 w, o1_356 w, o1_357 w, o1_358 w, o1_359 w, o1_360 w, o1_361 w, o1_362 w, o2_363 w, o2_364 w, o2_365 w, o2_366 w, o2_367 w]
def ll2 (w : World) : List Obj := l2_0 w ++ (l2_1 w ++ (l2_2 w ++ (l2_3 w ++ (l2_4 w ++ (l2_5 w ++ (l2_6 w ++ (l2_7 w ++ (l2_8 w ++ (l2_9 w ++ (l2_10 w ++ (l2_11 w ++ (l2_12 w ++ (l2_13 w ++ (l2_14 w))))))))))))))
def S2 (w : World) (os : OsState) : SharedT := stOf w os (ll2 w) 368 687
theorem chain1 (w : World) (os : OsState) : endF (stepQ (denQ tabQ) PG w) (3262 + 16738) PG w os = goF (stepQ (denQ tabQ) PG w) 11 (bootAnn w) 16738 (S1 w os) (T1 w os) := beg_F 16738 (bootN_ok w) (part1 w os)
theorem fin_ (w : World) (os : OsState) : goF (stepQ (denQ tabQ) PG w) 11 (bootAnn w) 16738 (S1 w os) (T1 w os) = some (S2 w os) := by kernel_rfl
theorem all_ (w : World) (os : OsState) : endF (stepQ (denQ tabQ) PG w) 20000 PG w os = some (S2 w os) := (chain1 w os).trans (fin_ w os)
end
end HP
set_option maxRecDepth 100000
set_option maxHeartbeats 0
namespace HP
open PySem PySem.W PySem.Calls PyProof.Rows MP
abbrev Rr : OpenRow := OpenLaw.row PySem.Challenge.rw_haulprices_k08_bounds_and_texts
def adrs : List Addr := [3, 6, 4, 24, 44, 63, 82, 101, 120, 139, 148, 155, 162, 167, 172, 179, 186, 193, 198, 205, 210, 299, 310, 317, 324, 329, 336, 343, 350, 357, 362, 367, 0, 23, 43, 62, 81, 100, 119, 138, 147, 154, 161, 166, 171, 178, 185, 192, 197, 204, 209, 298, 309, 316, 323, 328, 335, 342, 349, 356, 361, 366, 22, 25, 41, 42, 60, 61, 79, 80, 98, 99, 117, 118, 136, 137, 142, 143, 144, 145, 146, 149, 150, 151, 152, 153, 156, 157, 158, 159, 160, 163, 164, 165, 168, 169, 170, 173, 174, 175, 176, 177, 180, 181, 182, 183, 184, 187, 188, 189, 190, 191, 194, 195, 196, 199, 200, 201, 202, 203, 206, 207, 208, 226, 235, 243, 252, 260, 267, 274, 279, 284, 291, 296, 297, 300, 301, 304, 305, 306, 307, 308, 311, 312, 313, 314, 315, 318, 319, 320, 321, 322, 325, 326, 327, 330, 331, 332, 333, 334, 337, 338, 339, 340, 341, 344, 345, 346, 347, 348, 351, 352, 353, 354, 355, 358, 359, 360, 363, 364, 365, 40, 59, 78, 97, 116, 135, 225, 219, 233, 234, 241, 242, 251, 259, 266, 273, 278, 283, 290, 295, 35, 36, 37, 38, 39, 54, 55, 56, 57, 58, 73, 74, 75, 76, 77, 92, 93, 94, 95, 96, 111, 112, 113, 114, 115, 130, 131, 132, 133, 134, 220, 221, 222, 223, 224, 218, 232, 236, 240, 244, 250, 258, 261, 262, 263, 264, 265, 268, 269, 270, 271, 272, 275, 276, 277, 280, 281, 282, 285, 286, 287, 288, 289, 292, 293, 294, 1, 2, 5, 7, 8, 9, 10]
abbrev hk : PySem.W.Hook := hookL adrs fa fm fn
def ob (s : PySem.W.SharedT) : AlM := obL adrs fa fm fn (HandSHeadRun.getT s)
theorem ob_eq (s : PySem.W.SharedT) : ob s = hk.obs s.abs := obL_eq (HandSHeadRun.getT_eq s)
def names : List PySem.Str := ([("WrongValue" : PySem.Str), ("InvalidStops" : PySem.Str), ("InvalidHaul" : PySem.Str), ("InvalidText" : PySem.Str), ("InvalidRanges" : PySem.Str), ("InvalidTickets" : PySem.Str), ("WrongRow" : PySem.Str), ("MOST_STOPS" : PySem.Str), ("MOST_PRICE" : PySem.Str), ("is_integer" : PySem.Str), ("is_within" : PySem.Str), ("is_price" : PySem.Str), ("is_haul" : PySem.Str), ("hauls_of" : PySem.Str), ("check_stops" : PySem.Str), ("check_haul" : PySem.Str), ("DIGITS" : PySem.Str), ("is_range" : PySem.Str), ("number_in" : PySem.Str), ("stops_in" : PySem.Str), ("range_in" : PySem.Str), ("Bounds" : PySem.Str), ("_law_jar" : PySem.Str), ("_law_dip" : PySem.Str), ("_law_pick" : PySem.Str), ("_law_rides" : PySem.Str), ("_law_spans" : PySem.Str), ("_law_lows" : PySem.Str), ("_law_page" : PySem.Str), ("_law_is_frame" : PySem.Str), ("_law_right" : PySem.Str)] : List PySem.Str)
theorem look_ (w : World) (os : OsState) : HandSHeadRun.looksF Rr.prog (boot_heap w.params) (HP.S2 w os).abs = true := by kernel_rfl
theorem seen_ (w : World) (os : OsState) : HandSHeadRun.seenQ (view Rr.prog [35]) names (importedModules Rr.prog.main.body) (fun s => xlAt (view Rr.prog [35]) [] s && recOk Rr.toRowW.records s) (HP.S2 w os).abs = openGood (view Rr.prog [35]) names := by kernel_rfl
theorem obs_ (w : World) (os : OsState) : ob (HP.S2 w os) = hk.val w := by kernel_rfl
theorem run (w : World) : HandSHeadRun.RunEq Rr (view Rr.prog [35]) hk ob 20000 names w := by
  intro os
  show (HandSHeadRun.endF (HandSHeadRun.stepQ (HandSHeadRun.denQ HandSHeadRun.tabQ) HP.PG w) 20000 HP.PG w os).map _ = _
  rw [show HandSHeadRun.endF (HandSHeadRun.stepQ (HandSHeadRun.denQ HandSHeadRun.tabQ) HP.PG w) 20000 HP.PG w os = _ from HP.all_ w os, Option.map_some, look_ w os, seen_ w os, obs_ w os]
end HP
set_option maxRecDepth 100000
set_option maxHeartbeats 0
open PySem PySem.W PySem.Calls PyProof.Rows
theorem PySem.Challenge.cw_haulprices_k08_bounds_and_texts_holds : PySem.Challenge.rw_haulprices_k08_bounds_and_texts.Holds := by
  w_on; o_law
  refine HandSHeadRun.head_any (r := HP.Rr) (q := view HP.Rr.prog [35]) (H := HP.hk) (ob := HP.ob) (M := 20000) (loose := HP.names) (d := HandSHeadRun.topDef HP.Rr.prog 35) (kwd := []) HP.ob_eq
    (by kernel_rfl) (fun s => by kernel_rfl) HP.run (by kernel_rfl) (by kernel_rfl) (by kernel_rfl) (by rfl) (by first | assumption | decide +kernel) (by decide +kernel) ⟨rfl, rfl, rfl, rfl, rfl, by decide +kernel⟩ ?hw ?hc
  case hw => w_witness2
  case hc =>
    refine MP.walk_ofG (l := PySem.Challenge.rw_haulprices_k08_bounds_and_texts) (n := 63) (k := 9) (x := "_law_script") (CX := MP.CXa (PySem.Challenge.rw_haulprices_k08_bounds_and_texts).prog) rfl (by decide) (by kernel_rfl) ⟨rfl, by decide, by decide⟩ ?F MP.cxa_end
    intro w mg fa h Y G hmg0
    obtain ⟨K, KX, c⟩ := Y
    have hmg : mg ("law" : PySem.Str) = some (.ref fa) := by
      have e : (HandSHeadRun.topDef HP.Rr.prog 35).name = ("law" : PySem.Str) := by kernel_rfl
      rw [← e]
      exact hmg0
    have eg := hmg.symm.trans (He.glo_ok KX G (x := "law") (c.a 48 rfl))
    cases eg
    exact HP.law_F KX G c
