import PyProof.Rows.All
import Wide.All
import OpenK.AllK
import Wide.FinOn
import HandS.ForMost
import HandS.Exc
import HandS.Dict
import KE.KeyNested
import HandS.Wide
import HandS.Deep
import HandS.Property
import HandS.Flow
import HandS.Sort
import HandS.SortRule
import HandS.SortInts
import HandS.More
import HandS.RaiseMore
import HandS.Style
import KE.KDictPairs
import HandS.Zip
import HandS.Iter
import HandS.DictComp
import HandS.Small
import HandS.List
import HandS.OwnEq
import HandS.IsInst
import HandS.MakeKwOnly
import HandS.DictTup
import HandS.WordsExc
import HandS.Ends
import HandS.WideMore
import PyProof.NeKinds
import PyProof.ReprLen
import HandS.TupSets
import KE.KEqDict
import HandS.Conv
import PyProof.LongRange
import HandS.ExcInit
import HandS.ExcField
import KE.KExcSuper
import KE.KExcIs
import HandS.HotCalls
import PyProof.ReprBulk
import PySem.Challenge.RW_grownrows_k06_near_rows
set_option Elab.async false
set_option maxRecDepth 100000
set_option maxHeartbeats 4000000
set_option linter.all false
namespace DL
open PySem PySem.Spec PyProof.Rows L2
/-! ## dicts whose keys are tuples of numbers and of such tuples, at the level of values -/
mutual
/-- the hash of a key of numbers -/
def hashN : NestedKey → Int
  | .num i => hashInt i
  | .tup ks => reduceHash (Builtin.Tuple.tupleHashOf (hashNs ks))
  | _ => 0
def hashNs : List NestedKey → List Int
  | [] => []
  | k :: ks => hashN k :: hashNs ks
end
def entN (x : NestedKey × Addr × Value) : DictEntry := ⟨hashN x.1, .ref x.2.1, x.2.2⟩
/-- the dict at a, its entries as they lie -/
def nestF (a : Addr) (xs : List (NestedKey × Addr × Value)) : Heap → Prop := fun h =>
  (a == sysModules) = false ∧ xs.length ≤ sizeLine ∧ (xs.map (·.1)).Nodup ∧ ∃ o es ep, h.get? a = some o ∧ o.ExactDict ∧ o.data = .dict es ep ∧ es.toList = xs.map entN
def nestO (a : Addr) (xs : List (NestedKey × Addr × Value)) : HO := .ext (nestF a xs)
mutual
/-- a value of numbers and tuples, by what is tracked -/
inductive NV (H : Hp) : NestedKey → V → Prop
  | num (i : Int) : NV H (.num i) (.int i)
  | tup {b : Addr} {ks : List NestedKey} {vs : List V} : Rd H b (.tup vs) → NVs H ks vs → NV H (.tup ks) (.ref b)
inductive NVs (H : Hp) : List NestedKey → List V → Prop
  | nil : NVs H [] []
  | cons {k : NestedKey} {v : V} {ks : List NestedKey} {vs : List V} : NV H k v → NVs H ks vs → NVs H (k :: ks) (v :: vs)
end
mutual
theorem nv_is {P : Program} {w : World} {H : Hp} {h : Heap} (ok : HOk P w H h) : ∀ (k : NestedKey) (v : V) (u : Value), NV H k v → RelV v u → NestedIs h k u
  | .none, _, _, x, _ => by cases x
  | .text _, _, _, x, _ => by cases x
  | .num i, _, u, x, r => by
    cases x
    obtain ⟨t, rfl⟩ := r
    exact .int i t
  | .tup ks, _, u, x, r => by
    cases x with
    | tup hb hs =>
      obtain rfl : u = Value.ref _ := r
      obtain ⟨_, its, rv, o, h1, h2, n, h3⟩ := (show ObjOk P w H h _ (.tup _) from hb.ok ok)
      exact .tup h1 h2 h3 (by simpa using nvs_are ok ks _ its hs rv)
theorem nvs_are {P : Program} {w : World} {H : Hp} {h : Heap} (ok : HOk P w H h) : ∀ (ks : List NestedKey) (vs : List V) (us : List Value), NVs H ks vs → Vals vs us → NestedAll h ks us
  | [], _, _, x, r => by
    cases x; cases r; exact .nil
  | k :: ks, _, _, x, r => by
    cases x with
    | cons x1 x2 => cases r with
      | cons r1 r2 => exact .cons (nv_is ok k _ _ x1 r1) (nvs_are ok ks _ _ x2 r2)
end
mutual
theorem NV.mono {H H' : Hp} (t : ∀ b vs, Rd H b (.tup vs) → Rd H' b (.tup vs)) : ∀ (k : NestedKey) (v : V), NV H k v → NV H' k v
  | .none, _, x => by cases x
  | .text _, _, x => by cases x
  | .num i, _, x => by cases x; exact .num i
  | .tup ks, _, x => by
    cases x with
    | tup hb hs => exact .tup (t _ _ hb) (NVs.mono t ks _ hs)
theorem NVs.mono {H H' : Hp} (t : ∀ b vs, Rd H b (.tup vs) → Rd H' b (.tup vs)) : ∀ (ks : List NestedKey) (vs : List V), NVs H ks vs → NVs H' ks vs
  | [], _, x => by cases x; exact .nil
  | k :: ks, _, x => by
    cases x with
    | cons x1 x2 => exact .cons (NV.mono t k _ x1) (NVs.mono t ks _ x2)
end
mutual
theorem hashN_eq {H : Hp} (w : World) : ∀ (k : NestedKey) (v : V), NV H k v → k.hash w = hashN k
  | .none, _, x => by cases x
  | .text _, _, x => by cases x
  | .num i, _, x => rfl
  | .tup ks, _, x => by
    cases x with
    | tup hb hs => rw [NestedKey.hash, hashN, hashNs_eq w ks _ hs]
theorem hashNs_eq {H : Hp} (w : World) : ∀ (ks : List NestedKey) (vs : List V), NVs H ks vs → NestedKey.hashes w ks = hashNs ks
  | [], _, x => rfl
  | k :: ks, _, x => by
    cases x with
    | cons x1 x2 => rw [NestedKey.hashes, hashNs, hashN_eq w k _ x1, hashNs_eq w ks _ x2]
end
/-- the keys of the entries are tracked, to depth 8 -/
def NKeys (H : Hp) (xs : List (NestedKey × Addr × Value)) : Prop := ∀ x ∈ xs, NV H x.1 (.ref x.2.1) ∧ x.1.depth ≤ 8
theorem entN_eq {P : Program} {w : World} {H : Hp} : ∀ {xs : List (NestedKey × Addr × Value)}, NKeys H xs → xs.map entN = xs.map (entryOfKey (nestedKind P w)) := fun {xs} hk => List.map_congr_left fun x hx => by
  have e : x.1.hash w = hashN x.1 := hashN_eq w _ _ (hk x hx).1
  show (⟨hashN x.1, .ref x.2.1, x.2.2⟩ : DictEntry) = ⟨x.1.hash w, .ref x.2.1, x.2.2⟩
  rw [e]
/-- a description of another object's dict does not hold of this one -/
theorem nest_at {P : Program} {w : World} {H : Hp} {h : Heap} {a c : Addr} {xs : List (NestedKey × Addr × Value)} (x : ObjOk P w H h c (nestO a xs)) : c = a := by
  obtain ⟨f, ⟨oc, hc⟩, st⟩ := (show ObjOk P w H h c (.ext (nestF a xs)) from x)
  refine Decidable.byContradiction fun hne => ?_
  have f2 := st h (h.update a fun o => { o with data := .cell none }) f fun o q => ((Heap.SameBut.update ..).2 c hne).trans q
  obtain ⟨_, _, _, o, es, ep, g1, _, _, _⟩ := f
  obtain ⟨_, _, _, o2, es2, ep2, k1, _, k3, _⟩ := f2
  rw [Heap.get?_update_self _ g1 rfl] at k1
  cases k1
  exact nomatch k3
theorem nest_of {P : Program} {w : World} {H : Hp} {h : Heap} {a : Addr} {xs : List (NestedKey × Addr × Value)} (ok : HOk P w H h) (e : H a = some (nestO a xs)) (hk : NKeys H xs) :
    (a == sysModules) = false ∧ xs.length ≤ sizeLine ∧ h.DictOfH (nestedKind P w) a xs := by
  obtain ⟨⟨h1, h2, h3, o, es, ep, h4, h5, h6, h7⟩, _, _⟩ := (show ObjOk P w H h a (.ext (nestF a xs)) from ok a _ e)
  exact ⟨h1, h2, o, es, ep, h4, h5, h6, h7.trans (entN_eq hk), fun x hx => ⟨nv_is ok _ _ _ (hk x hx).1 rfl, (hk x hx).2⟩, h3⟩
theorem nest_new {P : Program} {w : World} {H : Hp} {h : Heap} {a : Addr} {xs : List (NestedKey × Addr × Value)} (h1 : (a == sysModules) = false) (h2 : xs.length ≤ sizeLine) (hk : NKeys H xs) (d : h.DictOfH (nestedKind P w) a xs) : ObjOk P w H h a (nestO a xs) := by
  obtain ⟨o, es, ep, h4, h5, h6, h7, _, h3⟩ := d
  refine ⟨⟨h1, h2, h3, o, es, ep, h4, h5, h6, h7.trans (entN_eq hk).symm⟩, ⟨o, h4⟩, ?_⟩
  rintro g1 g2 ⟨q1, q2, q3, o', es', ep', q4, q5, q6, q7⟩ hh
  exact ⟨q1, q2, q3, o', es', ep', hh _ q4, q5, q6, q7⟩
section
variable {X : Cx} {pins : List (Addr × Obj)} {σ : L2.St} {H : Hp} {s : Shared} {a b : Addr} {k : NestedKey} {A : Around} {E : Value → Shared → Prop} {xs : List (NestedKey × Addr × Value)}
theorem nroom {P : Program} {w : World} (hu : A.units + 9 < cLine) : (nestedKind P w).room A.in1 := by
  show A.units + 1 + 8 < cLine
  omega
/-- k not in d -/
theorem n_notIn {Q : Value → Shared → Prop} (hu : A.units + 9 < cLine) (I : Inv X pins σ H s) (e : H a = some (nestO a xs)) (hk : NKeys H xs) (kk : NV H k (.ref b)) (kd : k.depth ≤ 8) (h : ∀ s', Inv X pins σ H s' → Q (.bool (!(atKey xs k).isSome)) s') :
    wpAny (model X.prog X.w) A (compareOp .NotIn (.ref b) (.ref a)) Q E s := by
  obtain ⟨h1, h2, d⟩ := nest_of I.hok e hk
  exact wpAny_notIn_heap (nroom hu) ⟨nv_is I.hok _ _ _ kk rfl, kd⟩ h1 d (h _ (I.tok _))
/-- d[k], there -/
theorem n_get {Q : Value → Shared → Prop} {p : Addr × Value} (hu : A.units + 9 < cLine) (I : Inv X pins σ H s) (e : H a = some (nestO a xs)) (hk : NKeys H xs) (kk : NV H k (.ref b)) (kd : k.depth ≤ 8) (hp : atKey xs k = some p) (h : ∀ s', Inv X pins σ H s' → Q p.2 s') :
    wpAny (model X.prog X.w) A (getItem (.ref a) (.ref b)) Q E s := by
  obtain ⟨h1, h2, d⟩ := nest_of I.hok e hk
  exact wpAny_getItem_heap (nroom hu) ⟨nv_is I.hok _ _ _ kk rfl, kd⟩ d hp (h _ (I.tok _))
/-- keys that are tracked stay so where d is written -/
theorem NKeys.write {o : HO} (hk : NKeys H xs) (ha : ∀ vs, ¬ Rd H a (.tup vs)) : NKeys (upd H a o) xs := fun x hx => by
  refine ⟨NV.mono (fun b vs hb => ?_) _ _ (hk x hx).1, (hk x hx).2⟩
  have hba : b ≠ a := fun e => by subst e; exact ha vs hb
  unfold Rd
  rw [upd_ne hba]
  exact hb
theorem NKeys.stored {v : Value} (hk : NKeys H xs) (kk : NV H k (.ref b)) (kd : k.depth ≤ 8) : NKeys H (storedH xs k b v) := fun x hx => by
  unfold storedH at hx
  split at hx
  · obtain ⟨z, hz, rfl⟩ := List.mem_map.mp hx
    unfold putAt
    split
    · exact hk z hz
    · exact hk z hz
  · rcases List.mem_append.mp hx with hx | hx
    · exact hk x hx
    · rw [List.mem_singleton.mp hx]; exact ⟨kk, kd⟩
/-- d[k] = v -/
theorem n_set {Q : Unit → Shared → Prop} {v : Value} (hu : A.units + 9 < cLine) (I : Inv X pins σ H s) (e : H a = some (nestO a xs)) (hk : NKeys H xs) (kk : NV H k (.ref b)) (kd : k.depth ≤ 8) (hl : xs.length < sizeLine)
    (h : ∀ s', Inv X pins σ (upd H a (nestO a (storedH xs k b v))) s' → Q () s') :
    wpAny (model X.prog X.w) A (setItem (.ref a) (.ref b) v) Q E s := by
  obtain ⟨h1, h2, d⟩ := nest_of I.hok e hk
  have hz : (storedH xs k b v).length ≤ sizeLine := by
    unfold storedH
    split
    · rw [List.length_map]; exact h2
    · rw [List.length_append, List.length_singleton]; omega
  refine wpAny_setItem_heap (hsz := h2) (nroom hu) ⟨nv_is I.hok _ _ _ kk rfl, kd⟩ d fun h' dd' hs => h _ ?_
  have he : ∃ q, h'.get? a = some q := let ⟨q, _, _, hq, _⟩ := dd'; ⟨q, hq⟩
  have ha : ∀ vs, ¬ Rd H a (.tup vs) := fun vs hr => by
    rcases hr with hr | ⟨o, hr⟩ <;> rw [e] at hr <;> cases hr
  exact d_write I (by rw [e]; exact True.intro) hs he (nest_new h1 hz (NKeys.write (NKeys.stored hk kk kd) ha) dd')
/-- {} becomes such a dict -/
theorem n_recast (I : Inv X pins σ H s) (e : H a = some (.dK [])) : Inv X pins σ (upd H a (nestO a [])) s := by
  obtain ⟨z, hd, vs, rel, o, es, ep, h4, h5, h6, h7, h8⟩ := (show ObjOk X.prog X.w H s.heap a (.dK []) from I.hok a _ e)
  exact I.write (x := a) (e := a) (t' := s.toks) (h' := s.heap) (by rw [e]; exact True.intro) (.inl rfl) (fun b q hb z => z) ⟨o, h4⟩ (by
    cases rel
    refine nest_new hd (Nat.zero_le _) (fun x hx => by cases hx) ⟨o, es, ep, h4, h5, h6, ?_, (fun x hx => by cases hx), List.nodup_nil⟩
    generalize es.toList = l at h8 ⊢
    have h9 := h8.1
    cases l with
    | nil => rfl
    | cons x y => cases h9)
end
end DL

set_option maxRecDepth 100000
set_option maxHeartbeats 2000000
set_option linter.all false
namespace DL
open PySem PySem.Spec PyProof.Rows L2

/-! ## data -/
inductive D where
  | non | bl (b : Bool) | int (i : Int) | str (x : Str) | ty (n : String)
  | lst (xs : List D) | tup (xs : List D) | ktup (xs : List D) | klst (xs : List D) | ptup (xs : List D)
  | dK (kvs : List (Key × D)) | dT (kvs : List (List Key × D))
  | ins (C : Addr) (fs : List (Str × D))
  | obj (a : Addr)
  | raw
inductive Ob where
  | lst (xs : List D) | dK (kvs : List (Key × D)) | dT (kvs : List (List Key × D))
  | ins (C : Addr) (fs : List (Str × D))
  | dN (kvs : List (NestedKey × D))
abbrev Ob.toD : Ob → D
  | .lst xs => .lst xs | .dK k => .dK k | .dT k => .dT k | .ins C f => .ins C f | .dN _ => .raw
abbrev WS := Addr → Option Ob
abbrev DEnv := List (Option D)
abbrev Fg := PySem.W.Frag
def WS.put (W : WS) (a : Addr) (o : Ob) : WS := fun b => if b = a then some o else W b
def WS.del (W : WS) (a : Addr) : WS := fun b => if b = a then none else W b
theorem WS.put_same {W : WS} {a : Addr} {o : Ob} : W.put a o a = some o := by unfold WS.put; rw [if_pos rfl]
theorem WS.put_ne {W : WS} {a b : Addr} {o : Ob} (h : b ≠ a) : W.put a o b = W b := by unfold WS.put; rw [if_neg h]
theorem WS.del_same {W : WS} {a : Addr} : W.del a a = none := by unfold WS.del; rw [if_pos rfl]
theorem WS.del_ne {W : WS} {a b : Addr} (h : b ≠ a) : W.del a b = W b := by unfold WS.del; rw [if_neg h]
theorem WS.put_put {W : WS} {a : Addr} {o u : Ob} : (W.put a o).put a u = W.put a u := by
  funext b
  by_cases h : b = a
  · subst h; rw [WS.put_same, WS.put_same]
  · rw [WS.put_ne h, WS.put_ne h, WS.put_ne h]
theorem WS.put_del {W : WS} {a : Addr} {o : Ob} : (W.put a o).del a = W.del a := by
  funext b
  by_cases h : b = a
  · subst h; rw [WS.del_same, WS.del_same]
  · rw [WS.del_ne h, WS.del_ne h, WS.put_ne h]
theorem WS.del_none {W : WS} {a : Addr} (h : W a = none) : W.del a = W := by
  funext b; unfold WS.del; split
  · rename_i e; rw [e, h]
  · rfl

/-! ## what stands for a datum -/
mutual
inductive Rep (K : Fg) (F : Hp) : D → V → Prop
  | non : Rep K F .non .non
  | bl (b : Bool) : Rep K F (.bl b) (.bl b)
  | int (i : Int) : Rep K F (.int i) (.int i)
  | str (x : Str) : Rep K F (.str x) (.str x)
  | ty (n : String) : Rep K F (.ty n) (.ty n)
  | obj (a : Addr) : Rep K F (.obj a) (.ref a)
  | raw (a : Addr) : Rep K F .raw (.ref a)
  | lst {a : Addr} {vs : List V} {ds : List D} : F a = some (.lst vs) → RepL K F ds vs → Rep K F (.lst ds) (.ref a)
  | klst {a : Addr} {vs : List V} {ds : List D} : SqL K F a vs → RepL K F ds vs → Rep K F (.klst ds) (.ref a)
  | tup {a : Addr} {vs : List V} {ds : List D} : F a = some (.tup vs) → RepL K F ds vs → Rep K F (.tup ds) (.ref a)
  | ptup {a : Addr} {o : Obj} {vs : List V} {ds : List D} : o.cls = .type "tuple" → o.dict = none → F a = some (.frz o (.tup vs)) → RepL K F ds vs → Rep K F (.ptup ds) (.ref a)
  | ktup {a : Addr} {vs : List V} {ds : List D} : SqT K (fun _ => none) a vs → RepL K F ds vs → Rep K F (.ktup ds) (.ref a)
  | dK {a : Addr} {kvs : List (Key × V)} {ds : List (Key × D)} : Rd F a (.dK kvs) → kvs.map (·.1) = ds.map (·.1) → RepL K F (ds.map (·.2)) (kvs.map (·.2)) → Rep K F (.dK ds) (.ref a)
  | dT {a : Addr} {kvs : List (List Key × V)} {ds : List (List Key × D)} : Rd F a (.dT kvs) → kvs.map (·.1) = ds.map (·.1) → RepL K F (ds.map (·.2)) (kvs.map (·.2)) → Rep K F (.dT ds) (.ref a)
  | ins {a C dx : Addr} {fs : List (Str × V)} {ds : List (Str × D)} : F a = some (.ins C dx fs) → fs.map (·.1) = ds.map (·.1) → RepL K F (ds.map (·.2)) (fs.map (·.2)) → Rep K F (.ins C ds) (.ref a)
inductive RepL (K : Fg) (F : Hp) : List D → List V → Prop
  | nil : RepL K F [] []
  | cons {d : D} {v : V} {ds : List D} {vs : List V} : Rep K F d v → RepL K F ds vs → RepL K F (d :: ds) (v :: vs)
end
/-- the entries of a dict with nested keys -/
def NRel (K : Fg) (F : Hp) (kvs : List (NestedKey × D)) (xs : List (NestedKey × Addr × Value)) : Prop := Paired (fun p q => p.1 = q.1 ∧ NV F q.1 (.ref q.2.1) ∧ q.1.depth ≤ 8 ∧ ∃ v, Rep K F p.2 v ∧ RelV v q.2.2) kvs xs
inductive RepO (K : Fg) (F : Hp) : Ob → HO → Prop
  | lst {vs : List V} {ds : List D} : RepL K F ds vs → RepO K F (.lst ds) (.lst vs)
  | dK {kvs : List (Key × V)} {ds : List (Key × D)} : kvs.map (·.1) = ds.map (·.1) → RepL K F (ds.map (·.2)) (kvs.map (·.2)) → RepO K F (.dK ds) (.dK kvs)
  | dT {kvs : List (List Key × V)} {ds : List (List Key × D)} : kvs.map (·.1) = ds.map (·.1) → RepL K F (ds.map (·.2)) (kvs.map (·.2)) → RepO K F (.dT ds) (.dT kvs)
  | ins {C dx : Addr} {fs : List (Str × V)} {ds : List (Str × D)} : fs.map (·.1) = ds.map (·.1) → RepL K F (ds.map (·.2)) (fs.map (·.2)) → RepO K F (.ins C ds) (.ins C dx fs)
  | dN {a : Addr} {kvs : List (NestedKey × D)} {xs : List (NestedKey × Addr × Value)} : NRel K F kvs xs → RepO K F (.dN kvs) (nestO a xs)

/-- all that may be read as something may still be read so; instances stand -/
def NF (u : HO) : Prop := ∀ o v, u ≠ .frz o v
structure Le (F F' : Hp) : Prop where
  rd : ∀ a u, NF u → Rd F a u → Rd F' a u
  ins : ∀ a C dx fs, F a = some (.ins C dx fs) → F' a = some (.ins C dx fs)
  tup : ∀ a vs, F a = some (.tup vs) → F' a = some (.tup vs)
  lst : ∀ a vs, F a = some (.lst vs) → F' a = some (.lst vs)
  ptu : ∀ a o vs, F a = some (.frz o (.tup vs)) → F' a = some (.frz o (.tup vs))
theorem Le.refl (F : Hp) : Le F F := ⟨fun _ _ _ h => h, fun _ _ _ _ h => h, fun _ _ h => h, fun _ _ h => h, fun _ _ _ h => h⟩
theorem Le.trans {F G H : Hp} (a : Le F G) (b : Le G H) : Le F H := ⟨fun x u n h => b.rd x u n (a.rd x u n h), fun x C d f h => b.ins x C d f (a.ins x C d f h), fun x v h => b.tup x v (a.tup x v h), fun x v h => b.lst x v (a.lst x v h), fun x o v h => b.ptu x o v (a.ptu x o v h)⟩
theorem Le.of {F F' : Hp} (h : ∀ a o, F a = some o → F' a = some o) : Le F F' :=
  ⟨fun a u _ r => r.elim (fun e => .inl (h a _ e)) fun ⟨o, e⟩ => .inr ⟨o, h a _ e⟩, fun a _ _ _ e => h a _ e, fun a _ e => h a _ e, fun a _ e => h a _ e, fun a _ _ e => h a _ e⟩
theorem Le.upd {F : Hp} {p : Addr} {o : HO} (h : F p = none) : Le F (upd F p o) := Le.of fun a u e => by
  rw [upd_ne (ne_of_none e h)]; exact e
theorem nf_lst {xs : List V} : NF (.lst xs) := fun _ _ h => nomatch h
theorem nf_tup {xs : List V} : NF (.tup xs) := fun _ _ h => nomatch h
theorem nf_dK {xs : List (Key × V)} : NF (.dK xs) := fun _ _ h => nomatch h
theorem nf_dT {xs : List (List Key × V)} : NF (.dT xs) := fun _ _ h => nomatch h
theorem Le.sqL {K : Fg} {F F' : Hp} (l : Le F F') {a : Addr} {xs : List V} (h : SqL K F a xs) : SqL K F' a xs := h.elim (fun r => .inl (l.rd _ _ nf_lst r)) .inr
theorem Le.sqT {K : Fg} {F F' : Hp} (l : Le F F') {a : Addr} {xs : List V} (h : SqT K F a xs) : SqT K F' a xs := h.elim (fun r => .inl (l.rd _ _ nf_tup r)) .inr
mutual
theorem Rep.mono {K : Fg} {F F' : Hp} (l : Le F F') : ∀ {d : D} {v : V}, Rep K F d v → Rep K F' d v
  | _, _, .non => .non
  | _, _, .bl b => .bl b
  | _, _, .int i => .int i
  | _, _, .str x => .str x
  | _, _, .ty n => .ty n
  | _, _, .obj a => .obj a
  | _, _, .raw a => .raw a
  | _, _, .lst h r => .lst (l.lst _ _ h) (RepL.mono l r)
  | _, _, .klst h r => .klst (l.sqL h) (RepL.mono l r)
  | _, _, .tup h r => .tup (l.tup _ _ h) (RepL.mono l r)
  | _, _, .ktup h r => .ktup h (RepL.mono l r)
  | _, _, .ptup c d h r => .ptup c d (l.ptu _ _ _ h) (RepL.mono l r)
  | _, _, .dK h e r => .dK (l.rd _ _ nf_dK h) e (RepL.mono l r)
  | _, _, .dT h e r => .dT (l.rd _ _ nf_dT h) e (RepL.mono l r)
  | _, _, .ins h e r => .ins (l.ins _ _ _ _ h) e (RepL.mono l r)
theorem RepL.mono {K : Fg} {F F' : Hp} (l : Le F F') : ∀ {ds : List D} {vs : List V}, RepL K F ds vs → RepL K F' ds vs
  | _, _, .nil => .nil
  | _, _, .cons h t => .cons (Rep.mono l h) (RepL.mono l t)
end
theorem NRel.mono {K : Fg} {F F' : Hp} (l : Le F F') {kvs : List (NestedKey × D)} {xs : List (NestedKey × Addr × Value)} (h : NRel K F kvs xs) : NRel K F' kvs xs :=
  Paired.mapP h fun _ _ ⟨h1, h2, h3, v, h4, h5⟩ => ⟨h1, NV.mono (fun b vs hb => l.rd _ _ nf_tup hb) _ _ h2, h3, v, Rep.mono l h4, h5⟩
theorem RepO.mono {K : Fg} {F F' : Hp} (l : Le F F') : ∀ {ob : Ob} {o : HO}, RepO K F ob o → RepO K F' ob o
  | _, _, .lst r => .lst (RepL.mono l r)
  | _, _, .dK e r => .dK e (RepL.mono l r)
  | _, _, .dT e r => .dT e (RepL.mono l r)
  | _, _, .ins e r => .ins e (RepL.mono l r)
  | _, _, .dN r => .dN (NRel.mono l r)
theorem RepL.length {K : Fg} {F : Hp} : ∀ {ds : List D} {vs : List V}, RepL K F ds vs → ds.length = vs.length
  | _, _, .nil => rfl
  | _, _, .cons _ t => by rw [List.length_cons, List.length_cons, RepL.length t]
theorem RepL.append {K : Fg} {F : Hp} : ∀ {ds es : List D} {vs us : List V}, RepL K F ds vs → RepL K F es us → RepL K F (ds ++ es) (vs ++ us)
  | _, _, _, _, .nil, s => s
  | _, _, _, _, .cons h t, s => .cons h (RepL.append t s)
theorem RepL.get {K : Fg} {F : Hp} : ∀ {ds : List D} {vs : List V} {i : Nat} {d : D}, RepL K F ds vs → ds[i]? = some d → ∃ v, vs[i]? = some v ∧ Rep K F d v
  | _, _, _, _, .nil, e => by simp at e
  | _, _, 0, _, .cons h _, e => by simp at e; subst e; exact ⟨_, rfl, h⟩
  | _, _, i + 1, d, .cons _ t, e => by
    obtain ⟨v, h1, h2⟩ := RepL.get (i := i) (d := d) t (by simpa using e)
    exact ⟨v, by simpa using h1, h2⟩
theorem RepL.getV {K : Fg} {F : Hp} {ds : List D} {vs : List V} {i : Nat} {v : V} (r : RepL K F ds vs) (e : vs[i]? = some v) : ∃ d, ds[i]? = some d ∧ Rep K F d v := by
  have hl : i < ds.length := by rw [r.length]; exact (List.getElem?_eq_some_iff.mp e).1
  obtain ⟨w, h1, h2⟩ := r.get (List.getElem?_eq_getElem hl)
  rw [e] at h1
  cases h1
  exact ⟨_, List.getElem?_eq_getElem hl, h2⟩
theorem RepL.set {K : Fg} {F : Hp} {d : D} {v : V} (h : Rep K F d v) : ∀ {ds : List D} {vs : List V} (i : Nat), RepL K F ds vs → RepL K F (ds.set i d) (vs.set i v)
  | _, _, _, .nil => .nil
  | _, _, 0, .cons _ t => .cons h t
  | _, _, i + 1, .cons q t => .cons q (RepL.set h i t)
theorem RepL.take {K : Fg} {F : Hp} : ∀ {ds : List D} {vs : List V} (n : Nat), RepL K F ds vs → RepL K F (ds.take n) (vs.take n)
  | _, _, 0, _ => .nil
  | _, _, _ + 1, .nil => .nil
  | _, _, n + 1, .cons h t => .cons h (RepL.take n t)
theorem RepL.drop {K : Fg} {F : Hp} : ∀ {ds : List D} {vs : List V} (n : Nat), RepL K F ds vs → RepL K F (ds.drop n) (vs.drop n)
  | _, _, 0, r => r
  | _, _, _ + 1, .nil => .nil
  | _, _, n + 1, .cons _ t => RepL.drop n t
theorem RepL.ints {K : Fg} {F : Hp} : ∀ {ns : List Int} {vs : List V}, RepL K F (ns.map D.int) vs → vs = ns.map V.int
  | [], _, .nil => rfl
  | _ :: _, _, .cons h t => by cases h; rw [List.map_cons, RepL.ints t]
theorem RepL.of_ints {K : Fg} {F : Hp} : ∀ (ns : List Int), RepL K F (ns.map D.int) (ns.map V.int)
  | [] => .nil
  | _ :: r => .cons (.int _) (RepL.of_ints r)

/-! ## the state -/
structure Base where
  H0 : Hp
  W0 : WS
  F0 : Hp
structure Stt (K : Fg) (B : Base) (F : Hp) (W : WS) (H : Hp) : Prop where
  sub : ∀ a o, F a = some o → H a = some o
  obj : ∀ a ob, W a = some ob → F a = none ∧ ∃ o, H a = some o ∧ RepO K F ob o
  old : ∀ a o, B.H0 a = some o → B.W0 a = none → W a = none ∧ H a = some o ∧ (B.F0 a = none → F a = none)
  dom : ∀ a, H a = none → B.H0 a = none
  base : Le B.F0 F
structure EnvOk (K : Fg) (F : Hp) (σ : L2.St) (env : DEnv) : Prop where
  len : env.length = σ.length
  at_ : ∀ (i : Nat) (d : D), env[i]? = some (some d) → ∃ v, σ[i]? = some (some v) ∧ Rep K F d v
section
variable {K : Fg} {B : Base} {F F' F'' : Hp} {W W' W'' : WS} {H H' H'' : Hp} {p : Addr} {o : HO} {ob : Ob}
theorem EnvOk.mono {σ : L2.St} {env : DEnv} (l : Le F F') (h : EnvOk K F σ env) : EnvOk K F' σ env := ⟨h.len, fun i d e => let ⟨v, h1, h2⟩ := h.at_ i d e; ⟨v, h1, h2.mono l⟩⟩
theorem Stt.self (S : Stt K B F W H) : Stt K ⟨H, W, F⟩ F W H := ⟨S.sub, S.obj, fun _ _ h hw => ⟨hw, h, id⟩, fun _ h => h, Le.refl _⟩
theorem Stt.trans (S : Stt K B F W H) (T : Stt K ⟨H, W, F⟩ F' W' H') : Stt K B F' W' H' :=
  ⟨T.sub, T.obj, fun a o h hw => let ⟨h1, h2, h3⟩ := S.old a o h hw; let ⟨g1, g2, g3⟩ := T.old a o h2 h1; ⟨g1, g2, fun z => g3 (h3 z)⟩, fun a h => S.dom a (T.dom a h), S.base.trans T.base⟩
theorem Stt.newF (S : Stt K B F W H) (h : H p = none) : F p = none := by
  cases e : F p with
  | none => rfl
  | some u => rw [S.sub p u e] at h; cases h
theorem Stt.newW (S : Stt K B F W H) (h : H p = none) : W p = none := by
  cases e : W p with
  | none => rfl
  | some u => obtain ⟨_, x, hx, _⟩ := S.obj p u e; rw [hx] at h; cases h
/-- a new thing is laid, nothing told of it -/
theorem Stt.laid (S : Stt K B F W H) (h : H p = none) : Stt K B F W (upd H p o) where
  sub := fun a u e => by rw [upd_ne (ne_of_none (S.sub a u e) h)]; exact S.sub a u e
  obj := fun a u e => by
    obtain ⟨h1, x, h2, h3⟩ := S.obj a u e
    exact ⟨h1, x, by rw [upd_ne (ne_of_none h2 h)]; exact h2, h3⟩
  old := fun a u e hw => by
    obtain ⟨h1, h2, h3⟩ := S.old a u e hw
    exact ⟨h1, by rw [upd_ne (ne_of_none h2 h)]; exact h2, h3⟩
  dom := fun a e => by
    by_cases q : a = p
    · subst q; exact S.dom _ h
    · rw [upd_ne q] at e; exact S.dom _ e
  base := S.base
/-- what was laid is known as it stands from now on -/
theorem Stt.froze (S : Stt K B F W H) (h : H p = some o) (hF : F p = none) (hW : W p = none) (hB : B.H0 p = none) : Stt K B (upd F p o) W H where
  sub := fun a u e => by
    by_cases q : a = p
    · subst q; rw [upd_same] at e; cases e; exact h
    · rw [upd_ne q] at e; exact S.sub a u e
  obj := fun a u e => by
    have q : a ≠ p := fun z => by rw [z, hW] at e; cases e
    obtain ⟨h1, x, h2, h3⟩ := S.obj a u e
    exact ⟨by rw [upd_ne q]; exact h1, x, h2, h3.mono (Le.upd hF)⟩
  old := fun a u e hw => by
    obtain ⟨h1, h2, h3⟩ := S.old a u e hw
    exact ⟨h1, h2, fun z => by rw [upd_ne (fun c => by rw [c, hB] at e; cases e)]; exact h3 z⟩
  dom := S.dom
  base := S.base.trans (Le.upd hF)
theorem Stt.alloc (S : Stt K B F W H) (h : H p = none) : Stt K B (upd F p o) W (upd H p o) := (S.laid h).froze upd_same (S.newF h) (S.newW h) (S.dom p h)
/-- what was laid is an object of the store -/
theorem Stt.box (S : Stt K B F W H) (h : H p = some o) (hF : F p = none) (hB : B.H0 p = none) (r : RepO K F ob o) : Stt K B F (W.put p ob) H where
  sub := S.sub
  obj := fun a u e => by
    by_cases q : a = p
    · subst q; rw [WS.put_same] at e; cases e; exact ⟨hF, o, h, r⟩
    · rw [WS.put_ne q] at e; exact S.obj a u e
  old := fun a u e hw => by
    have q : a ≠ p := fun z => by rw [z, hB] at e; cases e
    obtain ⟨h1, h2, h3⟩ := S.old a u e hw
    exact ⟨by rw [WS.put_ne q]; exact h1, h2, h3⟩
  dom := S.dom
  base := S.base
theorem Stt.write (S : Stt K B F W H) {ob' : Ob} (h : W p = some ob') (r : RepO K F ob o) : Stt K B F (W.put p ob) (upd H p o) where
  sub := fun a u e => by
    have q : a ≠ p := fun z => by rw [z, (S.obj p _ h).1] at e; cases e
    rw [upd_ne q]; exact S.sub a u e
  obj := fun a u e => by
    by_cases q : a = p
    · subst q; rw [WS.put_same] at e; cases e; exact ⟨(S.obj _ _ h).1, o, upd_same, r⟩
    · rw [WS.put_ne q] at e; rw [upd_ne q]; exact S.obj a u e
  old := fun a u e hw => by
    obtain ⟨h1, h2, h3⟩ := S.old a u e hw
    have q : a ≠ p := fun z => by rw [z, h] at h1; cases h1
    exact ⟨by rw [WS.put_ne q]; exact h1, by rw [upd_ne q]; exact h2, h3⟩
  dom := fun a e => by
    by_cases q : a = p
    · subst q; rw [upd_same] at e; cases e
    · rw [upd_ne q] at e; exact S.dom _ e
  base := S.base
theorem Stt.unbox (S : Stt K B F W H) (h : W p = some ob) (ho : H p = some o) : Stt K B (upd F p o) (W.del p) H where
  sub := fun a u e => by
    by_cases q : a = p
    · subst q; rw [upd_same] at e; cases e; exact ho
    · rw [upd_ne q] at e; exact S.sub a u e
  obj := fun a u e => by
    have q : a ≠ p := fun z => by rw [z, WS.del_same] at e; cases e
    rw [WS.del_ne q] at e
    obtain ⟨h1, x, h2, h3⟩ := S.obj a u e
    exact ⟨by rw [upd_ne q]; exact h1, x, h2, h3.mono (Le.upd (S.obj p _ h).1)⟩
  old := fun a u e hw => by
    obtain ⟨h1, h2, h3⟩ := S.old a u e hw
    have q : a ≠ p := fun z => by rw [z, h] at h1; cases h1
    exact ⟨by rw [WS.del_ne q]; exact h1, h2, fun z => by rw [upd_ne q]; exact h3 z⟩
  dom := S.dom
  base := S.base.trans (Le.upd (S.obj p _ h).1)
/-- F reads within H -/
theorem Stt.rd (S : Stt K B F W H) {a : Addr} {u : HO} (h : Rd F a u) : Rd H a u := h.elim (fun e => .inl (S.sub _ _ e)) fun ⟨x, e⟩ => .inr ⟨x, S.sub _ _ e⟩
theorem Stt.sqL (S : Stt K B F W H) {a : Addr} {xs : List V} (h : SqL K F a xs) : SqL K H a xs := h.elim (fun r => .inl (S.rd r)) .inr
theorem Stt.sqT (S : Stt K B F W H) {a : Addr} {xs : List V} (h : SqT K F a xs) : SqT K H a xs := h.elim (fun r => .inl (S.rd r)) .inr
/-- a store over the frame's own new base, carried back -/
theorem Stt.le (S : Stt K B F W H) (T : Stt K ⟨H, W, F⟩ F' W' H') : Le F F' := T.base
end
end DL

set_option maxRecDepth 100000
set_option maxHeartbeats 2000000
set_option linter.all false
namespace DL
open PySem PySem.Spec PyProof.Rows L2
/-- exceptions are told by the names of their classes -/
abbrev XP := Str → D → WS → Prop
/-- the module's name n is the class at C -/
def XN (K : Fg) (n : Str) (C : Addr) : Prop := PySem.W.nsIn K mainGlobals n = some (some (.ref C))
abbrev EK := D → DEnv → WS → Prop
abbrev WE := XP → DEnv → WS → EK → Prop
abbrev WT := XP → DEnv → WS → (Bool → DEnv → WS → Prop) → Prop
abbrev WA := XP → DEnv → WS → (List D → DEnv → WS → Prop) → Prop
abbrev WF := XP → DEnv → WS → (Ob → DEnv → WS → Prop) → Prop
structure WEnds where
  nx : DEnv → WS → Prop
  rt : D → WS → Prop
  bk : DEnv → WS → Prop := fun _ _ => False
  ct : DEnv → WS → Prop := fun _ _ => False
abbrev WStm := XP → WEnds → DEnv → WS → Prop
abbrev DSp := List D → WS → (D → WS → Prop) → XP → Prop

/-- what is wanted of an exception: its own dict holds its value -/
def XOk (K : Fg) (B : Base) (E : XK) (F : Hp) (PX : XP) : Prop :=
  ∀ (n : Str) (C : Addr) (d : D) (W' : WS) (F' H' : Hp) (da : Addr) (v : V), XN K n C → PX n d W' → Stt K B F' W' H' → Le F F' → H' da = some (.xd [("value", v)]) → Rep K F' d v → E (.ref C) (some da) H'
theorem XOk.mono {K : Fg} {B : Base} {E : XK} {F F' : Hp} {PX : XP} (l : Le F F') (h : XOk K B E F PX) : XOk K B E F' PX :=
  fun n C d W F2 H da v x p S l2 => h n C d W F2 H da v x p S (l.trans l2)
/-- the exceptions of what runs from here on, told from here -/
theorem XOk.here {K : Fg} {B : Base} {E : XK} {F H : Hp} {W : WS} {PX : XP} (S : Stt K B F W H) (h : XOk K B E F PX) : XOk K ⟨H, W, F⟩ E F PX :=
  fun n C d W F2 H da v x p T l => h n C d W F2 H da v x p (S.trans T) l

def liftE (K : Fg) (B : Base) (E : XK) (t : WE) : TE := fun σ H Q => ∃ F env W P PX, Stt K B F W H ∧ EnvOk K F σ env ∧ t PX env W P ∧ XOk K B E F PX ∧
  ∀ d env' W' F' H' v, P d env' W' → Stt K B F' W' H' → Le F F' → EnvOk K F' σ env' → Rep K F' d v → Q v H'
def liftT (K : Fg) (B : Base) (E : XK) (t : WT) : TT := fun σ H Q => ∃ F env W P PX, Stt K B F W H ∧ EnvOk K F σ env ∧ t PX env W P ∧ XOk K B E F PX ∧
  ∀ b env' W' F' H', P b env' W' → Stt K B F' W' H' → Le F F' → EnvOk K F' σ env' → Q b H'
def liftA (K : Fg) (B : Base) (E : XK) (t : WA) : TA := fun σ H Q => ∃ F env W P PX, Stt K B F W H ∧ EnvOk K F σ env ∧ t PX env W P ∧ XOk K B E F PX ∧
  ∀ ds env' W' F' H' vs, P ds env' W' → Stt K B F' W' H' → Le F F' → EnvOk K F' σ env' → RepL K F' ds vs → Q vs H'
/-- a new container, nobody else's -/
def liftF (K : Fg) (B : Base) (E : XK) (t : WF) : TE := fun σ H Q => ∃ F env W P PX, Stt K B F W H ∧ EnvOk K F σ env ∧ t PX env W P ∧ XOk K B E F PX ∧
  ∀ ob env' W' F' H' a o, P ob env' W' → Stt K B F' W' H' → Le F F' → EnvOk K F' σ env' → H' a = some o → F' a = none → W' a = none → B.H0 a = none → RepO K F' ob o → Q (.ref a) H'
def liftS (K : Fg) (B : Base) (E : XK) (t : WStm) : TS := fun D σ H => ∃ F env W P PX, Stt K B F W H ∧ EnvOk K F σ env ∧ t PX P env W ∧ XOk K B E F PX ∧
  (∀ env' W' F' H' σ', P.nx env' W' → Stt K B F' W' H' → Le F F' → EnvOk K F' σ' env' → D.nx σ' H') ∧
  (∀ d W' F' H' v, P.rt d W' → Stt K B F' W' H' → Le F F' → Rep K F' d v → D.rt v H') ∧
  (∀ env' W' F' H' σ', P.bk env' W' → Stt K B F' W' H' → Le F F' → EnvOk K F' σ' env' → D.bk σ' H') ∧
  (∀ env' W' F' H' σ', P.ct env' W' → Stt K B F' W' H' → Le F F' → EnvOk K F' σ' env' → D.ct σ' H')

theorem peW {X : Cx} {e : Expr} {t t' : TE} (h : PE X e t) (hw : ∀ σ H Q, t' σ H Q → t σ H Q) : PE X e t' := ⟨fun pins s σ H Q I q => h.run pins s σ H Q I (hw σ H Q q)⟩
theorem ptW {X : Cx} {e : Expr} {t t' : TT} (h : PT X e t) (hw : ∀ σ H Q, t' σ H Q → t σ H Q) : PT X e t' := ⟨fun pins s σ H Q I q => h.run pins s σ H Q I (hw σ H Q q)⟩
theorem paW {X : Cx} {e : List Expr} {t t' : TA} (h : PA X e t) (hw : ∀ σ H Q, t' σ H Q → t σ H Q) : PA X e t' := ⟨fun ps pins s σ H Q I q => h.run ps pins s σ H Q I (hw σ H Q q)⟩
theorem psW {X : Cx} {e : Stmt} {t t' : TS} (h : PS X e t) (hw : ∀ D σ H, t' D σ H → t D σ H) : PS X e t' := ⟨fun pins s σ H D I q => h.run pins s σ H D I (hw D σ H q)⟩
theorem pssW {X : Cx} {e : List Stmt} {t t' : TS} (h : PSs X e t) (hw : ∀ D σ H, t' D σ H → t D σ H) : PSs X e t' := ⟨fun pins s σ H D I q => h.run pins s σ H D I (hw D σ H q)⟩

/-! ## names, constants -/
def wVar (i : Nat) : WE := fun _ env W P => ∃ d, env[i]? = some (some d) ∧ P d env W
def wC (d : D) : WE := fun _ env W P => P d env W
/-- a local container is read as what it holds now; it is fixed from here on -/
def wFrz (i : Nat) : WE := fun _ env W P => ∃ d, env[i]? = some (some d) ∧
  match d with
  | .obj a => ∃ ob, W a = some ob ∧ P ob.toD (env.set i (some ob.toD)) (W.del a)
  | d => P d env W
section
variable {X : Cx} {K : Fg} {B : Base} {E : XK}
theorem RepO.toRep {F : Hp} {ob : Ob} {o : HO} {a : Addr} (r : RepO K F ob o) (h : F a = some o) : Rep K F ob.toD (.ref a) := by
  cases r with
  | lst r => exact .lst h r
  | dK e r => exact .dK (.inl h) e r
  | dT e r => exact .dT (.inl h) e r
  | ins e r => exact .ins h e r
  | dN r => exact .raw a
theorem EnvOk.set {F : Hp} {σ : L2.St} {env : DEnv} {i : Nat} {d : D} {v : V} (h : EnvOk K F σ env) (r : Rep K F d v) : EnvOk K F (σ.set i (some v)) (env.set i (some d)) := ⟨by rw [List.length_set, List.length_set, h.len], fun j e q => by
  by_cases c : i = j
  · subst c
    have hl : i < env.length := by
      have := (List.getElem?_eq_some_iff.mp q).1
      rwa [List.length_set] at this
    rw [List.getElem?_set_self hl] at q
    cases q
    exact ⟨v, by rw [List.getElem?_set_self (by rw [← h.len]; exact hl)], r⟩
  · rw [List.getElem?_set_ne c] at q
    obtain ⟨w, h1, h2⟩ := h.at_ j e q
    exact ⟨w, by rw [List.getElem?_set_ne c]; exact h1, h2⟩⟩
theorem EnvOk.forget {F : Hp} {σ : L2.St} {env : DEnv} {i : Nat} {x : Option V} (h : EnvOk K F σ env) : EnvOk K F (σ.set i x) (env.set i none) := ⟨by rw [List.length_set, List.length_set, h.len], fun j e q => by
  by_cases c : i = j
  · subst c
    have hl : i < env.length := by
      have := (List.getElem?_eq_some_iff.mp q).1
      rwa [List.length_set] at this
    rw [List.getElem?_set_self hl] at q
    cases q
  · rw [List.getElem?_set_ne c] at q
    obtain ⟨w, h1, h2⟩ := h.at_ j e q
    exact ⟨w, by rw [List.getElem?_set_ne c]; exact h1, h2⟩⟩
theorem EnvOk.re {F : Hp} {σ : L2.St} {env : DEnv} {i : Nat} {d : D} {v : V} (h : EnvOk K F σ env) (hi : σ[i]? = some (some v)) (r : Rep K F d v) : EnvOk K F σ (env.set i (some d)) := ⟨by rw [List.length_set, h.len], fun j e q => by
  by_cases c : i = j
  · subst c
    have hl : i < env.length := by
      have := (List.getElem?_eq_some_iff.mp q).1
      rwa [List.length_set] at this
    rw [List.getElem?_set_self hl] at q
    cases q
    exact ⟨v, hi, r⟩
  · rw [List.getElem?_set_ne c] at q
    exact h.at_ j e q⟩
theorem s_var {i : Nat} {x : Str} {pos : Pos} (hN : X.N[i]? = some x) (hv : Vis X.env.scope x) (hd : (x == ("__debug__" : Str)) = false) (hcd : (x == ("__classdict__" : Str)) = false) : PE X (.Name x pos) (liftE K B E (wVar i)) :=
  peW (pe_var hN hv hd hcd) fun σ H Q ⟨F, env, W, P, PX, S, hE, ⟨d, he, p⟩, _, hQ⟩ => by
    obtain ⟨v, h1, h2⟩ := hE.at_ i d he
    exact ⟨v, h1, hQ d env W F H v p S (Le.refl _) hE h2⟩
theorem s_frz {i : Nat} {x : Str} {pos : Pos} (hN : X.N[i]? = some x) (hv : Vis X.env.scope x) (hd : (x == ("__debug__" : Str)) = false) (hcd : (x == ("__classdict__" : Str)) = false) : PE X (.Name x pos) (liftE K B E (wFrz i)) :=
  peW (pe_var hN hv hd hcd) fun σ H Q ⟨F, env, W, P, PX, S, hE, ⟨d, he, p⟩, _, hQ⟩ => by
    obtain ⟨v, h1, h2⟩ := hE.at_ i d he
    refine ⟨v, h1, ?_⟩
    cases d with
    | obj a =>
      obtain ⟨ob, hw, p⟩ := p
      obtain ⟨hF, o, ho, ro⟩ := S.obj a ob hw
      cases h2
      have l := Le.upd (o := o) hF
      have r := (ro.mono l).toRep (a := a) upd_same
      exact hQ _ _ _ _ H _ p (S.unbox hw ho) l ((hE.mono l).re h1 r) r
    | _ => exact hQ _ env W F H v p S (Le.refl _) hE h2
theorem s_const {e : Expr} {d : D} {v : V} (h : PE X e (tC v)) (r : ∀ F, Rep K F d v) : PE X e (liftE K B E (wC d)) :=
  peW h fun σ H Q ⟨F, env, W, P, PX, S, hE, p, _, hQ⟩ => hQ d env W F H v p S (Le.refl _) hE (r F)


/-! ## reading a container through the store -/
def view (W : WS) : D → D
  | .obj a => match W a with
    | some ob => ob.toD
    | none => .obj a
  | .ktup ds => .tup ds
  | .ptup ds => .tup ds
  | .klst ds => .lst ds
  | d => d
section
variable {F H : Hp} {W : WS} {d : D} {v : V}
theorem view_lst (S : Stt K B F W H) (r : Rep K F d v) {ds : List D} (h : view W d = .lst ds) : ∃ a vs, v = .ref a ∧ SqL K H a vs ∧ RepL K F ds vs := by
  cases r with
  | obj a =>
    have h' : (match W a with | some ob => ob.toD | none => .obj a) = D.lst ds := h
    cases e : W a with
    | none => rw [e] at h'; cases h'
    | some ob =>
      rw [e] at h'
      obtain ⟨_, o, ho, ro⟩ := S.obj a ob e
      cases ro with
      | lst r => cases h'; exact ⟨a, _, rfl, .inl (.inl ho), r⟩
      | dK _ _ => cases h'
      | dT _ _ => cases h'
      | ins _ _ => cases h'
      | dN _ => cases h'
  | lst hs r => cases h; exact ⟨_, _, rfl, .inl (.inl (S.sub _ _ hs)), r⟩
  | klst hs r => cases h; exact ⟨_, _, rfl, S.sqL hs, r⟩
  | _ => cases h
theorem view_tup (S : Stt K B F W H) (r : Rep K F d v) {ds : List D} (h : view W d = .tup ds) : ∃ a vs, v = .ref a ∧ SqT K F a vs ∧ RepL K F ds vs := by
  cases r with
  | obj a =>
    have h' : (match W a with | some ob => ob.toD | none => .obj a) = D.tup ds := h
    cases e : W a with
    | none => rw [e] at h'; cases h'
    | some ob => rw [e] at h'; cases ob <;> cases h'
  | tup hs r => cases h; exact ⟨_, _, rfl, .inl (.inl hs), r⟩
  | ptup _ _ hs r => cases h; exact ⟨_, _, rfl, .inl (.inr ⟨_, hs⟩), r⟩
  | ktup hs r => cases h; exact ⟨_, _, rfl, hs.elim (fun z => z.elim (fun q => nomatch q) fun ⟨_, q⟩ => nomatch q) .inr, r⟩
  | _ => cases h
theorem view_dK (S : Stt K B F W H) (r : Rep K F d v) {ds : List (Key × D)} (h : view W d = .dK ds) : ∃ a kvs, v = .ref a ∧ Rd H a (.dK kvs) ∧ kvs.map (·.1) = ds.map (·.1) ∧ RepL K F (ds.map (·.2)) (kvs.map (·.2)) := by
  cases r with
  | obj a =>
    have h' : (match W a with | some ob => ob.toD | none => .obj a) = D.dK ds := h
    cases e : W a with
    | none => rw [e] at h'; cases h'
    | some ob =>
      rw [e] at h'
      obtain ⟨_, o, ho, ro⟩ := S.obj a ob e
      cases ro with
      | dK q r => cases h'; exact ⟨a, _, rfl, .inl ho, q, r⟩
      | lst _ => cases h'
      | dT _ _ => cases h'
      | ins _ _ => cases h'
      | dN _ => cases h'
  | dK hs e r => cases h; exact ⟨_, _, rfl, S.rd hs, e, r⟩
  | _ => cases h
theorem view_dT (S : Stt K B F W H) (r : Rep K F d v) {ds : List (List Key × D)} (h : view W d = .dT ds) : ∃ a kvs, v = .ref a ∧ Rd H a (.dT kvs) ∧ kvs.map (·.1) = ds.map (·.1) ∧ RepL K F (ds.map (·.2)) (kvs.map (·.2)) := by
  cases r with
  | obj a =>
    have h' : (match W a with | some ob => ob.toD | none => .obj a) = D.dT ds := h
    cases e : W a with
    | none => rw [e] at h'; cases h'
    | some ob =>
      rw [e] at h'
      obtain ⟨_, o, ho, ro⟩ := S.obj a ob e
      cases ro with
      | dT q r => cases h'; exact ⟨a, _, rfl, .inl ho, q, r⟩
      | lst _ => cases h'
      | dK _ _ => cases h'
      | ins _ _ => cases h'
      | dN _ => cases h'
  | dT hs e r => cases h; exact ⟨_, _, rfl, S.rd hs, e, r⟩
  | _ => cases h
/-- .. that no loop has locked: an object of the store -/
theorem obj_lst (S : Stt K B F W H) {a : Addr} {ds : List D} (h : W a = some (.lst ds)) : ∃ vs, H a = some (.lst vs) ∧ RepL K F ds vs := by
  obtain ⟨_, o, ho, ro⟩ := S.obj a _ h
  cases ro with
  | lst r => exact ⟨_, ho, r⟩
theorem obj_dK (S : Stt K B F W H) {a : Addr} {ds : List (Key × D)} (h : W a = some (.dK ds)) : ∃ kvs, H a = some (.dK kvs) ∧ kvs.map (·.1) = ds.map (·.1) ∧ RepL K F (ds.map (·.2)) (kvs.map (·.2)) := by
  obtain ⟨_, o, ho, ro⟩ := S.obj a _ h
  cases ro with
  | dK e r => exact ⟨_, ho, e, r⟩
theorem obj_dT (S : Stt K B F W H) {a : Addr} {ds : List (List Key × D)} (h : W a = some (.dT ds)) : ∃ kvs, H a = some (.dT kvs) ∧ kvs.map (·.1) = ds.map (·.1) ∧ RepL K F (ds.map (·.2)) (kvs.map (·.2)) := by
  obtain ⟨_, o, ho, ro⟩ := S.obj a _ h
  cases ro with
  | dT e r => exact ⟨_, ho, e, r⟩
end

/-! ## plain data: None, bools, ints, texts, lists and tuples of such -/
mutual
def toP : D → PyData
  | .bl b => .bool b
  | .int i => .int i
  | .str x => .str x
  | .lst xs => .list (toPs xs)
  | .tup xs => .tuple (toPs xs)
  | .non | .ty _ | .ktup _ | .klst _ | .ptup _ | .dK _ | .dT _ | .ins _ _ | .obj _ | .raw => .none
def toPs : List D → List PyData
  | [] => []
  | d :: r => toP d :: toPs r
end
mutual
def plainD : D → Bool
  | .non | .bl _ | .int _ | .str _ => true
  | .lst xs => plainDs xs
  | .tup xs => plainDs xs
  | .ty _ | .ktup _ | .klst _ | .ptup _ | .dK _ | .dT _ | .ins _ _ | .obj _ | .raw => false
def plainDs : List D → Bool
  | [] => true
  | d :: r => plainD d && plainDs r
end
mutual
theorem dp_of {F H : Hp} {W : WS} (S : Stt K B F W H) : ∀ (d : D) (v : V), plainD d = true → Rep K F d v → Dp K H v (toP d)
  | .non, _, _, r => by cases r; simp only [toP]; exact .non
  | .bl b, _, _, r => by cases r; simp only [toP]; exact .bl b
  | .int i, _, _, r => by cases r; simp only [toP]; exact .int i
  | .str x, _, _, r => by cases r; simp only [toP]; exact .str x
  | .lst xs, _, h, r => by
    cases r with
    | lst hs r =>
      simp only [toP]
      exact .lst (.inl (.inl (S.sub _ _ hs))) (dps_of S xs _ (by simpa only [plainD] using h) r)
  | .tup xs, _, h, r => by
    cases r with
    | tup hs r =>
      simp only [toP]
      exact .tup (.inl (.inl (S.sub _ _ hs))) (dps_of S xs _ (by simpa only [plainD] using h) r)
  | .ty _, _, h, _ => by simp only [plainD] at h; cases h
  | .ktup _, _, h, _ => by simp only [plainD] at h; cases h
  | .ptup _, _, h, _ => by simp only [plainD] at h; cases h
  | .klst _, _, h, _ => by simp only [plainD] at h; cases h
  | .dK _, _, h, _ => by simp only [plainD] at h; cases h
  | .dT _, _, h, _ => by simp only [plainD] at h; cases h
  | .ins _ _, _, h, _ => by simp only [plainD] at h; cases h
  | .obj _, _, h, _ => by simp only [plainD] at h; cases h
  | .raw, _, h, _ => by simp only [plainD] at h; cases h
theorem dps_of {F H : Hp} {W : WS} (S : Stt K B F W H) : ∀ (ds : List D) (vs : List V), plainDs ds = true → RepL K F ds vs → DpAll K H vs (toPs ds)
  | [], _, _, r => by cases r; simp only [toPs]; exact .nil
  | d :: ds, _, h, r => by
    cases r with
    | cons r t =>
      simp only [plainDs, Bool.and_eq_true] at h
      simp only [toPs]
      exact .cons (dp_of S d _ h.1 r) (dps_of S ds _ h.2 t)
end
/-- .. a list of the store among them -/
theorem dp_view {F H : Hp} {W : WS} (S : Stt K B F W H) {d : D} {v : V} (h : plainD (view W d) = true) (r : Rep K F d v) : Dp K H v (toP (view W d)) := by
  cases r with
  | obj a =>
    have h' : plainD (match W a with | some ob => ob.toD | none => .obj a) = true := h
    show Dp K H (.ref a) (toP (match W a with | some ob => ob.toD | none => .obj a))
    cases e : W a with
    | none => rw [e] at h'; simp only [plainD] at h'; cases h'
    | some ob =>
      rw [e] at h'
      obtain ⟨_, o, ho, ro⟩ := S.obj a ob e
      cases ro with
      | lst r =>
        simp only [toP]
        exact .lst (.inl (.inl ho)) (dps_of S _ _ (by simpa only [plainD] using h') r)
      | dK _ _ => simp only [plainD] at h'; cases h'
      | dT _ _ => simp only [plainD] at h'; cases h'
      | ins _ _ => simp only [plainD] at h'; cases h'
      | dN _ => simp only [plainD] at h'; cases h'
  | ktup hs r =>
    have h' : plainD (.tup _) = true := h
    show Dp K H _ (toP (.tup _))
    simp only [toP]
    exact .tup (hs.elim (fun z => z.elim (fun q => nomatch q) fun ⟨_, q⟩ => nomatch q) .inr) (dps_of S _ _ (by simpa only [plainD] using h') r)
  | ptup _ _ hs r =>
    have h' : plainD (.tup _) = true := h
    show Dp K H _ (toP (.tup _))
    simp only [toP]
    exact .tup (.inl (.inr ⟨_, S.sub _ _ hs⟩)) (dps_of S _ _ (by simpa only [plainD] using h') r)
  | klst hs r =>
    have h' : plainD (.lst _) = true := h
    show Dp K H _ (toP (.lst _))
    simp only [toP]
    exact .lst (S.sqL hs) (dps_of S _ _ (by simpa only [plainD] using h') r)
  | _ => exact dp_of S _ _ h (by first | exact .raw _ | exact .non | exact .bl _ | exact .int _ | exact .str _ | exact .ty _ | (exact .lst ‹_› ‹_›) | (exact .tup ‹_› ‹_›) | (exact .dK ‹_› ‹_› ‹_›) | (exact .dT ‹_› ‹_› ‹_›) | (exact .ins ‹_› ‹_› ‹_›))
end
end DL

set_option maxRecDepth 100000
set_option maxHeartbeats 2000000
set_option linter.all false
namespace DL
open PySem PySem.Spec PyProof.Rows L2
/-! ## operators on two values -/
abbrev F1 := D → WS → (D → Prop) → Prop
abbrev F2 := D → D → WS → (D → Prop) → Prop
abbrev FL := List D → WS → (D → Prop) → Prop
abbrev FO := List D → WS → (Ob → Prop) → Prop
/-- what an operation leaves: perhaps new things that stand from now on -/
def Out (K : Fg) (B : Base) (F : Hp) (W : WS) (P : D → Prop) (Q : VK) : Prop := ∀ d v F' H', P d → Stt K B F' W H' → Le F F' → Rep K F' d v → Q v H'
def OutF (K : Fg) (F H : Hp) (P : Ob → Prop) (Q : VK) : Prop := ∀ ob a o, P ob → H a = none → RepO K F ob o → Q (.ref a) (upd H a o)
def wBin (f : F2) (ta tb : WE) : WE := fun PX env W P => ta PX env W fun d1 env1 W1 => tb PX env1 W1 fun d2 env2 W2 => f d1 d2 W2 fun d => P d env2 W2
def wUn (f : F1) (ta : WE) : WE := fun PX env W P => ta PX env W fun d1 env1 W1 => f d1 W1 fun d => P d env1 W1
def wApp (f : FL) (ta : WA) : WE := fun PX env W P => ta PX env W fun ds env1 W1 => f ds W1 fun d => P d env1 W1
def wAppF (f : FO) (ta : WA) : WF := fun PX env W P => ta PX env W fun ds env1 W1 => f ds W1 fun ob => P ob env1 W1
def rD (K : Fg) (B : Base) (f : F2) : R2 := fun x y H Q => ∃ F W d1 d2 P, Stt K B F W H ∧ Rep K F d1 x ∧ Rep K F d2 y ∧ f d1 d2 W P ∧ Out K B F W P Q
def rD1 (K : Fg) (B : Base) (f : F1) : V → Hp → VK → Prop := fun x H Q => ∃ F W d1 P, Stt K B F W H ∧ Rep K F d1 x ∧ f d1 W P ∧ Out K B F W P Q
def rDL (K : Fg) (B : Base) (f : FL) : List V → Hp → VK → Prop := fun xs H Q => ∃ F W ds P, Stt K B F W H ∧ RepL K F ds xs ∧ f ds W P ∧ Out K B F W P Q
def rDO (K : Fg) (B : Base) (f : FO) : List V → Hp → VK → Prop := fun xs H Q => ∃ F W ds P, Stt K B F W H ∧ RepL K F ds xs ∧ f ds W P ∧ OutF K F H P Q
section
variable {X : Cx} {K : Fg} {B : Base} {E : XK}
theorem liftE_bin {f : F2} {ta tb : WE} {σ : L2.St} {H : Hp} {Q : VK} (h : liftE K B E (wBin f ta tb) σ H Q) : tOp (rD K B f) (liftE K B E ta) (liftE K B E tb) σ H Q := by
  obtain ⟨F, env, W, P, PX, S, hE, h, hX, hQ⟩ := h
  refine ⟨F, env, W, _, PX, S, hE, h, hX, fun d1 env1 W1 F1 H1 v1 p1 S1 l1 e1 r1 => ?_⟩
  refine ⟨F1, env1, W1, _, PX, S1, e1, p1, hX.mono l1, fun d2 env2 W2 F2 H2 v2 p2 S2 l2 e2 r2 => ?_⟩
  exact ⟨F2, W2, d1, d2, _, S2, r1.mono l2, r2, p2, fun d v F3 H3 p3 S3 l3 r3 => hQ d env2 W2 F3 H3 v p3 S3 ((l1.trans l2).trans l3) (e2.mono l3) r3⟩
theorem liftE_un {f : F1} {ta : WE} {σ : L2.St} {H : Hp} {Q : VK} (h : liftE K B E (wUn f ta) σ H Q) : tUn (rD1 K B f) (liftE K B E ta) σ H Q := by
  obtain ⟨F, env, W, P, PX, S, hE, h, hX, hQ⟩ := h
  refine ⟨F, env, W, _, PX, S, hE, h, hX, fun d1 env1 W1 F1 H1 v1 p1 S1 l1 e1 r1 => ?_⟩
  exact ⟨F1, W1, d1, _, S1, r1, p1, fun d v F3 H3 p3 S3 l3 r3 => hQ d env1 W1 F3 H3 v p3 S3 (l1.trans l3) (e1.mono l3) r3⟩
theorem liftE_app {f : FL} {ta : WA} {σ : L2.St} {H : Hp} {Q : VK} (h : liftE K B E (wApp f ta) σ H Q) : tCB (rDL K B f) (liftA K B E ta) σ H Q := by
  obtain ⟨F, env, W, P, PX, S, hE, h, hX, hQ⟩ := h
  refine ⟨F, env, W, _, PX, S, hE, h, hX, fun d1 env1 W1 F1 H1 v1 p1 S1 l1 e1 r1 => ?_⟩
  exact ⟨F1, W1, d1, _, S1, r1, p1, fun d v F3 H3 p3 S3 l3 r3 => hQ d env1 W1 F3 H3 v p3 S3 (l1.trans l3) (e1.mono l3) r3⟩
/-- a new container laid: the state -/
theorem laidF {F H : Hp} {W : WS} {a : Addr} {o : HO} (S : Stt K B F W H) (h : H a = none) : Stt K B F W (upd H a o) ∧ F a = none ∧ W a = none ∧ B.H0 a = none := ⟨S.laid h, S.newF h, S.newW h, S.dom a h⟩
theorem liftF_app {f : FO} {ta : WA} {σ : L2.St} {H : Hp} {Q : VK} (h : liftF K B E (wAppF f ta) σ H Q) : tCB (rDO K B f) (liftA K B E ta) σ H Q := by
  obtain ⟨F, env, W, P, PX, S, hE, h, hX, hQ⟩ := h
  refine ⟨F, env, W, _, PX, S, hE, h, hX, fun d1 env1 W1 F1 H1 v1 p1 S1 l1 e1 r1 => ?_⟩
  refine ⟨F1, W1, d1, _, S1, r1, p1, fun ob a o p h ro => ?_⟩
  obtain ⟨g1, g2, g3, g4⟩ := laidF (o := o) S1 h
  exact hQ ob env1 W1 F1 _ a o p g1 l1 e1 upd_same g2 g3 g4 ro
/-- a new container, known by its value from now on -/
def wVal (t : WF) : WE := fun PX env W P => t PX env W fun ob env1 W1 => P ob.toD env1 W1
/-- .. or as an object of the store -/
def wBox (t : WF) : WE := fun PX env W P => t PX env W fun ob env1 W1 => ∀ a, W1 a = none → P (.obj a) env1 (W1.put a ob)
theorem s_val {e : Expr} {t : WF} (h : PE X e (liftF K B E t)) : PE X e (liftE K B E (wVal t)) := peW h fun σ H Q ⟨F, env, W, P, PX, S, hE, h, hX, hQ⟩ => by
  refine ⟨F, env, W, _, PX, S, hE, h, hX, fun ob env1 W1 F1 H1 a o p S1 l1 e1 ha hF hW hB ro => ?_⟩
  have l := Le.upd (o := o) hF
  exact hQ _ _ _ _ H1 _ p (S1.froze ha hF hW hB) (l1.trans l) (e1.mono l) ((ro.mono l).toRep upd_same)
theorem s_box {e : Expr} {t : WF} (h : PE X e (liftF K B E t)) : PE X e (liftE K B E (wBox t)) := peW h fun σ H Q ⟨F, env, W, P, PX, S, hE, h, hX, hQ⟩ => by
  refine ⟨F, env, W, _, PX, S, hE, h, hX, fun ob env1 W1 F1 H1 a o p S1 l1 e1 ha hF hW hB ro => ?_⟩
  exact hQ _ _ _ _ H1 _ (p a hW) (S1.box ha hF hB ro) l1 e1 (.obj a)

/-! ## arithmetic -/
def fAdd : F2
  | .int i, .int j, _, P => P (.int (i + j))
  | .str i, .str j, _, P => i.length + j.length ≤ sizeLine ∧ P (.str (i ++ j))
  | _, _, _, _ => False
def fSub : F2
  | .int i, .int j, _, P => P (.int (i - j))
  | _, _, _, _ => False
def fMul : F2
  | .int i, .int j, _, P => CMulW i j ∧ P (.int (i * j))
  | _, _, _, _ => False
def fDiv : F2
  | .int i, .int j, _, P => CDivW i j ∧ P (.int (i / j))
  | _, _, _, _ => False
def fMod : F2
  | .int i, .int j, _, P => 0 < j ∧ P (.int (i % j))
  | _, _, _, _ => False
def PowOk (i j : Int) : Prop := 0 ≤ j ∧ ∃ a : Nat, i.natAbs < 2 ^ a ∧ (a : Int) * j ≤ 1000000
def fPow : F2
  | .int i, .int j, _, P => PowOk i j ∧ P (.int (i ^ j.toNat))
  | _, _, _, _ => False
def fLt : F2
  | .int i, .int j, _, P => P (.bl (decide (i < j)))
  | _, _, _, _ => False
def fLe : F2
  | .int i, .int j, _, P => P (.bl (decide (i ≤ j)))
  | _, _, _, _ => False
def fGt : F2
  | .int i, .int j, _, P => P (.bl (decide (j < i)))
  | _, _, _, _ => False
def fGe : F2
  | .int i, .int j, _, P => P (.bl (decide (j ≤ i)))
  | _, _, _, _ => False
theorem out0 {F H : Hp} {W : WS} {P : D → Prop} {Q : VK} {d : D} {v : V} (S : Stt K B F W H) (o : Out K B F W P Q) (p : P d) (r : Rep K F d v) : Q v H := o d v F H p S (Le.refl _) r
/-- two ints -/
theorem ints2 {g : Value → Value → Sem Value} {f : F2} {r : R2} (h : OpR X g r)
    (hf : ∀ d1 d2 W P, f d1 d2 W P → ∃ i j, d1 = .int i ∧ d2 = .int j ∧ ∃ d v, (∀ F, Rep K F d v) ∧ P d ∧ ∀ H Q, Q v H → r (.int i) (.int j) H Q) : OpR X g (rD K B f) := by
  intro pins s σ H x y v u Q I rx ry h2
  obtain ⟨F, W, d1, d2, P, S, r1, r2, hp, o⟩ := h2
  obtain ⟨i, j, rfl, rfl, d, w, rw', p, hr⟩ := hf _ _ _ _ hp
  cases r1
  cases r2
  exact h pins s σ H _ _ v u Q I rx ry (hr H Q (out0 S o p (rw' F)))
theorem o_sub : OpR X (binaryOp .Sub) (rD K B fSub) := ints2 op_sub fun d1 d2 W P h => by
  cases d1 with
  | int i => cases d2 with
    | int j => exact ⟨i, j, rfl, rfl, .int (i - j), .int (i - j), fun _ => .int _, h, fun H Q q => ⟨i, j, rfl, rfl, q⟩⟩
    | _ => exact False.elim h
  | _ => exact False.elim h
theorem o_mul : OpR X (binaryOp .Mult) (rD K B fMul) := ints2 op_mulW fun d1 d2 W P h => by
  cases d1 with
  | int i => cases d2 with
    | int j => exact ⟨i, j, rfl, rfl, .int (i * j), .int (i * j), fun _ => .int _, h.2, fun H Q q => ⟨i, j, rfl, rfl, h.1, q⟩⟩
    | _ => exact False.elim h
  | _ => exact False.elim h
theorem o_div : OpR X (binaryOp .FloorDiv) (rD K B fDiv) := ints2 op_fdivW fun d1 d2 W P h => by
  cases d1 with
  | int i => cases d2 with
    | int j => exact ⟨i, j, rfl, rfl, .int (i / j), .int (i / j), fun _ => .int _, h.2, fun H Q q => ⟨i, j, rfl, rfl, h.1, q⟩⟩
    | _ => exact False.elim h
  | _ => exact False.elim h
theorem o_mod : OpR X (binaryOp .Mod) (rD K B fMod) := ints2 op_mod fun d1 d2 W P h => by
  cases d1 with
  | int i => cases d2 with
    | int j => exact ⟨i, j, rfl, rfl, .int (i % j), .int (i % j), fun _ => .int _, h.2, fun H Q q => ⟨i, j, rfl, rfl, h.1, q⟩⟩
    | _ => exact False.elim h
  | _ => exact False.elim h
theorem o_lt : OpR X (compareOp .Lt) (rD K B fLt) := ints2 op_lt fun d1 d2 W P h => by
  cases d1 with
  | int i => cases d2 with
    | int j => exact ⟨i, j, rfl, rfl, _, _, fun _ => .bl _, h, fun H Q q => ⟨i, j, rfl, rfl, q⟩⟩
    | _ => exact False.elim h
  | _ => exact False.elim h
theorem o_le : OpR X (compareOp .LtE) (rD K B fLe) := ints2 op_le fun d1 d2 W P h => by
  cases d1 with
  | int i => cases d2 with
    | int j => exact ⟨i, j, rfl, rfl, _, _, fun _ => .bl _, h, fun H Q q => ⟨i, j, rfl, rfl, q⟩⟩
    | _ => exact False.elim h
  | _ => exact False.elim h
theorem o_gt : OpR X (compareOp .Gt) (rD K B fGt) := ints2 op_gt fun d1 d2 W P h => by
  cases d1 with
  | int i => cases d2 with
    | int j => exact ⟨i, j, rfl, rfl, _, _, fun _ => .bl _, h, fun H Q q => ⟨i, j, rfl, rfl, q⟩⟩
    | _ => exact False.elim h
  | _ => exact False.elim h
theorem o_ge : OpR X (compareOp .GtE) (rD K B fGe) := ints2 op_ge fun d1 d2 W P h => by
  cases d1 with
  | int i => cases d2 with
    | int j => exact ⟨i, j, rfl, rfl, _, _, fun _ => .bl _, h, fun H Q q => ⟨i, j, rfl, rfl, q⟩⟩
    | _ => exact False.elim h
  | _ => exact False.elim h
theorem o_add : OpR X (binaryOp .Add) (rD K B fAdd) := by
  intro pins s σ H x y v u Q I rx ry ⟨F, W, d1, d2, P, S, r1, r2, h, o⟩
  unfold fAdd at h
  split at h
  · cases r1; cases r2
    exact op_add pins s σ H _ _ v u Q I rx ry ⟨_, _, rfl, rfl, out0 S o h (.int _)⟩
  · cases r1; cases r2
    exact op_add_str pins s σ H _ _ v u Q I rx ry ⟨_, _, rfl, rfl, h.1, out0 S o h.2 (.str _)⟩
  · exact h.elim
theorem pow_any {i j : Int} {t u : Tok} {A : Around} {prog : Program} {w : World} {Q : Value → Shared → Prop} {EE : Value → Shared → Prop} {s : Shared} (h : PowOk i j) (hq : Q (.int (i ^ j.toNat) s.toks) { s with toks := s.toks + 1 }) :
    wpAny (model prog w) A (binaryOp .Pow (.int i t) (.int j u)) Q EE s := by
  obtain ⟨h0, a, ha, hb⟩ := h
  refine pow_int h0 ?_ hq
  have h1 := intBits_le ha
  have h2 : (Builtin.Int.intBits i : Int) * j ≤ a * j := Int.mul_le_mul_of_nonneg_right (by omega) h0
  omega
theorem o_pow : OpR X (binaryOp .Pow) (rD K B fPow) := by
  intro pins s σ H x y v u Q I rx ry ⟨F, W, d1, d2, P, S, r1, r2, h, o⟩
  unfold fPow at h
  split at h
  · cases r1; cases r2
    obtain ⟨t, rfl⟩ := rx
    obtain ⟨t', rfl⟩ := ry
    exact pow_any h.1 ⟨.int _, H, I.tok _, ⟨_, rfl⟩, out0 S o h.2 (.int _)⟩
  · exact h.elim
def fNeg : F1
  | .int i, _, P => P (.int (-i))
  | _, _, _ => False
theorem o_neg : UnR X (unaryOp .USub) (rD1 K B fNeg) := by
  intro pins s σ H x v Q I rx ⟨F, W, d1, P, S, r1, h, o⟩
  unfold fNeg at h
  split at h
  · cases r1
    exact un_neg pins s σ H _ v Q I rx ⟨_, rfl, out0 S o h (.int _)⟩
  · exact h.elim
/-! ## equal, is None, in -/
def fEqK (neg : Bool) : F2 := fun d1 d2 W P => plainD (view W d1) = true ∧ plainD (view W d2) = true ∧ SeqAt.shaped (toP (view W d1)) = true ∧ SeqAt.shaped (toP (view W d2)) = true ∧
  P (.bl (if neg then !PyData.eqv (toP (view W d1)) (toP (view W d2)) else PyData.eqv (toP (view W d1)) (toP (view W d2))))
theorem o_eq (hu : X.A.units + 64 < cLine) : OpR X (compareOp .Eq) (rD X.K B (fEqK false)) := by
  intro pins s σ H x y v u Q I rx ry ⟨F, W, d1, d2, P, S, r1, r2, ⟨h1, h2, h3, h4, h⟩, o⟩
  exact op_eqD hu pins s σ H _ _ v u Q I rx ry ⟨_, _, dp_view S h1 r1, dp_view S h2 r2, h3, h4, out0 S o h (.bl _)⟩
theorem o_ne (hu : X.A.units + 64 < cLine) : OpR X (compareOp .NotEq) (rD X.K B (fEqK true)) := by
  intro pins s σ H x y v u Q I rx ry ⟨F, W, d1, d2, P, S, r1, r2, ⟨h1, h2, h3, h4, h⟩, o⟩
  exact op_neD hu pins s σ H _ _ v u Q I rx ry ⟨_, _, dp_view S h1 r1, dp_view S h2 r2, h3, h4, out0 S o h (.bl _)⟩
def isN : D → Bool
  | .non => true
  | _ => false
def fIsN : F2 := fun d1 d2 _ P => isN d2 = true ∧ P (.bl (isN d1))
def fNotN : F2 := fun d1 d2 _ P => isN d2 = true ∧ P (.bl (!isN d1))
theorem isN_of {F : Hp} {d : D} {v : V} (r : Rep K F d v) : decide (v = .non) = isN d := by
  cases r <;> simp [isN]
theorem o_isN : OpR X (compareOp .Is) (rD K B fIsN) := by
  intro pins s σ H x y v u Q I rx ry ⟨F, W, d1, d2, P, S, r1, r2, ⟨h1, h⟩, o⟩
  cases d2 <;> simp only [isN] at h1 <;> first | cases h1 | skip
  cases r2
  exact op_isN pins s σ H _ _ v u Q I rx ry ⟨rfl, by rw [isN_of r1]; exact out0 S o h (.bl _)⟩
theorem o_notN : OpR X (compareOp .IsNot) (rD K B fNotN) := by
  intro pins s σ H x y v u Q I rx ry ⟨F, W, d1, d2, P, S, r1, r2, ⟨h1, h⟩, o⟩
  cases d2 <;> simp only [isN] at h1 <;> first | cases h1 | skip
  cases r2
  exact op_notN pins s σ H _ _ v u Q I rx ry ⟨rfl, by rw [isN_of r1]; exact out0 S o h (.bl _)⟩
end
end DL

set_option maxRecDepth 100000
set_option maxHeartbeats 2000000
set_option linter.all false
namespace DL
open PySem PySem.Spec PyProof.Rows L2
section
variable {X : Cx} {K : Fg} {B : Base} {E : XK}
/-! ## arguments -/
def wNil : WA := fun _ env W P => P [] env W
def wCons (t : WE) (r : WA) : WA := fun PX env W P => t PX env W fun d env1 W1 => r PX env1 W1 fun ds env2 W2 => P (d :: ds) env2 W2
theorem s_nil : PA X [] (liftA K B E wNil) := paW pa_nil fun σ H Q ⟨F, env, W, P, PX, S, hE, p, _, hQ⟩ => hQ [] env W F H [] p S (Le.refl _) hE .nil
theorem s_cons {e : Expr} {es : List Expr} {t : WE} {r : WA} (h : PE X e (liftE K B E t)) (hr : PA X es (liftA K B E r)) (hs : starEach (e :: es) X.env = (false, eval e X.env) :: starEach es X.env) : PA X (e :: es) (liftA K B E (wCons t r)) :=
  paW (pa_cons h hr hs) fun σ H Q ⟨F, env, W, P, PX, S, hE, h, hX, hQ⟩ => by
    refine ⟨F, env, W, _, PX, S, hE, h, hX, fun d1 env1 W1 F1 H1 v1 p1 S1 l1 e1 r1 => ?_⟩
    refine ⟨F1, env1, W1, _, PX, S1, e1, p1, hX.mono l1, fun d2 env2 W2 F2 H2 v2 p2 S2 l2 e2 r2 => ?_⟩
    exact hQ _ env2 W2 F2 H2 _ p2 S2 (l1.trans l2) e2 (.cons (r1.mono l2) r2)
/-! ## displays -/
def wLst (t : WA) : WF := fun PX env W P => t PX env W fun ds env1 W1 => ds.length ≤ sizeLine ∧ P (.lst ds) env1 W1
def wTup (t : WA) : WE := fun PX env W P => t PX env W fun ds env1 W1 => ds.length ≤ sizeLine ∧ P (.tup ds) env1 W1
theorem s_lst {es : List Expr} {t : WA} {pos : Pos} (h : PA X es (liftA K B E t)) : PE X (.List es pos) (liftF K B E (wLst t)) := peW (pe_lst h) fun σ H Q ⟨F, env, W, P, PX, S, hE, h, hX, hQ⟩ => by
  refine ⟨F, env, W, _, PX, S, hE, h, hX, fun ds env1 W1 F1 H1 vs p1 S1 l1 e1 r1 => ⟨by rw [← r1.length]; exact p1.1, fun a ha => ?_⟩⟩
  obtain ⟨g1, g2, g3, g4⟩ := laidF (o := .lst vs) S1 ha
  exact hQ _ env1 W1 F1 _ a _ p1.2 g1 l1 e1 upd_same g2 g3 g4 (.lst r1)
theorem s_tup {es : List Expr} {t : WA} {k : Nat} {pos : Pos} (h : PA X es (liftA K B E t)) : PE X (.Tuple es k pos) (liftE K B E (wTup t)) := peW (pe_tup h) fun σ H Q ⟨F, env, W, P, PX, S, hE, h, hX, hQ⟩ => by
  refine ⟨F, env, W, _, PX, S, hE, h, hX, fun ds env1 W1 F1 H1 vs p1 S1 l1 e1 r1 => ⟨by rw [← r1.length]; exact p1.1, fun a ha => ?_⟩⟩
  have l := Le.upd (o := .tup vs) (S1.newF ha)
  exact hQ _ env1 W1 _ _ _ p1.2 (S1.alloc ha) (l1.trans l) (e1.mono l) (.tup upd_same (r1.mono l))
/-- {} -/
def wDnK : WF := fun _ env W P => P (.dK []) env W
def wDnT : WF := fun _ env W P => P (.dT []) env W
theorem s_dnK {pos : Pos} : PE X (.Dict [] [] pos) (liftF K B E wDnK) := peW pe_dnewK fun σ H Q ⟨F, env, W, P, PX, S, hE, p, hX, hQ⟩ a ha => by
  obtain ⟨g1, g2, g3, g4⟩ := laidF (o := .dK []) S ha
  exact hQ _ env W F _ a _ p g1 (Le.refl _) hE upd_same g2 g3 g4 (.dK rfl .nil)
theorem s_dnT {pos : Pos} : PE X (.Dict [] [] pos) (liftF K B E wDnT) := peW pe_dnewT fun σ H Q ⟨F, env, W, P, PX, S, hE, p, hX, hQ⟩ a ha => by
  obtain ⟨g1, g2, g3, g4⟩ := laidF (o := .dT []) S ha
  exact hQ _ env W F _ a _ p g1 (Le.refl _) hE upd_same g2 g3 g4 (.dT rfl .nil)
/-! ## subscripts -/
/-- an item of a list, a tuple, a text -/
def fIx : F2 := fun d1 d2 W P => match view W d1, d2 with
  | .lst ds, .int i => ∃ d, atI ds i = some d ∧ P d
  | .tup ds, .int i => ∃ d, atI ds i = some d ∧ P d
  | .str z, .int i => z.length ≤ sizeLine ∧ ∃ c, atI z.cps.toList i = some c ∧ P (.str ⟨#[c]⟩)
  | _, _ => False
theorem atI_rep {F : Hp} {ds : List D} {vs : List V} {i : Int} {d : D} (r : RepL K F ds vs) (h : atI ds i = some d) : ∃ v, atI vs i = some v ∧ Rep K F d v := by
  unfold atI at h ⊢
  rw [← r.length]
  cases e : ixN ds.length i with
  | none => rw [e] at h; cases h
  | some j => rw [e] at h; exact r.get h
theorem view_str {W : WS} {d : D} {z : Str} (h : view W d = .str z) : d = .str z := by
  cases d with
  | obj a =>
    have h' : (match W a with | some ob => ob.toD | none => .obj a) = D.str z := h
    cases e : W a with
    | none => rw [e] at h'; cases h'
    | some ob => rw [e] at h'; cases ob <;> cases h'
  | ktup _ => cases h
  | klst _ => cases h
  | ptup _ => cases h
  | _ => exact h
theorem i_ix : IxR X (rD X.K B fIx) := by
  intro value slice pins s σ H x y v u Q I rx ry ⟨F, W, d1, d2, P, S, r1, r2, h, o⟩ hs'
  unfold fIx at h
  split at h
  · rename_i ds i hv
    obtain ⟨d, hd, p⟩ := h
    obtain ⟨a, vs, rfl, hs, r⟩ := view_lst S r1 hv
    cases r2
    obtain ⟨w', hw, rw'⟩ := atI_rep r hd
    exact ix_list value slice pins s σ H _ _ v u Q I rx ry ⟨_, _, _, _, rfl, rfl, hs, hw, out0 S o p rw'⟩ hs'
  · rename_i ds i hv
    obtain ⟨d, hd, p⟩ := h
    obtain ⟨a, vs, rfl, hs, r⟩ := view_tup S r1 hv
    cases r2
    obtain ⟨w', hw, rw'⟩ := atI_rep r hd
    exact ix_tup value slice pins s σ H _ _ v u Q I rx ry ⟨_, _, _, _, rfl, rfl, S.sqT hs, hw, out0 S o p rw'⟩ hs'
  · rename_i z i hv
    obtain ⟨hz, c, hc, p⟩ := h
    have e := view_str hv
    subst e
    cases r1
    cases r2
    exact ix_str value slice pins s σ H _ _ v u Q I rx ry ⟨_, _, _, rfl, rfl, hz, hc, out0 S o p (.str _)⟩ hs'
  · exact h.elim
theorem s_ix {a b : Expr} {ta tb : WE} {pos : Pos} (ha : PE X a (liftE X.K B E ta)) (hb : PE X b (liftE X.K B E tb)) (hs : PlainIx b) : PE X (.Subscript a b pos) (liftE X.K B E (wBin fIx ta tb)) :=
  peW (pe_ix i_ix ha hb hs) fun σ H Q h => liftE_bin h
theorem s_bin {op : Operator} {f : F2} {a b : Expr} {ta tb : WE} {pos : Pos} (ho : OpR X (binaryOp op) (rD X.K B f)) (ha : PE X a (liftE X.K B E ta)) (hb : PE X b (liftE X.K B E tb)) : PE X (.BinOp a op b pos) (liftE X.K B E (wBin f ta tb)) :=
  peW (pe_op ho ha hb) fun σ H Q h => liftE_bin h
theorem s_neg {a : Expr} {ta : WE} {pos : Pos} (ha : PE X a (liftE X.K B E ta)) : PE X (.UnaryOp .USub a pos) (liftE X.K B E (wUn fNeg ta)) :=
  peW (pe_un o_neg ha) fun σ H Q h => liftE_un h
theorem s_cmp {op : CmpOp} {f : F2} {a b : Expr} {ta tb : WE} {pos : Pos} (ho : OpR X (compareOp op) (rD X.K B f)) (ha : PE X a (liftE X.K B E ta)) (hb : PE X b (liftE X.K B E tb)) (hm : behindInMarks op b = false) : PE X (.Compare a [op] [b] pos) (liftE X.K B E (wBin f ta tb)) :=
  peW (pe_cmpR ho ha hb hm) fun σ H Q h => liftE_bin h
/-- an expression's bool as a test's -/
def wB (t : WE) : WT := fun PX env W P => t PX env W fun d env1 W1 => ∃ b, d = .bl b ∧ P b env1 W1
theorem liftT_B {t : WE} {σ : L2.St} {H : Hp} {Q : Bool → Hp → Prop} (h : liftT K B E (wB t) σ H Q) : tTest (liftE K B E t) σ H Q := by
  obtain ⟨F, env, W, P, PX, S, hE, h, hX, hQ⟩ := h
  refine ⟨F, env, W, _, PX, S, hE, h, hX, fun d env1 W1 F1 H1 v ⟨b, e, p⟩ S1 l1 e1 r => ?_⟩
  subst e
  cases r
  exact ⟨b, rfl, hQ b env1 W1 F1 H1 p S1 l1 e1⟩
theorem t_cmp {op : CmpOp} {f : F2} {a b : Expr} {ta tb : WE} {pos : Pos} (ho : OpR X (compareOp op) (rD X.K B f)) (ha : PE X a (liftE X.K B E ta)) (hb : PE X b (liftE X.K B E tb)) (hm : behindInMarks op b = false) : PT X (.Compare a [op] [b] pos) (liftT X.K B E (wB (wBin f ta tb))) :=
  ptW (pt_cmpR ho ha hb hm) fun σ H Q h => by
    obtain ⟨F, env, W, P, PX, S, hE, h, hX, hQ⟩ := h
    have := liftE_bin (K := X.K) (B := B) (E := E) (f := f) (ta := ta) (tb := tb) (σ := σ) (H := H) (Q := fun x H' => ∃ k, x = .bl k ∧ Q k H') ⟨F, env, W, _, PX, S, hE, h, hX, fun d env1 W1 F1 H1 v ⟨b, e, p⟩ S1 l1 e1 r => by
      subst e; cases r; exact ⟨b, rfl, hQ b env1 W1 F1 H1 p S1 l1 e1⟩⟩
    exact this
/-- a < b < c -/
def wChain (f g : F2) (ta tb tc : WE) : WE := fun PX env W P => ta PX env W fun d1 env1 W1 => tb PX env1 W1 fun d2 env2 W2 => f d1 d2 W2 fun d => ∃ b, d = .bl b ∧
  match b with
  | true => tc PX env2 W2 fun d3 env3 W3 => g d2 d3 W3 fun d => P d env3 W3
  | false => P (.bl false) env2 W2
theorem chain_go {f g : F2} {ta tb tc : WE} {σ : L2.St} {H : Hp} {Q : VK} (h : liftE K B E (wChain f g ta tb tc) σ H Q) : tChain (rD K B f) (rD K B g) (liftE K B E ta) (liftE K B E tb) (liftE K B E tc) σ H Q := by
  obtain ⟨F, env, W, P, PX, S, hE, h, hX, hQ⟩ := h
  refine ⟨F, env, W, _, PX, S, hE, h, hX, fun d1 env1 W1 F1 H1 v1 p1 S1 l1 e1 r1 => ?_⟩
  refine ⟨F1, env1, W1, _, PX, S1, e1, p1, hX.mono l1, fun d2 env2 W2 F2 H2 v2 p2 S2 l2 e2 r2 => ?_⟩
  refine ⟨F2, W2, d1, d2, _, S2, r1.mono l2, r2, p2, fun d v F3 H3 ⟨b, e, p3⟩ S3 l3 r3 => ?_⟩
  subst e
  cases r3
  refine ⟨b, rfl, ?_⟩
  cases b with
  | false => exact hQ _ env2 W2 F3 H3 _ p3 S3 ((l1.trans l2).trans l3) (e2.mono l3) (.bl false)
  | true =>
    refine ⟨F3, env2, W2, _, PX, S3, e2.mono l3, p3, hX.mono ((l1.trans l2).trans l3), fun d4 env4 W4 F4 H4 v4 p4 S4 l4 e4 r4 => ?_⟩
    exact ⟨F4, W4, d2, d4, _, S4, (r2.mono l3).mono l4, r4, p4, fun d v F5 H5 p5 S5 l5 r5 => hQ d env4 W4 F5 H5 v p5 S5 ((((l1.trans l2).trans l3).trans l4).trans l5) (e4.mono l5) r5⟩
end
end DL

set_option maxRecDepth 100000
set_option maxHeartbeats 2000000
set_option linter.all false
namespace DL
open PySem PySem.Spec PyProof.Rows L2
/-! ## defs -/
/-- room, and no repr under way -/
structure RG (k : Nat) (A : Around) : Prop where
  r : Room k A
  g : A.guards = some []
theorem RG.mono {j k : Nat} {A : Around} (h : RG k A) (l : j ≤ k) : RG j A := ⟨h.r.mono l, h.g⟩
theorem RG.deeper {k : Nat} {A : Around} (h : RG (k + 1) A) (env : Env) : RG k (A.deeper env) := ⟨h.r.deeper env, h.g⟩
theorem RG.in1 {k : Nat} {A : Around} (h : RG (k + 1) A) : RG k A.in1 := ⟨h.r.in1, h.g⟩
/-- a contract over data, as a promise -/
def spD (K : Fg) (sp : DSp) : Sp := fun vs H Q E => ∃ F W ds P PX, Stt K ⟨H, W, F⟩ F W H ∧ RepL K F ds vs ∧ sp ds W P PX ∧
  (∀ d W' F' H' v, P d W' → Stt K ⟨H, W, F⟩ F' W' H' → Rep K F' d v → Q v H') ∧ XOk K ⟨H, W, F⟩ E F PX
structure FnD (P : Program) (w : World) (K : Fg) (mg : Str → Option Value) (base : Heap) (k : Nat) (f : Addr) (fd : FuncData) (ps : List Str) (sp : DSp) : Prop where
  len : ∀ ds W Q PX, sp ds W Q PX → ds.length = ps.length
  run : ∀ (A : Around) (outer : List Env) (s : Shared) (H : Hp) (args : Args) (us : List Value) (vs : List V) (Q : VK) (E : XK), RG k A → Env0 P w K mg base A outer s H →
    BindsTo s fd args (ps.zip us) → Vals vs us → spD K sp vs H Q E → codeAny (model P w) A (.call (.ref f) args) (CR (L2.CX P w) outer P w H s Q E) s
section
variable {P : Program} {w : World} {K : Fg} {mg : Str → Option Value} {base : Heap} {k : Nat} {f : Addr} {fd : FuncData} {ps : List Str} {sp : DSp}
theorem FnD.mono {j : Nat} (h : FnD P w K mg base j f fd ps sp) (l : j ≤ k) : FnD P w K mg base k f fd ps sp := ⟨h.len, fun A o s H a us vs Q E r => h.run A o s H a us vs Q E (r.mono l)⟩
theorem FnD.imp {sp' : DSp} (h : FnD P w K mg base k f fd ps sp) (i : ∀ ds W Q PX, sp' ds W Q PX → sp ds W Q PX) : FnD P w K mg base k f fd ps sp' :=
  ⟨fun ds W Q PX q => h.len ds W Q PX (i _ _ _ _ q), fun A o s H a us vs Q E r e b v ⟨F, W, ds, PP, PX, S, rl, q, z⟩ => h.run A o s H a us vs Q E r e b v ⟨F, W, ds, PP, PX, S, rl, i _ _ _ _ q, z⟩⟩
theorem spD_len (h : ∀ ds W Q PX, sp ds W Q PX → ds.length = ps.length) : ∀ vs H Q E, spD K sp vs H Q E → vs.length = ps.length := fun vs H Q E ⟨F, W, ds, PP, PX, S, rl, q, _⟩ => by
  rw [← rl.length]; exact h _ _ _ _ q
/-- a def by its body: the body's judgement, and that the contract is the body's -/
theorem fnD_of {x qual : Str} {st : Stmt} {N : List Str} (F : Fun K x qual st f fd) (S : FnScope N ps (defScope st)) (len : ∀ ds W Q PX, sp ds W Q PX → ds.length = ps.length)
    (hb : ∀ (cdv : Value) (A : Around) (outer : List Env) (s : Shared) (H : Hp) (vs : List V) (Q : VK) (E : XK), RG k (A.deeper (envOfC qual (defScope st) s.heap.objs.size f cdv)) → spD K sp vs H Q E →
      ∃ t, PSs (cxOf (L2.CX P w) P w K mg base N qual (defScope st) f cdv A outer s H E) (defBody st) t ∧ t { nx := fun _ H' => Q .non H', rt := Q } (start N vs) H) :
    FnD P w K mg base (k + 1) f fd ps sp := by
  obtain ⟨oc, od, kV, doc, pm, an, cdv, ct, osl, rfl, lk, hcd⟩ := F.ex
  refine ⟨len, fun A outer s H args us vs Q E hr e0 hbd rv hsp => ?_⟩
  have hl := spD_len len _ _ _ _ hsp
  have KX : K.In s.heap := e0.mod.kin.keeps fun b o e => (e0.bs b o e).1
  have lim : s.heap.NoLimit := e0.mod.nolimit.keeps fun b o e => (e0.bs b o e).1
  refine codeAny_call_function hr.r.depth (KX _ _ lk) rfl S.co S.gen rfl (PySem.W.codeRec_of KX hcd) (hbd _ _ _ _ ?_)
  refine wpAny_newFunctionEnv_cells S.kind (fun ⟨n, v⟩ hy => (S.par n (List.of_mem_zip hy).1).elim .inl fun q => .inr ⟨q, PySem.W.cellsFrom_some _ _ _ (.inl q)⟩) fun env he s1 xx => ?_
  subst he
  refine ⟨lim.keeps xx.toInCall.keep, codeAny_func ?_⟩
  obtain ⟨t, ht, hq⟩ := hb cdv A outer s H vs Q E (hr.deeper _) hsp
  have I := inv_start (CX := L2.CX P w) (E := E) S hr.r.hd e0 hl rv xx
  refine wpAny_mono (ht.run [] s1 (start N vs) H _ I hq) (fun fl s' hs => ?_) fun e s' hs => hs
  cases fl with
  | ret u => obtain ⟨v, σ', H', J, r2, q⟩ := hs; exact ⟨v, H', J.os, J.bare, J.base, J.hok, r2, q⟩
  | next => obtain ⟨σ', H', J, q⟩ := hs; exact ⟨.non, H', J.os, J.bare, J.base, J.hok, rfl, q⟩
  | brk => obtain ⟨_, _, _, q⟩ := hs; exact False.elim q
  | cont => obtain ⟨_, _, _, q⟩ := hs; exact False.elim q
end
/-! ## calls -/
def wCall (sp : DSp) (ta : WA) : WE := fun PX env W P => ta PX env W fun ds env1 W1 => sp ds W1 (fun d W2 => P d env1 W2) PX
section
variable {X : Cx} {B : Base} {E : XK} {k : Nat} {f : Addr} {fd : FuncData} {ps : List Str} {sp : DSp} {x : Str} {p pos : Pos} {ta : WA}
theorem runD {pins : List (Addr × Obj)} {σ : L2.St} {H : Hp} {s : Shared} {Q : VK} {us : List Value} {vs : List V} (G : FnD X.prog X.w X.K X.mg X.base k f fd ps sp) (hr : RG k X.A) (hb : Binds X.K fd ps []) (hx : Passes (L2.CX X.prog X.w) X E)
    (I : Inv X pins σ H s) (r : Vals vs us) (h : spD X.K sp vs H Q E) : wpAny (model X.prog X.w) X.A (call (.ref f) us) (EP X pins σ Q) X.xe s := by
  have hl : (us ++ []).length = ps.length := by rw [List.append_nil, ← r.length]; exact spD_len G.len _ _ _ _ h
  have hbd := hb s us I.kIn hl
  rw [List.append_nil] at hbd
  refine wpAny_call (codeAny_mono (G.run X.A X.stack s H ⟨us, []⟩ us vs Q E hr I.env0 hbd r h) fun r s' hq => ?_)
  cases r with
  | error e => exact hx pins σ H s e s' I hq
  | ok fl => cases fl with
    | ret u => exact I.after hq
    | _ => exact False.elim hq
/-- what a call's arguments leave goes to the callee, what it leaves to the caller -/
theorem spD_of {F : Hp} {W : WS} {H : Hp} {ds : List D} {vs : List V} {P : D → WS → Prop} {PX : XP} {Q : VK} {K : Fg} (S : Stt K B F W H) (r : RepL K F ds vs) (h : sp ds W P PX) (hX : XOk K B E F PX)
    (hQ : ∀ d W' F' H' v, P d W' → Stt K B F' W' H' → Le F F' → Rep K F' d v → Q v H') : spD K sp vs H Q E :=
  ⟨F, W, ds, P, PX, S.self, r, h, fun d W' F' H' v p T q => hQ d W' F' H' v p (S.trans T) T.base q, hX.here S⟩
theorem call_go {ta : WA} {σ : L2.St} {H : Hp} {Q : VK} (h : liftE X.K B E (wCall sp ta) σ H Q) : liftA X.K B E ta σ H fun vs H1 => spD X.K sp vs H1 Q E := by
  obtain ⟨F, env, W, P, PX, S, hE, h, hX, hQ⟩ := h
  exact ⟨F, env, W, _, PX, S, hE, h, hX, fun ds env1 W1 F1 H1 vs p1 S1 l1 e1 r1 =>
    spD_of S1 r1 p1 (hX.mono l1) fun d W2 F2 H2 v p2 S2 l2 r2 => hQ d env1 W2 F2 H2 v p2 S2 (l1.trans l2) (e1.mono l2) r2⟩
theorem s_call {e : Expr} {es : List Expr} (G : FnD X.prog X.w X.K X.mg X.base k f fd ps sp) (hr : RG k X.A) (hg : Gl X x) (hm : X.mg x = some (.ref f)) (hk : PySem.W.keepIn X.K (.ref f) = true) (hb : Binds X.K fd ps []) (hx : Passes (L2.CX X.prog X.w) X E)
    (ha : PA X (e :: es) (liftA X.K B E ta)) (hdb : (x == ("__debug__" : Str)) = false) (hs : starEach (e :: es) X.env = (false, eval e X.env) :: starEach es X.env) (hpl : (backTo pos (starEach es X.env)).any (·.1) = false) :
    PE X (.Call (.Name x p) (e :: es) [] pos) (liftE X.K B E (wCall sp ta)) := by
  refine ⟨fun pins s σ H Q I h => ?_⟩
  refine wpAny_Call_Name_kw (ld_glob I hg hm ?_ hdb)
  exact PySem.W.callWith_K (h₀ := X.base) I.ok.mod.kin hk (thn (ha.run pos pins s σ H _ I (call_go h)) fun us s1 ⟨vs, H1, I1, r, q⟩ => ⟨I1.kIn, runD G hr hb hx I1 r q⟩) hs hpl
theorem s_call0 (G : FnD X.prog X.w X.K X.mg X.base k f fd ps sp) (hr : RG k X.A) (hg : Gl X x) (hm : X.mg x = some (.ref f)) (hk : PySem.W.keepIn X.K (.ref f) = true) (hb : Binds X.K fd ps []) (hx : Passes (L2.CX X.prog X.w) X E) (hdb : (x == ("__debug__" : Str)) = false) :
    PE X (.Call (.Name x p) [] [] pos) (liftE X.K B E (wCall sp wNil)) := by
  refine ⟨fun pins s σ H Q I ⟨F, env, W, P, PX, S, hE, h, hX, hQ⟩ => ?_⟩
  refine wpAny_Call_Name_kw (ld_glob I hg hm ?_ hdb)
  refine PySem.W.callWith_K0 (first := []) I.kIn hk (runD (vs := []) (us := []) G hr hb hx I .nil ?_)
  exact spD_of S .nil h hX fun d W2 F2 H2 v p2 S2 l2 r2 => hQ d env W2 F2 H2 v p2 S2 l2 (hE.mono l2) r2
end
/-! ## instances -/
def putD (f : Str) (v : D) : List (Str × D) → List (Str × D)
  | [] => [(f, v)]
  | (g, u) :: r => if g = f then (g, v) :: r else (g, u) :: putD f v r
def lookD (f : Str) : List (Str × D) → Option D
  | [] => none
  | (g, u) :: r => if f = g then some u else lookD f r
section
variable {K : Fg} {F : Hp}
theorem keys_cons {α β γ : Type} {p : α × β} {l : List (α × β)} {ds : List (α × γ)} (h : (p :: l).map (·.1) = ds.map (·.1)) : ∃ d r, ds = (p.1, d) :: r ∧ l.map (·.1) = r.map (·.1) := by
  cases ds with
  | nil => cases h
  | cons q r =>
    rw [List.map_cons, List.map_cons, List.cons.injEq] at h
    exact ⟨q.2, r, by rw [h.1], h.2⟩
theorem look_rep {f : Str} : ∀ {fs : List (Str × V)} {ds : List (Str × D)}, fs.map (·.1) = ds.map (·.1) → RepL K F (ds.map (·.2)) (fs.map (·.2)) →
    (∀ d, lookD f ds = some d → ∃ v, fs.lookup f = some v ∧ Rep K F d v) ∧ (lookD f ds = none → fs.lookup f = none)
  | [], [], _, _ => ⟨fun _ q => (nomatch (show (none : Option D) = some _ from q)), fun _ => rfl⟩
  | [], _ :: _, h, _ => by cases h
  | (g, v) :: fs, ds, h, r => by
    obtain ⟨d, rs, rfl, h2⟩ := keys_cons h
    rw [List.map_cons, List.map_cons] at r
    cases r with
    | cons r1 r2 =>
      obtain ⟨i1, i2⟩ := look_rep (f := f) h2 r2
      by_cases c : f = g
      · subst c
        have e : List.lookup f ((f, v) :: fs) = some v := by simp [List.lookup]
        refine ⟨fun d' h' => ?_, fun h' => ?_⟩
        · have h'' : (if f = f then some d else lookD f rs) = some d' := h'
          rw [if_pos rfl] at h''
          cases h''
          exact ⟨v, e, r1⟩
        · have h'' : (if f = f then some d else lookD f rs) = none := h'
          rw [if_pos rfl] at h''
          cases h''
      · have e : List.lookup f ((g, v) :: fs) = fs.lookup f := by
          have : (f == g) = false := by simpa using c
          simp [List.lookup, this]
        have e2 : lookD f ((g, d) :: rs) = lookD f rs := if_neg c
        rw [e]
        exact ⟨fun d' h' => i1 d' (by rw [← e2]; exact h'), fun h' => i2 (by rw [← e2]; exact h')⟩
theorem put_rep {f : Str} {d : D} {v : V} (rv : Rep K F d v) : ∀ {fs : List (Str × V)} {ds : List (Str × D)}, fs.map (·.1) = ds.map (·.1) → RepL K F (ds.map (·.2)) (fs.map (·.2)) →
    (putF f v fs).map (·.1) = (putD f d ds).map (·.1) ∧ RepL K F ((putD f d ds).map (·.2)) ((putF f v fs).map (·.2))
  | [], [], _, _ => ⟨rfl, .cons rv .nil⟩
  | [], _ :: _, h, _ => by cases h
  | (g, u) :: fs, ds, h, r => by
    obtain ⟨d', rs, rfl, h2⟩ := keys_cons h
    rw [List.map_cons, List.map_cons] at r
    cases r with
    | cons r1 r2 =>
      obtain ⟨i1, i2⟩ := put_rep (f := f) rv h2 r2
      show (if g = f then (g, v) :: fs else (g, u) :: putF f v fs).map (·.1) = (if g = f then (g, d) :: rs else (g, d') :: putD f d rs).map (·.1) ∧
        RepL K F ((if g = f then (g, d) :: rs else (g, d') :: putD f d rs).map (·.2)) ((if g = f then (g, v) :: fs else (g, u) :: putF f v fs).map (·.2))
      by_cases c : g = f
      · rw [if_pos c, if_pos c]
        exact ⟨by rw [List.map_cons, List.map_cons, h2], .cons rv r2⟩
      · rw [if_neg c, if_neg c]
        exact ⟨by rw [List.map_cons, List.map_cons, i1], .cons r1 i2⟩
end
section
variable {X : Cx} {B : Base} {E : XK} {k : Nat} {f C : Addr} {fd : FuncData} {ps : List Str} {sp : DSp} {x m a : Str} {p pos apos : Pos} {ta : WA} {to : WE} {o : Expr}
theorem view_ins {K : Fg} {F H : Hp} {W : WS} {d : D} {v : V} (S : Stt K B F W H) (r : Rep K F d v) {ds : List (Str × D)} (h : view W d = .ins C ds) : ∃ a dx fs, v = .ref a ∧ H a = some (.ins C dx fs) ∧ fs.map (·.1) = ds.map (·.1) ∧ RepL K F (ds.map (·.2)) (fs.map (·.2)) := by
  cases r with
  | obj a =>
    have h' : (match W a with | some ob => ob.toD | none => .obj a) = D.ins C ds := h
    cases e : W a with
    | none => rw [e] at h'; cases h'
    | some ob =>
      rw [e] at h'
      obtain ⟨_, o, ho, ro⟩ := S.obj a ob e
      cases ro with
      | ins q r => cases h'; exact ⟨a, _, _, rfl, ho, q, r⟩
      | lst _ => cases h'
      | dK _ _ => cases h'
      | dT _ _ => cases h'
      | dN _ => cases h'
  | ins hs e r => cases h; exact ⟨_, _, _, rfl, S.sub _ _ hs, e, r⟩
  | _ => cases h
/-- o.a, an attribute of an instance of the class at C -/
def wFld (C : Addr) (a : Str) (to : WE) : WE := fun PX env W P => to PX env W fun d env1 W1 => ∃ fs, view W1 d = .ins C fs ∧ ∃ y, lookD a fs = some y ∧ P y env1 W1
theorem s_fld (c : Cls X.K C) (n : NoAttr X.K C a) (ho : PE X o (liftE X.K B E to)) (hb : attributeBase o a X.env (eval o X.env) = eval o X.env) : PE X (.Attribute o a pos) (liftE X.K B E (wFld C a to)) :=
  peW (pe_fld ho hb) fun σ H Q ⟨F, env, W, P, PX, S, hE, h, hX, hQ⟩ => by
    refine ⟨F, env, W, _, PX, S, hE, h, hX, fun d env1 W1 F1 H1 v ⟨fs, hv, y, hy, p1⟩ S1 l1 e1 r1 => ?_⟩
    obtain ⟨b, dx, gs, rfl, hb, ke, rl⟩ := view_ins S1 r1 hv
    obtain ⟨w', h1, h2⟩ := (look_rep (f := a) ke rl).1 y hy
    exact ⟨b, C, dx, gs, w', rfl, hb, c, n, h1, hQ y env1 W1 F1 H1 w' p1 S1 l1 e1 h2⟩
/-- o.m(..) of an instance of the class at C -/
def wMeth (C : Addr) (m : Str) (sp : DSp) (to : WE) (ta : WA) : WE := fun PX env W P => to PX env W fun d env1 W1 => ∃ fs, view W1 d = .ins C fs ∧ lookD m fs = none ∧
  ta PX env1 W1 fun ds env2 W2 => sp (d :: ds) W2 (fun d W3 => P d env2 W3) PX
theorem s_meth {pl : Sem Bool} {e : Expr} {es : List Expr} (c : Cls X.K C) (hm : Meth X.K C m f) (G : FnD X.prog X.w X.K X.mg X.base k f fd ps sp) (hr : RG k X.A) (hb : Binds X.K fd ps []) (hx : Passes (L2.CX X.prog X.w) X E) (ho : PE X o (liftE X.K B E to)) (ha : PA X (e :: es) (liftA X.K B E ta))
    (hs : starEach (e :: es) X.env = (false, eval e X.env) :: starEach es X.env) (hpl : (backTo pos (starEach es X.env)).any (·.1) = false)
    (ht : eval (.Call (.Attribute o m apos) (e :: es) [] pos) X.env = (do
      let ov ← eval o X.env
      standAt apos.atName
      let (f, first) ← holding [ov] (getMethod ov m pl)
      callWith pos f first (backTo pos (starEach (e :: es) X.env)) (backToKw pos (keywordEach [] X.env)))) :
    PE X (.Call (.Attribute o m apos) (e :: es) [] pos) (liftE X.K B E (wMeth C m sp to ta)) := by
  refine ⟨fun pins s σ H Q I ⟨F, env, W, P, PX, S, hE, h, hX, hQ⟩ => ?_⟩
  refine PySem.W.methodCall_KW (pl := pl) (thn (ho.run pins s σ H (fun v H1 => ∃ a dx gs, v = .ref a ∧ H1 a = some (.ins C dx gs) ∧ gs.lookup m = none ∧ liftA X.K B E ta σ H1 fun vs H2 => spD X.K sp (.ref a :: vs) H2 Q E) I
    ⟨F, env, W, _, PX, S, hE, h, hX, fun d env1 W1 F1 H1 v ⟨fs, hv, hy, p1⟩ S1 l1 e1 r1 => ?_⟩) fun u s1 ⟨v, H1, I1, rv, a, dx, gs, ev, ha1, hl, hA⟩ => ?_) ht
  · obtain ⟨b, dx, gs, rfl, hb, ke, rl⟩ := view_ins S1 r1 hv
    refine ⟨b, dx, gs, rfl, hb, (look_rep (f := m) ke rl).2 hy, F1, env1, W1, _, PX, S1, e1, p1, hX.mono l1, fun ds env2 W2 F2 H2 vs p2 S2 l2 e2 r2 => ?_⟩
    exact spD_of S2 (.cons (r1.mono l2) r2) p2 (hX.mono (l1.trans l2)) fun d3 W3 F3 H3 v p3 S3 l3 r3 => hQ d3 env2 W3 F3 H3 v p3 S3 ((l1.trans l2).trans l3) (e2.mono l3) r3
  · subst ev
    obtain rfl : u = Value.ref a := rv
    refine getmeth_ok I1 ha1 c hm hl ?_
    exact PySem.W.callWith_K (first := [.ref a]) (h₀ := X.base) I.ok.mod.kin hm.kp (thn (ha.run pos pins s1 σ H1 _ I1 hA) fun us s2 ⟨vs, H2, I2, r, q⟩ => ⟨I2.kIn, runD (us := .ref a :: us) (vs := .ref a :: vs) G hr hb hx I2 (.cons rfl r) q⟩) hs hpl
theorem s_meth0 {pl : Sem Bool} (c : Cls X.K C) (hm : Meth X.K C m f) (G : FnD X.prog X.w X.K X.mg X.base k f fd ps sp) (hr : RG k X.A) (hb : Binds X.K fd ps []) (hx : Passes (L2.CX X.prog X.w) X E) (ho : PE X o (liftE X.K B E to))
    (ht : eval (.Call (.Attribute o m apos) [] [] pos) X.env = (do
      let ov ← eval o X.env
      standAt apos.atName
      let (f, first) ← holding [ov] (getMethod ov m pl)
      callWith pos f first (backTo pos (starEach [] X.env)) (backToKw pos (keywordEach [] X.env)))) :
    PE X (.Call (.Attribute o m apos) [] [] pos) (liftE X.K B E (wMeth C m sp to wNil)) := by
  refine ⟨fun pins s σ H Q I ⟨F, env, W, P, PX, S, hE, h, hX, hQ⟩ => ?_⟩
  refine PySem.W.methodCall_KW (pl := pl) (thn (ho.run pins s σ H (fun v H1 => ∃ a dx gs, v = .ref a ∧ H1 a = some (.ins C dx gs) ∧ gs.lookup m = none ∧ spD X.K sp [.ref a] H1 Q E) I
    ⟨F, env, W, _, PX, S, hE, h, hX, fun d env1 W1 F1 H1 v ⟨fs, hv, hy, p1⟩ S1 l1 e1 r1 => ?_⟩) fun u s1 ⟨v, H1, I1, rv, a, dx, gs, ev, ha1, hl, q⟩ => ?_) ht
  · obtain ⟨b, dx, gs, rfl, hb, ke, rl⟩ := view_ins S1 r1 hv
    exact ⟨b, dx, gs, rfl, hb, (look_rep (f := m) ke rl).2 hy, spD_of S1 (.cons r1 .nil) p1 (hX.mono l1) fun d3 W3 F3 H3 v p3 S3 l3 r3 => hQ d3 env1 W3 F3 H3 v p3 S3 (l1.trans l3) (e1.mono l3) r3⟩
  · subst ev
    obtain rfl : u = Value.ref a := rv
    refine getmeth_ok I1 ha1 c hm hl ?_
    exact PySem.W.callWith_K0 (first := [.ref a]) I1.kIn hm.kp (runD (us := [.ref a]) (vs := [.ref a]) G hr hb hx I1 (.cons rfl .nil) q)
/-- o.a, a property of the class at C: its getter's contract -/
def wProp (C : Addr) (sp : DSp) (to : WE) : WE := fun PX env W P => to PX env W fun d env1 W1 => (∃ fs, view W1 d = .ins C fs) ∧ sp [d] W1 (fun d W2 => P d env1 W2) (fun _ _ _ => False)
theorem s_prop {q : Addr} (c : Cls X.K C) (hp : PropOf X.K C a q f) (G : FnD X.prog X.w X.K X.mg X.base k f fd ps sp) (hr : RG (k + 1) X.A) (hb : Binds X.K fd ps []) (ho : PE X o (liftE X.K B E to)) (hab : attributeBase o a X.env (eval o X.env) = eval o X.env) :
    PE X (.Attribute o a pos) (liftE X.K B E (wProp C sp to)) := by
  refine ⟨fun pins s σ H Q I ⟨F, env, W, P, PX, S, hE, h, hX, hQ⟩ => ?_⟩
  refine attr_of hab (thn (ho.run pins s σ H (fun v H1 => ∃ a dx gs, v = .ref a ∧ H1 a = some (.ins C dx gs) ∧ spD X.K sp [.ref a] H1 Q fun _ _ _ => False) I
    ⟨F, env, W, _, PX, S, hE, h, hX, fun d env1 W1 F1 H1 v ⟨⟨fs, hv⟩, p1⟩ S1 l1 e1 r1 => ?_⟩) fun u s1 ⟨v, H1, I1, rv, b, dx, gs, ev, ha1, hq⟩ => ?_)
  · obtain ⟨b, dx, gs, rfl, hb, ke, rl⟩ := view_ins S1 r1 hv
    exact ⟨b, dx, gs, rfl, hb, spD_of (PX := fun _ _ _ => False) S1 (.cons r1 .nil) p1 (fun _ _ _ _ _ _ _ _ _ z => z.elim) fun d3 W3 F3 H3 v p3 S3 l3 r3 => hQ d3 env1 W3 F3 H3 v p3 S3 (l1.trans l3) (e1.mono l3) r3⟩
  · subst ev
    obtain rfl : u = Value.ref b := rv
    obtain ⟨mA, O, _, _, _, _⟩ := ins_get I1.hok ha1
    obtain ⟨od, J, _⟩ := O.look
    obtain ⟨rest, hrec⟩ := hp.rec_
    have I2 := I1.tok (s1.toks + 1)
    have hl : ([Value.ref b] ++ ([] : List Value)).length = ps.length := by rw [← spD_len G.len _ _ _ _ hq]; rfl
    have hc : (PySem.W.clsIn X.K C).isSome = true := by
      obtain ⟨cd, hc, _⟩ := PySem.W.any_some c.hd
      rw [hc]; rfl
    refine PySem.W.get_bind I1.kIn J (PySem.W.plainGet_of (c.get a)).1 (PySem.W.findObj_data hc hp.at_ hp.get hp.tak) (PySem.W.plainGet_of (c.get a)).2 (wpAny_call (PySem.W.prop_get (s := { s1 with toks := s1.toks + 1 }) I1.kIn hrec ?_))
    refine codeAny_mono (G.run X.A.in1 X.stack { s1 with toks := s1.toks + 1 } H1 ⟨[.ref b], []⟩ [.ref b] [.ref b] Q (fun _ _ _ => False) hr.in1 I2.env0.in1 (hb _ [.ref b] I2.kIn hl) (.cons rfl .nil) hq) fun r s' hz => ?_
    cases r with
    | error er => obtain ⟨_, _, _, _, _, _, _, _, _, _, _, _, z⟩ := hz; exact False.elim z
    | ok fl => cases fl with
      | ret u =>
        obtain ⟨v, H', I3, rv, q3⟩ := I2.after hz
        show wpAny _ _ (handedOut u) _ _ _
        rw [PySem.W.handedOut_of (handed_of rv)]
        exact wpAny_pure ⟨v, H', I3, rv, q3⟩
      | _ => exact False.elim hz
/-- an object of the store that a call has made is fixed -/
def wSeal (t : WE) : WE := fun PX env W P => t PX env W fun d env1 W1 => ∃ a ob, d = .obj a ∧ W1 a = some ob ∧ P ob.toD env1 (W1.del a)
theorem s_seal {K : Fg} {e : Expr} {t : WE} (h : PE X e (liftE K B E t)) : PE X e (liftE K B E (wSeal t)) := peW h fun σ H Q ⟨F, env, W, P, PX, S, hE, h, hX, hQ⟩ => by
  refine ⟨F, env, W, _, PX, S, hE, h, hX, fun d env1 W1 F1 H1 v ⟨a, ob, ed, hw, p⟩ S1 l1 e1 r1 => ?_⟩
  subst ed
  cases r1
  obtain ⟨hF, o, ho, ro⟩ := S1.obj a ob hw
  have l := Le.upd (o := o) hF
  exact hQ _ _ _ _ H1 _ p (S1.unbox hw ho) (l1.trans l) (e1.mono l) ((ro.mono l).toRep upd_same)
/-- C(..): a new instance, then __init__ -/
def wMake (C : Addr) (sp : DSp) (ta : WA) : WE := fun PX env W P => ta PX env W fun ds env1 W1 => ∀ a, W1 a = none → sp (.obj a :: ds) (W1.put a (.ins C [])) (fun d W2 => d = .non ∧ P (.obj a) env1 W2) PX
theorem make_go {F H : Hp} {W : WS} {ds : List D} {vs : List V} {P : D → WS → Prop} {PX : XP} {Q : VK} {K : Fg} (S : Stt K B F W H) (r : RepL K F ds vs) (hX : XOk K B E F PX) (h : ∀ a, W a = none → sp (.obj a :: ds) (W.put a (.ins C [])) (fun d W2 => d = .non ∧ P (.obj a) W2) PX)
    (hQ : ∀ d W' F' H' v, P d W' → Stt K B F' W' H' → Le F F' → Rep K F' d v → Q v H') :
    ∀ x dx, H x = none → H dx = none → dx ≠ x → spD K sp (.ref x :: vs) (upd (upd H dx (.own x)) x (.ins C dx [])) (fun v H2 => v = .non ∧ Q (.ref x) H2) E := fun x dx hx hdx ne => by
  have S1 : Stt K B F W (upd H dx (.own x)) := S.laid hdx
  have hx1 : upd H dx (.own x) x = none := by rw [upd_ne (Ne.symm ne)]; exact hx
  have S2 : Stt K B F (W.put x (.ins C [])) (upd (upd H dx (.own x)) x (.ins C dx [])) := (S1.laid hx1).box upd_same (S.newF hx) (S.dom x hx) (.ins rfl .nil)
  refine spD_of S2 (.cons (.obj x) r) (h x (S.newW hx)) hX fun d W' F' H' v ⟨e, p⟩ T l rv => ?_
  subst e
  cases rv
  exact ⟨rfl, hQ _ W' F' H' _ p T l (.obj x)⟩
end
end DL

set_option maxRecDepth 100000
set_option maxHeartbeats 2000000
set_option linter.all false
namespace DL
open PySem PySem.Spec PyProof.Rows L2
section
variable {X : Cx} {B : Base} {E : XK} {a b c : Expr} {pos : Pos}
/-! ## truth -/
def truD : D → Option Bool
  | .non => some false
  | .bl b => some b
  | .int i => some (i != 0)
  | .lst ds => some (!ds.isEmpty)
  | .tup ds => some (!ds.isEmpty)
  | _ => none
theorem RepL.isEmpty {K : Fg} {F : Hp} {ds : List D} {vs : List V} (r : RepL K F ds vs) : ds.isEmpty = vs.isEmpty := by
  cases r <;> rfl
theorem tru_of {F H : Hp} {W : WS} {d : D} {v : V} {k : Bool} (S : Stt X.K B F W H) (r : Rep X.K F d v) (h : truD (view W d) = some k) : TruV X.K v H k := by
  have viaL : ∀ ds, view W d = .lst ds → TruV X.K v H k := fun ds e => by
    obtain ⟨a, vs, rfl, hs, rl⟩ := view_lst S r e
    rw [e] at h
    have h' : some (!ds.isEmpty) = some k := h
    cases h'
    exact .inl ⟨vs, hs, by rw [rl.isEmpty]⟩
  have viaT : ∀ ds, view W d = .tup ds → TruV X.K v H k := fun ds e => by
    obtain ⟨a, vs, rfl, hs, rl⟩ := view_tup S r e
    rw [e] at h
    have h' : some (!ds.isEmpty) = some k := h
    cases h'
    exact .inr (.inl ⟨vs, S.sqT hs, by rw [rl.isEmpty]⟩)
  cases d with
  | lst ds => exact viaL ds rfl
  | tup ds => exact viaT ds rfl
  | ktup ds => exact viaT ds rfl
  | ptup ds => exact viaT ds rfl
  | klst ds => exact viaL ds rfl
  | obj a =>
    have ev : view W (.obj a) = (match W a with | some ob => ob.toD | none => .obj a) := rfl
    cases q : W a with
    | none => rw [ev, q] at h; cases h
    | some ob => cases ob with
      | lst ds => exact viaL ds (by rw [ev, q])
      | _ => rw [ev, q] at h; cases h
  | non => cases r; cases h; exact rfl
  | bl _ => cases r; cases h; exact rfl
  | int _ => cases r; cases h; exact rfl
  | _ => cases h
def wTru (t : WE) : WT := fun PX env W P => t PX env W fun d env1 W1 => ∃ k, truD (view W1 d) = some k ∧ P k env1 W1
theorem t_tru {t : WE} (ha : PE X a (liftE X.K B E t)) (he : ∀ whole, isTrue a X.env whole = (do let v ← whole; standAt a.pos; holding [v] (truthy v))) : PT X a (liftT X.K B E (wTru t)) :=
  ptW (pt_truth ha he) fun σ H Q ⟨F, env, W, P, PX, S, hE, h, hX, hQ⟩ =>
    ⟨F, env, W, _, PX, S, hE, h, hX, fun d env1 W1 F1 H1 v ⟨k, hk, p⟩ S1 l1 e1 r1 => ⟨k, tru_of S1 r1 hk, hQ k env1 W1 F1 H1 p S1 l1 e1⟩⟩
def wAnd (t u : WT) : WT := fun PX env W P => t PX env W fun b env1 W1 => match b with
  | true => u PX env1 W1 P
  | false => P false env1 W1
def wOr (t u : WT) : WT := fun PX env W P => t PX env W fun b env1 W1 => match b with
  | true => P true env1 W1
  | false => u PX env1 W1 P
def wNot (t : WT) : WT := fun PX env W P => t PX env W fun b env1 W1 => P (!b) env1 W1
def wBT (t : WT) : WE := fun PX env W P => t PX env W fun b env1 W1 => P (.bl b) env1 W1
def wIte (t : WT) (u v : WE) : WE := fun PX env W P => t PX env W fun b env1 W1 => match b with
  | true => u PX env1 W1 P
  | false => v PX env1 W1 P
theorem t_bind {K : Fg} {t : WT} {σ : L2.St} {H : Hp} {R : Bool → Hp → Prop} {k : Bool → WT} {Q : Bool → Hp → Prop} (h : liftT K B E (fun PX env W P => t PX env W fun b env1 W1 => k b PX env1 W1 P) σ H Q) (hk : ∀ b H', liftT K B E (k b) σ H' Q → R b H') : liftT K B E t σ H R := by
  obtain ⟨F, env, W, P, PX, S, hE, h, hX, hQ⟩ := h
  exact ⟨F, env, W, _, PX, S, hE, h, hX, fun b env1 W1 F1 H1 p S1 l1 e1 => hk b H1 ⟨F1, env1, W1, P, PX, S1, e1, p, hX.mono l1, fun b2 env2 W2 F2 H2 p2 S2 l2 e2 => hQ b2 env2 W2 F2 H2 p2 S2 (l1.trans l2) e2⟩⟩
theorem t_ret {K : Fg} {b : Bool} {σ : L2.St} {H : Hp} {Q : Bool → Hp → Prop} (h : liftT K B E (fun _ env W P => P b env W) σ H Q) : Q b H := by
  obtain ⟨F, env, W, P, PX, S, hE, p, hX, hQ⟩ := h
  exact hQ b env W F H p S (Le.refl _) hE
theorem t_and1 {t : WT} (ha : PT X a (liftT X.K B E t)) : PW X (.BoolOp .And [a] pos) (liftT X.K B E t) := pw_and1 ha
theorem t_and {rest : List Expr} {t u : WT} (ha : PT X a (liftT X.K B E t)) (hb : PW X (.BoolOp .And (b :: rest) pos) (liftT X.K B E u)) : PW X (.BoolOp .And (a :: b :: rest) pos) (liftT X.K B E (wAnd t u)) :=
  ⟨fun wh pins s σ H Q I h => (pw_and ha hb).run wh pins s σ H Q I (t_bind (k := fun b => match b with | true => u | false => fun _ env W P => P false env W)
    (by obtain ⟨F, env, W, P, PX, S, hE, h, r⟩ := h; exact ⟨F, env, W, P, PX, S, hE, (by
          have e : wAnd t u PX env W P = t PX env W fun b env1 W1 => (match b with | true => u | false => fun _ env W P => P false env W : WT) PX env1 W1 P := by
            unfold wAnd; congr 1; funext b; cases b <;> rfl
          exact Eq.mp e h), r⟩) fun b H' h' => by
      cases b with
      | true => exact (by rw [if_pos rfl]; exact h')
      | false => exact (by rw [if_neg Bool.false_ne_true]; exact t_ret h'))⟩
theorem t_or {rest : List Expr} {t u : WT} (ha : PT X a (liftT X.K B E t)) (hb : PW X (.BoolOp .Or (b :: rest) pos) (liftT X.K B E u)) : PW X (.BoolOp .Or (a :: b :: rest) pos) (liftT X.K B E (wOr t u)) :=
  ⟨fun wh pins s σ H Q I h => (pw_or ha hb).run wh pins s σ H Q I (t_bind (k := fun b => match b with | true => fun _ env W P => P true env W | false => u)
    (by obtain ⟨F, env, W, P, PX, S, hE, h, r⟩ := h; exact ⟨F, env, W, P, PX, S, hE, (by
          have e : wOr t u PX env W P = t PX env W fun b env1 W1 => (match b with | true => fun _ env W P => P true env W | false => u : WT) PX env1 W1 P := by
            unfold wOr; congr 1; funext b; cases b <;> rfl
          exact Eq.mp e h), r⟩) fun b H' h' => by
      cases b with
      | true => exact (by rw [if_pos rfl]; exact t_ret h')
      | false => exact (by rw [if_neg Bool.false_ne_true]; exact h'))⟩
theorem t_not {t : WT} (ha : PT X a (liftT X.K B E t)) : PT X (.UnaryOp .Not a pos) (liftT X.K B E (wNot t)) :=
  ptW (pt_not ha) fun σ H Q ⟨F, env, W, P, PX, S, hE, h, hX, hQ⟩ => ⟨F, env, W, _, PX, S, hE, h, hX, fun b env1 W1 F1 H1 p S1 l1 e1 => hQ _ env1 W1 F1 H1 p S1 l1 e1⟩
theorem s_ite {t : WT} {u v : WE} (hc : PT X c (liftT X.K B E t)) (ha : PE X a (liftE X.K B E u)) (hb : PE X b (liftE X.K B E v)) : PE X (.IfExp c a b pos) (liftE X.K B E (wIte t u v)) :=
  peW (pe_ifExp hc ha hb) fun σ H Q ⟨F, env, W, P, PX, S, hE, h, hX, hQ⟩ => by
    refine ⟨F, env, W, _, PX, S, hE, h, hX, fun b env1 W1 F1 H1 p S1 l1 e1 => ?_⟩
    cases b with
    | true => rw [if_pos rfl]; exact ⟨F1, env1, W1, P, PX, S1, e1, p, hX.mono l1, fun d env2 W2 F2 H2 v p2 S2 l2 => hQ d env2 W2 F2 H2 v p2 S2 (l1.trans l2)⟩
    | false => rw [if_neg Bool.false_ne_true]; exact ⟨F1, env1, W1, P, PX, S1, e1, p, hX.mono l1, fun d env2 W2 F2 H2 v p2 S2 l2 => hQ d env2 W2 F2 H2 v p2 S2 (l1.trans l2)⟩
/-- and, or, not as values: bools ahead -/
def wAndV (t u : WE) : WE := fun PX env W P => t PX env W fun d env1 W1 => ∃ k, truD (view W1 d) = some k ∧ match k with
  | true => u PX env1 W1 P
  | false => P d env1 W1
def wOrV (t u : WE) : WE := fun PX env W P => t PX env W fun d env1 W1 => ∃ k, truD (view W1 d) = some k ∧ match k with
  | true => P d env1 W1
  | false => u PX env1 W1 P
def wNotV (t : WE) : WE := fun PX env W P => t PX env W fun d env1 W1 => ∃ k, truD (view W1 d) = some k ∧ P (.bl (!k)) env1 W1
theorem s_one {op : PySem.BoolOp} {t : WE} (h : PE X a (liftE X.K B E t)) : PE X (.BoolOp op [a] pos) (liftE X.K B E t) := pe_one h
theorem s_andV {rest : List Expr} {t u : WE} (ha : PE X a (liftE X.K B E t)) (hb : PE X (.BoolOp .And (b :: rest) pos) (liftE X.K B E u)) : PE X (.BoolOp .And (a :: b :: rest) pos) (liftE X.K B E (wAndV t u)) :=
  peW (pe_andT ha hb) fun σ H Q ⟨F, env, W, P, PX, S, hE, h, hX, hQ⟩ => by
    refine ⟨F, env, W, _, PX, S, hE, h, hX, fun d env1 W1 F1 H1 v ⟨k, hk, p⟩ S1 l1 e1 r1 => ⟨k, tru_of S1 r1 hk, ?_⟩⟩
    cases k with
    | true => rw [if_pos rfl]; exact ⟨F1, env1, W1, P, PX, S1, e1, p, hX.mono l1, fun d env2 W2 F2 H2 v p2 S2 l2 => hQ d env2 W2 F2 H2 v p2 S2 (l1.trans l2)⟩
    | false => rw [if_neg Bool.false_ne_true]; exact hQ d env1 W1 F1 H1 v p S1 l1 e1 r1
theorem s_orV {rest : List Expr} {t u : WE} (ha : PE X a (liftE X.K B E t)) (hb : PE X (.BoolOp .Or (b :: rest) pos) (liftE X.K B E u)) : PE X (.BoolOp .Or (a :: b :: rest) pos) (liftE X.K B E (wOrV t u)) :=
  peW (pe_orT ha hb) fun σ H Q ⟨F, env, W, P, PX, S, hE, h, hX, hQ⟩ => by
    refine ⟨F, env, W, _, PX, S, hE, h, hX, fun d env1 W1 F1 H1 v ⟨k, hk, p⟩ S1 l1 e1 r1 => ⟨k, tru_of S1 r1 hk, ?_⟩⟩
    cases k with
    | true => rw [if_pos rfl]; exact hQ d env1 W1 F1 H1 v p S1 l1 e1 r1
    | false => rw [if_neg Bool.false_ne_true]; exact ⟨F1, env1, W1, P, PX, S1, e1, p, hX.mono l1, fun d env2 W2 F2 H2 v p2 S2 l2 => hQ d env2 W2 F2 H2 v p2 S2 (l1.trans l2)⟩
theorem s_notV {t : WE} (ha : PE X a (liftE X.K B E t)) : PE X (.UnaryOp .Not a pos) (liftE X.K B E (wNotV t)) :=
  peW (pe_notT ha) fun σ H Q ⟨F, env, W, P, PX, S, hE, h, hX, hQ⟩ =>
    ⟨F, env, W, _, PX, S, hE, h, hX, fun d env1 W1 F1 H1 v ⟨k, hk, p⟩ S1 l1 e1 r1 => ⟨k, tru_of S1 r1 hk, hQ _ env1 W1 F1 H1 _ p S1 l1 e1 (.bl _)⟩⟩
end
end DL

set_option maxRecDepth 100000
set_option maxHeartbeats 2000000
set_option linter.all false
namespace DL
open PySem PySem.Spec PyProof.Rows L2
/-! ## tables of data -/
section
variable {κ : Type} [DecidableEq κ]
def getKD (k : κ) : List (κ × D) → Option D
  | [] => none
  | (g, d) :: r => if g = k then some d else getKD k r
def hasKD (k : κ) : List (κ × D) → Bool
  | [] => false
  | (g, _) :: r => if g = k then true else hasKD k r
def setKD (k : κ) (v : D) : List (κ × D) → List (κ × D)
  | [] => []
  | (g, d) :: r => if g = k then (g, v) :: setKD k v r else (g, d) :: setKD k v r
def putKD (ds : List (κ × D)) (k : κ) (v : D) : List (κ × D) := if hasKD k ds = true then setKD k v ds else ds ++ [(k, v)]
def dropKD (ds : List (κ × D)) (k : κ) : List (κ × D) := ds.filter fun p => decide (p.1 ≠ k)
variable {K : Fg} {F : Hp}
theorem val_rep {k : κ} : ∀ {fs : List (κ × V)} {ds : List (κ × D)}, fs.map (·.1) = ds.map (·.1) → RepL K F (ds.map (·.2)) (fs.map (·.2)) →
    (∀ d, getKD k ds = some d → ∃ v, valV fs k = some v ∧ Rep K F d v) ∧ (getKD k ds = none → valV fs k = none)
  | [], [], _, _ => ⟨fun _ q => (nomatch (show (none : Option D) = some _ from q)), fun _ => rfl⟩
  | [], _ :: _, h, _ => by cases h
  | (g, v) :: fs, ds, h, r => by
    obtain ⟨d, rs, rfl, h2⟩ := keys_cons h
    rw [List.map_cons, List.map_cons] at r
    cases r with
    | cons r1 r2 =>
      obtain ⟨i1, i2⟩ := val_rep (k := k) h2 r2
      by_cases c : g = k
      · have e2 : getKD k ((g, d) :: rs) = some d := if_pos c
        rw [e2, valV_pos (p := (g, v)) c]
        exact ⟨fun d' h' => by cases h'; exact ⟨v, rfl, r1⟩, fun h' => by cases h'⟩
      · have e2 : getKD k ((g, d) :: rs) = getKD k rs := if_neg c
        rw [e2, valV_neg (p := (g, v)) c]
        exact ⟨i1, i2⟩
theorem has_rep {k : κ} : ∀ {fs : List (κ × V)} {ds : List (κ × D)}, fs.map (·.1) = ds.map (·.1) → (fs.any fun kv => decide (kv.1 = k)) = hasKD k ds
  | [], [], _ => rfl
  | [], _ :: _, h => by cases h
  | (g, v) :: fs, ds, h => by
    obtain ⟨d, rs, rfl, h2⟩ := keys_cons h
    have ih := has_rep (k := k) h2
    rw [List.any_cons, ih]
    show (decide (g = k) || hasKD k rs) = if g = k then true else hasKD k rs
    by_cases c : g = k
    · rw [if_pos c, decide_eq_true c, Bool.true_or]
    · rw [if_neg c, decide_eq_false c, Bool.false_or]
theorem set_rep {k : κ} {d : D} {v : V} (rv : Rep K F d v) : ∀ {fs : List (κ × V)} {ds : List (κ × D)}, fs.map (·.1) = ds.map (·.1) → RepL K F (ds.map (·.2)) (fs.map (·.2)) →
    (fs.map fun kv => if kv.1 = k then (kv.1, v) else kv).map (·.1) = (setKD k d ds).map (·.1) ∧ RepL K F ((setKD k d ds).map (·.2)) ((fs.map fun kv => if kv.1 = k then (kv.1, v) else kv).map (·.2))
  | [], [], _, _ => ⟨rfl, .nil⟩
  | [], _ :: _, h, _ => by cases h
  | (g, u) :: fs, ds, h, r => by
    obtain ⟨d', rs, rfl, h2⟩ := keys_cons h
    rw [List.map_cons, List.map_cons] at r
    cases r with
    | cons r1 r2 =>
      obtain ⟨i1, i2⟩ := set_rep (k := k) rv h2 r2
      show (List.map _ ((if g = k then (g, v) else (g, u)) :: _)) = List.map _ (if g = k then (g, d) :: setKD k d rs else (g, d') :: setKD k d rs) ∧ RepL K F (List.map _ (if g = k then (g, d) :: setKD k d rs else (g, d') :: setKD k d rs)) (List.map _ ((if g = k then (g, v) else (g, u)) :: _))
      by_cases c : g = k
      · rw [if_pos c, if_pos c]
        exact ⟨by rw [List.map_cons, List.map_cons, i1], .cons rv i2⟩
      · rw [if_neg c, if_neg c]
        exact ⟨by rw [List.map_cons, List.map_cons, i1], .cons r1 i2⟩
theorem putK_rep {k : κ} {d : D} {v : V} (rv : Rep K F d v) {fs : List (κ × V)} {ds : List (κ × D)} (h : fs.map (·.1) = ds.map (·.1)) (r : RepL K F (ds.map (·.2)) (fs.map (·.2))) :
    (putK fs k v).map (·.1) = (putKD ds k d).map (·.1) ∧ RepL K F ((putKD ds k d).map (·.2)) ((putK fs k v).map (·.2)) := by
  unfold putK putKD
  rw [has_rep h]
  cases c : hasKD k ds with
  | true => rw [if_pos rfl, if_pos rfl]; exact set_rep rv h r
  | false =>
    rw [if_neg Bool.false_ne_true, if_neg Bool.false_ne_true]
    refine ⟨by rw [List.map_append, List.map_append, h]; rfl, ?_⟩
    rw [List.map_append, List.map_append]
    exact r.append (.cons rv .nil)
theorem len_keys {fs : List (κ × V)} {ds : List (κ × D)} (h : fs.map (·.1) = ds.map (·.1)) : fs.length = ds.length := by
  have := congrArg List.length h
  rwa [List.length_map, List.length_map] at this
end
def keyD : D → Option Key
  | .int i => some (.inl i)
  | .str x => some (.inr x)
  | _ => none
def keysD : List D → Option (List Key)
  | [] => some []
  | d :: r => match keyD d, keysD r with
    | some k, some ks => some (k :: ks)
    | _, _ => none
theorem keyD_rep {K : Fg} {F : Hp} {d : D} {v : V} {k : Key} (r : Rep K F d v) (h : keyD d = some k) : v = kV k := by
  cases r with
  | int i => cases h; rfl
  | str x => cases h; rfl
  | _ => cases h
theorem keysD_rep {K : Fg} {F : Hp} : ∀ {ds : List D} {vs : List V} {ks : List Key}, RepL K F ds vs → keysD ds = some ks → vs = ks.map kV
  | _, _, _, .nil, h => by cases h; rfl
  | _, _, ks, .cons (d := d) (ds := ds) r t, h => by
    have h' : (match keyD d, keysD ds with | some k, some ks => some (k :: ks) | _, _ => none) = some ks := h
    cases e1 : keyD d with
    | none => rw [e1] at h'; cases h'
    | some k => cases e2 : keysD ds with
      | none => rw [e1, e2] at h'; cases h'
      | some ks' =>
        rw [e1, e2] at h'
        cases h'
        rw [keyD_rep r e1, keysD_rep t e2, List.map_cons]
/-- what a dict holds at a key: none for no such dict and key -/
def dget (W : WS) (d k : D) : Option (Option D) := match view W d with
  | .dK ds => match keyD k with
    | some q => some (getKD q ds)
    | none => none
  | .dT ds => match k with
    | .tup ks => match keysD ks with
      | some q => some (getKD q ds)
      | none => none
    | _ => none
  | _ => none
section
variable {X : Cx} {B : Base} {E : XK}
theorem dget_rep {F H : Hp} {W : WS} {d k : D} {v y : V} {o : Option D} (S : Stt X.K B F W H) (r1 : Rep X.K F d v) (r2 : Rep X.K F k y) (h : dget W d k = some o) : ∃ a o', v = .ref a ∧ DGet H a y o' ∧
    (∀ x, o = some x → ∃ z, o' = some z ∧ Rep X.K F x z) ∧ (o = none → o' = none) := by
  unfold dget at h
  split at h
  · rename_i ds hv
    obtain ⟨a, kvs, rfl, hd, hk, rl⟩ := view_dK S r1 hv
    split at h
    · rename_i q hq
      cases h
      have e := keyD_rep r2 hq
      subst e
      obtain ⟨i1, i2⟩ := val_rep (k := q) hk rl
      exact ⟨a, _, rfl, .inl ⟨kvs, q, hd, rfl, rfl⟩, i1, i2⟩
    · cases h
  · rename_i ds hv
    obtain ⟨a, kvs, rfl, hd, hk, rl⟩ := view_dT S r1 hv
    split at h
    · rename_i ks
      split at h
      · rename_i q hq
        cases h
        cases r2 with
        | tup hb rb =>
          have e := keysD_rep rb hq
          subst e
          obtain ⟨i1, i2⟩ := val_rep (k := q) hk rl
          exact ⟨a, _, rfl, .inr ⟨kvs, q, _, hd, rfl, S.sub _ _ hb, rfl⟩, i1, i2⟩
      · cases h
    · cases h
  · cases h
/-- in, not in: dicts by their keys; lists and tuples of plain data; texts -/
def fInK (neg : Bool) : F2 := fun d1 d2 W P => match view W d2 with
  | .dK _ => ∃ o, dget W d2 d1 = some o ∧ P (.bl (if neg then !o.isSome else o.isSome))
  | .dT _ => ∃ o, dget W d2 d1 = some o ∧ P (.bl (if neg then !o.isSome else o.isSome))
  | .lst ds => plainD (view W d1) = true ∧ plainDs ds = true ∧ SeqAt.shaped (toP (view W d1)) = true ∧ SeqAt.shaped (toP (.lst ds)) = true ∧
      P (.bl (if neg then !((toPs ds).any fun z => PyData.eqv z (toP (view W d1))) else (toPs ds).any fun z => PyData.eqv z (toP (view W d1))))
  | .tup ds => ∃ (i : Int) (ns : List Int), d1 = .int i ∧ ds = ns.map D.int ∧ P (.bl (if neg then !(decide (i ∈ ns)) else decide (i ∈ ns)))
  | .str y => ∃ x, d1 = .str x ∧ P (.bl (if neg then !(!(Builtin.Str.occurrences y x 0 y.length 1).isEmpty) else !(Builtin.Str.occurrences y x 0 y.length 1).isEmpty))
  | _ => False
theorem flat_ints : ∀ ns : List Int, (ns.map V.int).all flatV = true
  | [] => rfl
  | n :: r => by rw [List.map_cons, List.all_cons, flat_ints r]; rfl
theorem in_ints (i : Int) : ∀ ns : List Int, inV (.int i) (ns.map V.int) = decide (i ∈ ns)
  | [] => rfl
  | n :: r => by
    have ih := in_ints i r
    unfold inV at ih ⊢
    rw [List.map_cons, List.any_cons, ih]
    have e : eqV (.int n) (.int i) = decide (n = i) := by
      show (n == i) = decide (n = i)
      by_cases h : n = i
      · subst h; simp
      · simp [h]
    rw [e]
    by_cases h : n = i
    · subst h; simp
    · have h2 : ¬ i = n := fun z => h z.symm
      simp [h, h2]

theorem view_tup_ints {F H : Hp} {W : WS} {d : D} {v : V} {ns : List Int} (S : Stt X.K B F W H) (r : Rep X.K F d v) (h : view W d = .tup (ns.map D.int)) : ∃ a, v = .ref a ∧ SqT X.K H a (ns.map V.int) := by
  obtain ⟨a, vs, rfl, hs, rl⟩ := view_tup S r h
  have e := rl.ints
  subst e
  exact ⟨a, rfl, S.sqT hs⟩
theorem o_in (hu : X.A.units + 65 < cLine) : OpR X (compareOp .In) (rD X.K B (fInK false)) := by
  intro pins s σ H x y v u Q I rx ry ⟨F, W, d1, d2, P, S, r1, r2, h, o⟩
  unfold fInK at h
  split at h
  · obtain ⟨q, hq, p⟩ := h
    obtain ⟨a, o', rfl, g, h1, h2⟩ := dget_rep S r2 r1 hq
    obtain rfl : u = Value.ref a := ry
    refine d_in (by omega) I g rx fun s1 I1 => ⟨.bl o'.isSome, H, I1, rfl, ?_⟩
    have e : o'.isSome = q.isSome := by
      cases q with
      | none => rw [h2 rfl]; rfl
      | some z => obtain ⟨z', e, _⟩ := h1 z rfl; rw [e]; rfl
    rw [e]
    exact out0 S o p (.bl _)
  · obtain ⟨q, hq, p⟩ := h
    obtain ⟨a, o', rfl, g, h1, h2⟩ := dget_rep S r2 r1 hq
    obtain rfl : u = Value.ref a := ry
    refine d_in (by omega) I g rx fun s1 I1 => ⟨.bl o'.isSome, H, I1, rfl, ?_⟩
    have e : o'.isSome = q.isSome := by
      cases q with
      | none => rw [h2 rfl]; rfl
      | some z => obtain ⟨z', e, _⟩ := h1 z rfl; rw [e]; rfl
    rw [e]
    exact out0 S o p (.bl _)
  · rename_i ds hv
    obtain ⟨p1, p2, p3, p4, p⟩ := h
    obtain ⟨a, vs, rfl, hs, rl⟩ := view_lst S r2 hv
    have hd : Dp X.K H (.ref a) (.list (toPs ds)) := .lst hs (dps_of S ds vs p2 rl)
    have p4' : SeqAt.shaped (.list (toPs ds)) = true := by simpa only [toP] using p4
    exact op_inD hu pins s σ H _ _ v u Q I rx ry ⟨_, _, dp_view S p1 r1, hd, p3, p4', out0 S o p (.bl _)⟩
  · rename_i ds hv
    obtain ⟨i, ns, rfl, rfl, p⟩ := h
    obtain ⟨a, rfl, hs⟩ := view_tup_ints S r2 hv
    cases r1
    refine op_in_seq pins s σ H _ _ v u Q I rx ry ⟨a, _, rfl, .inr hs, rfl, flat_ints ns, ?_⟩
    rw [if_neg Bool.false_ne_true, in_ints]
    exact out0 S o p (.bl _)
  · rename_i z hv
    obtain ⟨i, rfl, p⟩ := h
    have e := view_str hv
    subst e
    cases r1
    cases r2
    exact op_in_str pins s σ H _ _ v u Q I rx ry ⟨_, _, rfl, rfl, out0 S o p (.bl _)⟩
  · exact h.elim
theorem o_notin (hu : X.A.units + 65 < cLine) : OpR X (compareOp .NotIn) (rD X.K B (fInK true)) := by
  intro pins s σ H x y v u Q I rx ry ⟨F, W, d1, d2, P, S, r1, r2, h, o⟩
  unfold fInK at h
  split at h
  · obtain ⟨q, hq, p⟩ := h
    obtain ⟨a, o', rfl, g, h1, h2⟩ := dget_rep S r2 r1 hq
    obtain rfl : u = Value.ref a := ry
    refine d_notIn (by omega) I g rx fun s1 I1 => ⟨.bl (!o'.isSome), H, I1, rfl, ?_⟩
    have e : o'.isSome = q.isSome := by
      cases q with
      | none => rw [h2 rfl]; rfl
      | some z => obtain ⟨z', e, _⟩ := h1 z rfl; rw [e]; rfl
    rw [e]
    exact out0 S o p (.bl _)
  · obtain ⟨q, hq, p⟩ := h
    obtain ⟨a, o', rfl, g, h1, h2⟩ := dget_rep S r2 r1 hq
    obtain rfl : u = Value.ref a := ry
    refine d_notIn (by omega) I g rx fun s1 I1 => ⟨.bl (!o'.isSome), H, I1, rfl, ?_⟩
    have e : o'.isSome = q.isSome := by
      cases q with
      | none => rw [h2 rfl]; rfl
      | some z => obtain ⟨z', e, _⟩ := h1 z rfl; rw [e]; rfl
    rw [e]
    exact out0 S o p (.bl _)
  · rename_i ds hv
    obtain ⟨p1, p2, p3, p4, p⟩ := h
    obtain ⟨a, vs, rfl, hs, rl⟩ := view_lst S r2 hv
    have hd : Dp X.K H (.ref a) (.list (toPs ds)) := .lst hs (dps_of S ds vs p2 rl)
    have p4' : SeqAt.shaped (.list (toPs ds)) = true := by simpa only [toP] using p4
    exact op_notInD hu pins s σ H _ _ v u Q I rx ry ⟨_, _, dp_view S p1 r1, hd, p3, p4', out0 S o p (.bl _)⟩
  · rename_i ds hv
    obtain ⟨i, ns, rfl, rfl, p⟩ := h
    obtain ⟨a, rfl, hs⟩ := view_tup_ints S r2 hv
    cases r1
    refine op_notIn_seq pins s σ H _ _ v u Q I rx ry ⟨a, _, rfl, .inr hs, rfl, flat_ints ns, ?_⟩
    rw [if_pos rfl, in_ints]
    exact out0 S o p (.bl _)
  · rename_i z hv
    obtain ⟨i, rfl, p⟩ := h
    have e := view_str hv
    subst e
    cases r1
    cases r2
    exact op_notIn_str pins s σ H _ _ v u Q I rx ry ⟨_, _, rfl, rfl, out0 S o p (.bl _)⟩
  · exact h.elim
/-! ## d[k], d.get(k), d.get(k, x) -/
def fGet : F2 := fun d1 d2 W P => match view W d1 with
  | .dK _ => ∃ d, dget W d1 d2 = some (some d) ∧ P d
  | .dT _ => ∃ d, dget W d1 d2 = some (some d) ∧ P d
  | _ => fIx d1 d2 W P
theorem i_dict {value slice : Expr} {pins : List (Addr × Obj)} {s : Shared} {σ : L2.St} {H : Hp} {a : Addr} {y z : V} {u : Value} {Q : VK} (hu : X.A.units + 1 < cLine) (I : Inv X pins σ H s) (g : DGet H a y (some z)) (ry : RelV y u) (q : Q z H)
    (hs : subscripted slice false (.ref a) u = operate [.ref a, u] (getItem (.ref a) u)) : wpAny (model X.prog X.w) X.A (subscriptTail value slice (.ref a) u) (EP X pins σ Q) X.xe s := by
  have hT := dict_typeIs I g
  unfold subscriptTail
  refine wpAny_bind ?_
  rw [getitemInPython_of_ne hT.not_modules]
  refine wpAny_bind (wpAny_specialOf hT PySem.F.slot_dict_getitem.lookup ?_)
  have fin : wpAny (model X.prog X.w) X.A (subscripted slice false (.ref a) u) (fun r s₃ => wpAny (model X.prog X.w) X.A (letTemporaryGo value (.ref a) r >>= fun _ => pure r) (EP X pins σ Q) X.xe s₃) X.xe s := by
    rw [hs]
    refine wpAny_operating (d_getItem hu I g ry fun w' s3 I3 rw' => ?_)
    exact wpAny_bind (wpAny_letTemporaryGo (wpAny_pure ⟨z, H, I3, rw', q⟩))
  first
    | exact wpAny_pure (wpAny_bind fin)
    | exact wpAny_bind (wpAny_pure (wpAny_bind fin))
    | exact wpAny_bind fin
theorem i_get (hu : X.A.units + 1 < cLine) : IxR X (rD X.K B fGet) := by
  intro value slice pins s σ H x y v u Q I rx ry ⟨F, W, d1, d2, P, S, r1, r2, h, o⟩ hs'
  unfold fGet at h
  split at h
  · obtain ⟨d, hd, p⟩ := h
    obtain ⟨a, o', rfl, g, h1, _⟩ := dget_rep S r1 r2 hd
    obtain ⟨z, rfl, rz⟩ := h1 d rfl
    obtain rfl : v = Value.ref a := rx
    exact i_dict hu I g ry (out0 S o p rz) hs'
  · obtain ⟨d, hd, p⟩ := h
    obtain ⟨a, o', rfl, g, h1, _⟩ := dget_rep S r1 r2 hd
    obtain ⟨z, rfl, rz⟩ := h1 d rfl
    obtain rfl : v = Value.ref a := rx
    exact i_dict hu I g ry (out0 S o p rz) hs'
  · exact i_ix value slice pins s σ H x y v u Q I rx ry ⟨F, W, d1, d2, P, S, r1, r2, h, o⟩ hs'
theorem s_get {a b : Expr} {ta tb : WE} {pos : Pos} (hu : X.A.units + 1 < cLine) (ha : PE X a (liftE X.K B E ta)) (hb : PE X b (liftE X.K B E tb)) (hs : PlainIx b) : PE X (.Subscript a b pos) (liftE X.K B E (wBin fGet ta tb)) :=
  peW (pe_ix (i_get hu) ha hb hs) fun σ H Q h => liftE_bin h
/-- d.get(k, x) -/
def isDict : D → Bool
  | .dK _ => true
  | .dT _ => true
  | _ => false
def wGet2 (to ta tb : WE) : WE := fun PX env W P => to PX env W fun d env1 W1 => isDict (view W1 d) = true ∧ ta PX env1 W1 fun k env2 W2 => tb PX env2 W2 fun x env3 W3 => ∃ o, dget W3 d k = some o ∧ P (o.getD x) env3 W3
def wGet1 (to ta : WE) : WE := fun PX env W P => to PX env W fun d env1 W1 => isDict (view W1 d) = true ∧ ta PX env1 W1 fun k env2 W2 => ∃ o, dget W2 d k = some o ∧ P (o.getD .non) env2 W2
theorem ty_dict {F H : Hp} {W : WS} {d : D} {v : V} (S : Stt X.K B F W H) (r : Rep X.K F d v) (h : isDict (view W d) = true) : ∃ a, v = .ref a ∧ IsD H a := by
  cases e : view W d with
  | dK ds => obtain ⟨a, kvs, rfl, hd, _⟩ := view_dK S r e; exact ⟨a, rfl, .inl ⟨kvs, hd⟩⟩
  | dT ds => obtain ⟨a, kvs, rfl, hd, _⟩ := view_dT S r e; exact ⟨a, rfl, .inr ⟨kvs, hd⟩⟩
  | _ => rw [e] at h; cases h
theorem getD_rep {F : Hp} {o : Option D} {o' : Option V} {x : D} {z : V} (h1 : ∀ x, o = some x → ∃ z, o' = some z ∧ Rep X.K F x z) (h2 : o = none → o' = none) (r : Rep X.K F x z) : Rep X.K F (o.getD x) (o'.getD z) := by
  cases o with
  | none => rw [h2 rfl]; exact r
  | some y => obtain ⟨w, e, q⟩ := h1 y rfl; rw [e]; exact q
theorem s_get2 {o e f : Expr} {to ta tb : WE} {apos cpos : Pos} (hu : X.A.units + 1 < cLine) (ho : PE X o (liftE X.K B E to)) (he : PE X e (liftE X.K B E ta)) (hf : PE X f (liftE X.K B E tb)) (m : M2 X o "get" apos e f cpos) :
    PE X (.Call (.Attribute o "get" apos) [e, f] [] cpos) (liftE X.K B E (wGet2 to ta tb)) :=
  peW (pe_dget2 hu ho he hf m) fun σ H Q ⟨F, env, W, P, PX, S, hE, h, hX, hQ⟩ => by
    refine ⟨F, env, W, _, PX, S, hE, h, hX, fun d env1 W1 F1 H1 v ⟨hd, p1⟩ S1 l1 e1 r1 => ?_⟩
    obtain ⟨a, rfl, ha⟩ := ty_dict S1 r1 hd
    refine ⟨a, rfl, ha, F1, env1, W1, _, PX, S1, e1, p1, hX.mono l1, fun k env2 W2 F2 H2 y p2 S2 l2 e2 r2 => ?_⟩
    refine ⟨F2, env2, W2, _, PX, S2, e2, p2, hX.mono (l1.trans l2), fun x env3 W3 F3 H3 z ⟨q, hq, p3⟩ S3 l3 e3 r3 => ?_⟩
    obtain ⟨a', o', ea, g, h1, h2⟩ := dget_rep S3 (r1.mono (l2.trans l3)) (r2.mono l3) hq
    cases ea
    exact ⟨o', g, hQ _ env3 W3 F3 H3 _ p3 S3 ((l1.trans l2).trans l3) e3 (getD_rep h1 h2 r3)⟩
theorem s_get1 {o e : Expr} {to ta : WE} {apos cpos : Pos} (hu : X.A.units + 1 < cLine) (ho : PE X o (liftE X.K B E to)) (he : PE X e (liftE X.K B E ta)) (m : M1 X o "get" apos e cpos) :
    PE X (.Call (.Attribute o "get" apos) [e] [] cpos) (liftE X.K B E (wGet1 to ta)) :=
  peW (pe_dget1 hu ho he m) fun σ H Q ⟨F, env, W, P, PX, S, hE, h, hX, hQ⟩ => by
    refine ⟨F, env, W, _, PX, S, hE, h, hX, fun d env1 W1 F1 H1 v ⟨hd, p1⟩ S1 l1 e1 r1 => ?_⟩
    obtain ⟨a, rfl, ha⟩ := ty_dict S1 r1 hd
    refine ⟨a, rfl, ha, F1, env1, W1, _, PX, S1, e1, p1, hX.mono l1, fun k env2 W2 F2 H2 y ⟨q, hq, p2⟩ S2 l2 e2 r2 => ?_⟩
    obtain ⟨a', o', ea, g, h1, h2⟩ := dget_rep S2 (r1.mono l2) r2 hq
    cases ea
    exact ⟨o', g, hQ _ env2 W2 F2 H2 _ p2 S2 (l1.trans l2) e2 (getD_rep h1 h2 .non)⟩
end
end DL

set_option maxRecDepth 100000
set_option maxHeartbeats 2000000
set_option linter.all false
namespace DL
open PySem PySem.Spec PyProof.Rows L2
section
variable {X : Cx} {B : Base} {E : XK}
/-! ## built-in functions -/
theorem s_bi {f : FL} {e : Expr} {es : List Expr} {ta : WA} {x : Str} {p pos : Pos} {id : String} (hc : CallR X (.builtin id) (rDL X.K B f)) (hg : Gl X x) (hm : X.mg x = none) (hv : bootBuiltins x = some (.builtin id)) (ha : PA X (e :: es) (liftA X.K B E ta)) (hn : x ≠ "__name__") (hdb : (x == ("__debug__" : Str)) = false)
    (he : starEach (e :: es) X.env = (false, eval e X.env) :: starEach es X.env) (hpl : (backTo pos (starEach es X.env)).any (·.1) = false) : PE X (.Call (.Name x p) (e :: es) [] pos) (liftE X.K B E (wApp f ta)) :=
  peW (pe_callB hc hg hm hv ha hn hdb he hpl) fun σ H Q h => liftE_app h
theorem s_biT {f : FL} {e : Expr} {es : List Expr} {ta : WA} {x : Str} {p pos : Pos} {T : String} (hc : CallR X (.type T) (rDL X.K B f)) (hg : Gl X x) (hm : X.mg x = none) (hv : bootBuiltins x = some (.type T)) (ha : PA X (e :: es) (liftA X.K B E ta)) (hn : x ≠ "__name__") (hdb : (x == ("__debug__" : Str)) = false)
    (he : starEach (e :: es) X.env = (false, eval e X.env) :: starEach es X.env) (hpl : (backTo pos (starEach es X.env)).any (·.1) = false) : PE X (.Call (.Name x p) (e :: es) [] pos) (liftE X.K B E (wApp f ta)) :=
  peW (pe_callTy hc hg hm hv ha hn hdb he hpl) fun σ H Q h => liftE_app h
theorem s_biF {f : FO} {e : Expr} {es : List Expr} {ta : WA} {x : Str} {p pos : Pos} {id : String} (hc : CallR X (.builtin id) (rDO X.K B f)) (hg : Gl X x) (hm : X.mg x = none) (hv : bootBuiltins x = some (.builtin id)) (ha : PA X (e :: es) (liftA X.K B E ta)) (hn : x ≠ "__name__") (hdb : (x == ("__debug__" : Str)) = false)
    (he : starEach (e :: es) X.env = (false, eval e X.env) :: starEach es X.env) (hpl : (backTo pos (starEach es X.env)).any (·.1) = false) : PE X (.Call (.Name x p) (e :: es) [] pos) (liftF X.K B E (wAppF f ta)) :=
  peW (pe_callB hc hg hm hv ha hn hdb he hpl) fun σ H Q h => liftF_app h
theorem s_biTF {f : FO} {e : Expr} {es : List Expr} {ta : WA} {x : Str} {p pos : Pos} {T : String} (hc : CallR X (.type T) (rDO X.K B f)) (hg : Gl X x) (hm : X.mg x = none) (hv : bootBuiltins x = some (.type T)) (ha : PA X (e :: es) (liftA X.K B E ta)) (hn : x ≠ "__name__") (hdb : (x == ("__debug__" : Str)) = false)
    (he : starEach (e :: es) X.env = (false, eval e X.env) :: starEach es X.env) (hpl : (backTo pos (starEach es X.env)).any (·.1) = false) : PE X (.Call (.Name x p) (e :: es) [] pos) (liftF X.K B E (wAppF f ta)) :=
  peW (pe_callTy hc hg hm hv ha hn hdb he hpl) fun σ H Q h => liftF_app h
theorem repL1 {K : Fg} {F : Hp} {d : D} {vs : List V} (r : RepL K F [d] vs) : ∃ v, vs = [v] ∧ Rep K F d v := by
  cases r with
  | cons r t => cases t; exact ⟨_, rfl, r⟩
theorem repL2 {K : Fg} {F : Hp} {d e : D} {vs : List V} (r : RepL K F [d, e] vs) : ∃ v w, vs = [v, w] ∧ Rep K F d v ∧ Rep K F e w := by
  cases r with
  | cons r t => obtain ⟨w, rfl, q⟩ := repL1 t; exact ⟨_, _, rfl, r, q⟩
def fLen : FL
  | [d], W, P => match view W d with
    | .lst ds => P (.int ds.length)
    | .tup ds => P (.int ds.length)
    | .str z => z.length ≤ sizeLine ∧ P (.int z.length)
    | .dK ds => P (.int ds.length)
    | _ => False
  | _, _, _ => False
theorem c_len : CallR X (.builtin "len") (rDL X.K B fLen) := by
  intro pins s σ H xs us Q I r ⟨F, W, ds, P, S, rl, h, o⟩
  unfold fLen at h
  split at h
  · rename_i d
    obtain ⟨v, rfl, rv⟩ := repL1 rl
    split at h
    · rename_i ds hv
      obtain ⟨a, vs, rfl, hs, r1⟩ := view_lst S rv hv
      exact call_len_seq pins s σ H _ us Q I r ⟨a, vs, rfl, .inl hs, by rw [← r1.length]; exact out0 S o h (.int _)⟩
    · rename_i ds hv
      obtain ⟨a, vs, rfl, hs, r1⟩ := view_tup S rv hv
      exact call_len_seq pins s σ H _ us Q I r ⟨a, vs, rfl, .inr (S.sqT hs), by rw [← r1.length]; exact out0 S o h (.int _)⟩
    · rename_i z hv
      have e := view_str hv
      subst e
      cases rv
      exact call_len_str pins s σ H _ us Q I r ⟨z, rfl, h.1, out0 S o h.2 (.int _)⟩
    · rename_i ds hv
      obtain ⟨a, kvs, rfl, hd, hk, r1⟩ := view_dK S rv hv
      obtain ⟨u, rfl, ru⟩ := vals1 r
      obtain rfl : u = Value.ref a := ru
      refine d_len I hd fun t s1 I1 => ⟨.int kvs.length, H, I1, ⟨t, rfl⟩, ?_⟩
      rw [len_keys hk]
      exact out0 S o h (.int _)
    · exact h.elim
  · exact h.elim
def fAbs : FL
  | [.int i], _, P => P (.int (if i < 0 then -i else i))
  | _, _, _ => False
theorem c_abs : CallR X (.builtin "abs") (rDL X.K B fAbs) := by
  intro pins s σ H xs us Q I r ⟨F, W, ds, P, S, rl, h, o⟩
  unfold fAbs at h
  split at h
  · obtain ⟨v, rfl, rv⟩ := repL1 rl
    cases rv
    exact call_abs pins s σ H _ us Q I r ⟨_, rfl, out0 S o h (.int _)⟩
  · exact h.elim
def intsD : List D → Option (List Int)
  | [] => some []
  | .int i :: r => (intsD r).map (i :: ·)
  | _ :: _ => none
theorem intsD_map : ∀ ns : List Int, intsD (ns.map D.int) = some ns
  | [] => rfl
  | n :: r => by
    have ih := intsD_map r
    show (intsD (r.map D.int)).map (n :: ·) = some (n :: r)
    rw [ih]; rfl
theorem intsD_of : ∀ {ds : List D} {ns : List Int}, intsD ds = some ns → ds = ns.map D.int
  | [], ns, h => by cases h; rfl
  | d :: r, ns, h => by
    cases d with
    | int i =>
      have h' : (intsD r).map (i :: ·) = some ns := h
      cases e : intsD r with
      | none => rw [e] at h'; cases h'
      | some ms => rw [e] at h'; cases h'; rw [intsD_of e, List.map_cons]
    | _ => cases h
/-- of two ints, or of a list of ints -/
def fMax : FL
  | [.int i, .int j], _, P => P (.int (if j > i then j else i))
  | [d], W, P => ∃ ds ns, view W d = .lst ds ∧ intsD ds = some ns ∧ 0 < ns.length ∧ ∀ m, m ∈ ns → (∀ y, y ∈ ns → y ≤ m) → P (.int m)
  | _, _, _ => False
def fMin : FL
  | [.int i, .int j], _, P => P (.int (if j < i then j else i))
  | [d], W, P => ∃ ds ns, view W d = .lst ds ∧ intsD ds = some ns ∧ 0 < ns.length ∧ ∀ m, m ∈ ns → (∀ y, y ∈ ns → m ≤ y) → P (.int m)
  | _, _, _ => False
theorem c_max (hc : X.calm = true) : CallR X (.builtin "max") (rDL X.K B fMax) := by
  intro pins s σ H xs us Q I r ⟨F, W, ds, P, S, rl, h, o⟩
  unfold fMax at h
  split at h
  · obtain ⟨v, w', rfl, rv, rw'⟩ := repL2 rl
    cases rv; cases rw'
    exact call_max2 hc pins s σ H _ us Q I r ⟨_, _, rfl, out0 S o h (.int _)⟩
  · obtain ⟨v, rfl, rv⟩ := repL1 rl
    obtain ⟨es, ns, hv, hn, h0, p⟩ := h
    obtain ⟨a, vs, rfl, hs, r1⟩ := view_lst S rv hv
    have e := intsD_of hn
    subst e
    have e2 := r1.ints
    subst e2
    exact cr_max hc pins s σ H _ us Q I r ⟨a, ns, rfl, hs, h0, fun m h1 h2 => out0 S o (p m h1 h2) (.int _)⟩
  · exact h.elim
theorem c_min (hc : X.calm = true) : CallR X (.builtin "min") (rDL X.K B fMin) := by
  intro pins s σ H xs us Q I r ⟨F, W, ds, P, S, rl, h, o⟩
  unfold fMin at h
  split at h
  · obtain ⟨v, w', rfl, rv, rw'⟩ := repL2 rl
    cases rv; cases rw'
    exact call_min2 hc pins s σ H _ us Q I r ⟨_, _, rfl, out0 S o h (.int _)⟩
  · obtain ⟨v, rfl, rv⟩ := repL1 rl
    obtain ⟨es, ns, hv, hn, h0, p⟩ := h
    obtain ⟨a, vs, rfl, hs, r1⟩ := view_lst S rv hv
    have e := intsD_of hn
    subst e
    have e2 := r1.ints
    subst e2
    exact cr_min hc pins s σ H _ us Q I r ⟨a, ns, rfl, hs, h0, fun m h1 h2 => out0 S o (p m h1 h2) (.int _)⟩
  · exact h.elim
def fSum : FL
  | [d], W, P => ∃ ds ns, view W d = .lst ds ∧ intsD ds = some ns ∧ P (.int ns.sum)
  | _, _, _ => False
theorem c_sum (hc : X.calm = true) : CallR X (.builtin "sum") (rDL X.K B fSum) := by
  intro pins s σ H xs us Q I r ⟨F, W, ds, P, S, rl, h, o⟩
  unfold fSum at h
  split at h
  · obtain ⟨v, rfl, rv⟩ := repL1 rl
    obtain ⟨es, ns, hv, hn, p⟩ := h
    obtain ⟨a, vs, rfl, hs, r1⟩ := view_lst S rv hv
    have e := intsD_of hn
    subst e
    have e2 := r1.ints
    subst e2
    exact cr_sum hc pins s σ H _ us Q I r ⟨a, ns, rfl, hs, out0 S o p (.int _)⟩
  · exact h.elim
def blsD : List D → Option (List Bool)
  | [] => some []
  | .bl i :: r => (blsD r).map (i :: ·)
  | _ :: _ => none
theorem blsD_of : ∀ {ds : List D} {ns : List Bool}, blsD ds = some ns → ds = ns.map D.bl
  | [], ns, h => by cases h; rfl
  | d :: r, ns, h => by
    cases d with
    | bl i =>
      have h' : (blsD r).map (i :: ·) = some ns := h
      cases e : blsD r with
      | none => rw [e] at h'; cases h'
      | some ms => rw [e] at h'; cases h'; rw [blsD_of e, List.map_cons]
    | _ => cases h
theorem RepL.bls {K : Fg} {F : Hp} : ∀ {ns : List Bool} {vs : List V}, RepL K F (ns.map D.bl) vs → vs = ns.map V.bl
  | [], _, .nil => rfl
  | _ :: _, _, .cons h t => by cases h; rw [List.map_cons, RepL.bls t]
def fAll : FL
  | [d], W, P => ∃ ds ns, view W d = .lst ds ∧ blsD ds = some ns ∧ P (.bl (ns.all id))
  | _, _, _ => False
def fAny : FL
  | [d], W, P => ∃ ds ns, view W d = .lst ds ∧ blsD ds = some ns ∧ P (.bl (ns.any id))
  | _, _, _ => False
theorem c_all (hc : X.calm = true) : CallR X (.builtin "all") (rDL X.K B fAll) := by
  intro pins s σ H xs us Q I r ⟨F, W, ds, P, S, rl, h, o⟩
  unfold fAll at h
  split at h
  · obtain ⟨v, rfl, rv⟩ := repL1 rl
    obtain ⟨es, ns, hv, hn, p⟩ := h
    obtain ⟨a, vs, rfl, hs, r1⟩ := view_lst S rv hv
    have e := blsD_of hn
    subst e
    have e2 := r1.bls
    subst e2
    exact cr_all hc pins s σ H _ us Q I r ⟨a, ns, rfl, hs, out0 S o p (.bl _)⟩
  · exact h.elim
theorem c_any (hc : X.calm = true) : CallR X (.builtin "any") (rDL X.K B fAny) := by
  intro pins s σ H xs us Q I r ⟨F, W, ds, P, S, rl, h, o⟩
  unfold fAny at h
  split at h
  · obtain ⟨v, rfl, rv⟩ := repL1 rl
    obtain ⟨es, ns, hv, hn, p⟩ := h
    obtain ⟨a, vs, rfl, hs, r1⟩ := view_lst S rv hv
    have e := blsD_of hn
    subst e
    have e2 := r1.bls
    subst e2
    exact cr_any hc pins s σ H _ us Q I r ⟨a, ns, rfl, hs, out0 S o p (.bl _)⟩
  · exact h.elim
def fInt : FL
  | [.int i], _, P => P (.int i)
  | [.bl k], _, P => P (.int (if k then 1 else 0))
  | _, _, _ => False
theorem c_int : CallR X (.type "int") (rDL X.K B fInt) := by
  intro pins s σ H xs us Q I r ⟨F, W, ds, P, S, rl, h, o⟩
  unfold fInt at h
  split at h
  · obtain ⟨v, rfl, rv⟩ := repL1 rl
    cases rv
    exact call_int1 pins s σ H _ us Q I r (.inl ⟨_, rfl, out0 S o h (.int _)⟩)
  · obtain ⟨v, rfl, rv⟩ := repL1 rl
    cases rv
    exact call_int1 pins s σ H _ us Q I r (.inr ⟨_, rfl, out0 S o h (.int _)⟩)
  · exact h.elim
def fStr : FL
  | [.int i], _, P => i.natAbs.log2 < 1920 ∧ P (.str (toString i))
  | [.str x], _, P => P (.str x)
  | _, _, _ => False
theorem c_str : CallR X (.type "str") (rDL X.K B fStr) := by
  intro pins s σ H xs us Q I r ⟨F, W, ds, P, S, rl, h, o⟩
  unfold fStr at h
  split at h
  · obtain ⟨v, rfl, rv⟩ := repL1 rl
    cases rv
    exact call_str_int pins s σ H _ us Q I r ⟨_, rfl, h.1, out0 S o h.2 (.str _)⟩
  · obtain ⟨v, rfl, rv⟩ := repL1 rl
    cases rv
    exact SkE.call_str_str pins s σ H _ us Q I r ⟨_, rfl, out0 S o h (.str _)⟩
  · exact h.elim
/-- repr(x) of plain data -/
def fRepr : FL
  | [d], W, P => plainD (view W d) = true ∧ PyData.showable (toP (view W d)) = true ∧ (toP (view W d)).depth ≤ 60 ∧ (toP (view W d)).shown.length ≤ sizeLine ∧ P (.str (toP (view W d)).shown)
  | _, _, _ => False
mutual
theorem noDict : ∀ d : D, (toP d).hasDict = false
  | .lst xs => by simp only [toP, PyData.hasDict]; exact noDicts xs
  | .tup xs => by simp only [toP, PyData.hasDict]; exact noDicts xs
  | .non => by simp only [toP, PyData.hasDict]
  | .bl _ => by simp only [toP, PyData.hasDict]
  | .int _ => by simp only [toP, PyData.hasDict]
  | .str _ => by simp only [toP, PyData.hasDict]
  | .ty _ => by simp only [toP, PyData.hasDict]
  | .ktup _ => by simp only [toP, PyData.hasDict]
  | .klst _ => by simp only [toP, PyData.hasDict]
  | .ptup _ => by simp only [toP, PyData.hasDict]
  | .dK _ => by simp only [toP, PyData.hasDict]
  | .dT _ => by simp only [toP, PyData.hasDict]
  | .ins _ _ => by simp only [toP, PyData.hasDict]
  | .obj _ => by simp only [toP, PyData.hasDict]
  | .raw => by simp only [toP, PyData.hasDict]
theorem noDicts : ∀ ds : List D, PyData.hasDictAll (toPs ds) = false
  | [] => by simp only [toPs, PyData.hasDictAll]
  | d :: r => by simp only [toPs, PyData.hasDictAll, noDict d, noDicts r, Bool.or_self]
end
theorem c_repr (hg : X.A.guards = some []) (hu : X.A.units + 64 < cLine) : CallR X (.builtin "repr") (rDL X.K B fRepr) := by
  intro pins s σ H xs us Q I r ⟨F, W, ds, P, S, rl, h, o⟩
  unfold fRepr at h
  split at h
  · rename_i d
    obtain ⟨v, rfl, rv⟩ := repL1 rl
    obtain ⟨h1, h2, h3, h4, p⟩ := h
    have hd := dp_view S h1 rv
    obtain ⟨u, rfl, ru⟩ := vals1 r
    obtain ⟨as, rd⟩ := Dp.reads I _ _ u hd ru
    have fin : ∀ h' tk t, (∀ b o, s.heap.get? b = some o → h'.get? b = some o) → EP X pins σ Q (.str (toP (view W d)).shown t) { s with heap := h', toks := tk } := fun h' tk t hk =>
      ⟨.str _, H, I.kept hk, ⟨t, rfl⟩, out0 S o p (.str _)⟩
    have viaRef : ∀ a, v = .ref a → wpAny (model X.prog X.w) X.A (call (.builtin "repr") [u]) (EP X pins σ Q) X.xe s := fun a e => by
      subst e
      obtain rfl : u = Value.ref a := ru
      exact repr_of_reads' rd h2 (fun e => by rw [noDict] at e; cases e) hg (by omega) (fun _ _ q => q) (fun h' t tk hk => fin h' tk t hk) h4
    cases rv with
    | int i =>
      obtain ⟨t, rfl⟩ := ru
      have h2' : i.natAbs.log2 < 1920 := by simpa only [view, toP, PyData.showable, decide_eq_true_eq] using h2
      have e : (toP (view W (.int i))).shown = (toString i : Str) := by simp only [view, toP, PyData.shown]
      exact PySem.P.repr_of_int h2' (by rw [← e]; exact fin _ _ _ fun _ _ q => q)
    | bl b =>
      obtain rfl : u = Value.bool b := ru
      have e : (toP (view W (.bl b))).shown = (if b then "True" else "False" : Str) := by simp only [view, toP, PyData.shown]
      exact PySem.P.repr_of_bool (by rw [← e]; exact fin _ _ _ fun _ _ q => q)
    | non =>
      obtain rfl : u = Value.none := ru
      have e : (toP (view W .non)).shown = ("None" : Str) := by simp only [view, toP, PyData.shown]
      exact PySem.P.repr_of_none (by rw [← e]; exact fin _ _ _ fun _ _ q => q)
    | str x =>
      obtain ⟨t, rfl⟩ := ru
      have e : (toP (view W (.str x))).shown = reprText x := by simp only [view, toP, PyData.shown]
      exact PySem.P.repr_of_str (by rw [← e]; exact fin _ _ _ fun _ _ q => q) (by rw [← e]; exact h4)
    | ty n => simp only [view, plainD] at h1; cases h1
    | obj a => exact viaRef a rfl
    | raw a => exact viaRef a rfl
    | lst _ _ => exact viaRef _ rfl
    | tup _ _ => exact viaRef _ rfl
    | ktup _ _ => exact viaRef _ rfl
    | klst _ _ => exact viaRef _ rfl
    | ptup _ _ _ _ => exact viaRef _ rfl
    | dK _ _ _ => simp only [view, plainD] at h1; cases h1
    | dT _ _ _ => simp only [view, plainD] at h1; cases h1
    | ins _ _ _ => simp only [view, plainD] at h1; cases h1
  · exact h.elim
end
end DL

set_option maxRecDepth 100000
set_option maxHeartbeats 2000000
set_option linter.all false
namespace DL
open PySem PySem.Spec PyProof.Rows L2
section
variable {X : Cx} {B : Base} {E : XK}
/-- a list that may be told exactly: tracked as it is -/
def exL (W : WS) : D → Option (List D)
  | .lst ds => some ds
  | .obj a => match W a with
    | some (.lst ds) => some ds
    | _ => none
  | _ => none
theorem exL_rep {K : Fg} {F H : Hp} {W : WS} {d : D} {v : V} {ds : List D} (S : Stt K B F W H) (r : Rep K F d v) (h : exL W d = some ds) : ∃ a vs, v = .ref a ∧ H a = some (.lst vs) ∧ RepL K F ds vs := by
  cases d with
  | lst es => cases h; cases r with
    | lst hs rl => exact ⟨_, _, rfl, S.sub _ _ hs, rl⟩
  | obj a =>
    cases r
    have h' : (match W a with | some (.lst ds) => some ds | _ => none) = some ds := h
    cases e : W a with
    | none => rw [e] at h'; cases h'
    | some ob => cases ob with
      | lst es =>
        rw [e] at h'
        cases h'
        obtain ⟨vs, h1, h2⟩ := obj_lst S e
        exact ⟨a, vs, rfl, h1, h2⟩
      | _ => rw [e] at h'; cases h'
  | _ => cases h
/-! ## sorted, list, tuple -/
abbrev prD (p : Int × Int) : D := .tup [.int p.1, .int p.2]
def pairsD : List D → Option (List (Int × Int))
  | [] => some []
  | .tup [.int i, .int j] :: r => (pairsD r).map ((i, j) :: ·)
  | _ :: _ => none
theorem pairsD_map : ∀ ps : List (Int × Int), pairsD (ps.map prD) = some ps
  | [] => rfl
  | p :: r => by
    have ih := pairsD_map r
    show (pairsD (r.map prD)).map ((p.1, p.2) :: ·) = some (p :: r)
    rw [ih]; rfl
theorem pairsD_of {ds : List D} {ps : List (Int × Int)} (h : pairsD ds = some ps) : ds = ps.map prD := by
  induction ds generalizing ps with
  | nil => cases h; rfl
  | cons d r ih =>
    unfold pairsD at h
    split at h
    · rename_i heq; cases heq
    · rename_i i j r' heq
      cases heq
      cases e : pairsD r with
      | none => rw [e] at h; cases h
      | some ms => rw [e] at h; cases h; rw [ih e]; rfl
    · cases h
/-- the order of pairs of ints -/
def lexLe (p q : Int × Int) : Prop := p.1 < q.1 ∨ (p.1 = q.1 ∧ p.2 ≤ q.2)
def fSorted : FO
  | [d], W, P => (∃ ds ns, view W d = .lst ds ∧ intsD ds = some ns ∧ ∀ ms : List Int, ms.Perm ns → ms.Pairwise (· ≤ ·) → P (.lst (ms.map D.int))) ∨
      ∃ ds ps, view W d = .lst ds ∧ pairsD ds = some ps ∧ ∀ qs : List (Int × Int), qs.Perm ps → qs.Pairwise lexLe → P (.lst (qs.map prD))
  | _, _, _ => False
def kOf (H : Hp) : V → Int × Int
  | .ref t => match H t with
    | some (.tup [.int i, .int j]) => (i, j)
    | _ => (0, 0)
  | _ => (0, 0)
theorem rep_pairs {K : Fg} {F H : Hp} {W : WS} (S : Stt K B F W H) : ∀ {ps : List (Int × Int)} {vs : List V}, RepL K F (ps.map prD) vs → vs.map (kOf H) = ps ∧ ∀ x ∈ vs, ∃ t, x = .ref t ∧ F t = some (.tup [.int (kOf H x).1, .int (kOf H x).2])
  | [], _, .nil => ⟨rfl, fun x h => by cases h⟩
  | p :: ps, _, .cons r t => by
    obtain ⟨i1, i2⟩ := rep_pairs S t
    cases r with
    | tup hF rl =>
      rename_i a vs
      obtain ⟨v1, v2, rfl, r1, r2⟩ := repL2 rl
      cases r1
      cases r2
      have e : kOf H (.ref a) = p := by
        show (match H a with | some (.tup [.int i, .int j]) => (i, j) | _ => (0, 0)) = p
        rw [S.sub _ _ hF]
      refine ⟨by rw [List.map_cons, i1, e], fun x hx => ?_⟩
      rcases List.mem_cons.mp hx with rfl | hx
      · rw [e]; exact ⟨a, rfl, hF⟩
      · exact i2 x hx
theorem pairs_rep {K : Fg} {F H : Hp} : ∀ {vs : List V}, (∀ x ∈ vs, ∃ t, x = .ref t ∧ F t = some (.tup [.int (kOf H x).1, .int (kOf H x).2])) → RepL K F ((vs.map (kOf H)).map prD) vs
  | [], _ => .nil
  | x :: vs, h => by
    obtain ⟨t, e, hF⟩ := h x List.mem_cons_self
    refine .cons ?_ (pairs_rep fun y hy => h y (List.mem_cons_of_mem _ hy))
    rw [e] at hF ⊢
    exact .tup hF (.cons (.int _) (.cons (.int _) .nil))
theorem c_sorted : CallR X (.builtin "sorted") (rDO X.K B fSorted) := by
  intro pins s σ H xs us Q I r ⟨F, W, ds, P, S, rl, h, o⟩
  unfold fSorted at h
  split at h
  · obtain ⟨v, rfl, rv⟩ := repL1 rl
    rcases h with ⟨es, ns, hv, hn, p⟩ | ⟨es, ps, hv, hn, p⟩
    · obtain ⟨a, vs, rfl, hs, r1⟩ := view_lst S rv hv
      have e := intsD_of hn
      subst e
      have e2 := r1.ints
      subst e2
      exact cr_sortedI pins s σ H _ us Q I r ⟨a, ns, rfl, hs, fun ms q h1 h2 hq => o _ q _ (p ms h1 h2) hq (.lst (RepL.of_ints ms))⟩
    · obtain ⟨a, vs, rfl, hs, r1⟩ := view_lst S rv hv
      have e := pairsD_of hn
      subst e
      obtain ⟨k1, k2⟩ := rep_pairs S r1
      refine cr_sortedPO pins s σ H _ us Q I r ⟨a, vs, kOf H, rfl, hs, fun x hx => ?_, fun ys q h1 h2 hq => ?_⟩
      · obtain ⟨t, e, hF⟩ := k2 x hx
        exact ⟨t, e, S.sub _ _ hF⟩
      · have hp : (ys.map (kOf H)).Perm ps := by rw [← k1]; exact h2.perm.map _
        have hm : ∀ x ∈ ys, ∃ t, x = .ref t ∧ F t = some (.tup [.int (kOf H x).1, .int (kOf H x).2]) := fun x hx => k2 x (h2.perm.mem_iff.mp hx)
        refine o _ q _ (p _ hp ?_) hq (.lst (pairs_rep hm))
        rw [List.pairwise_map]
        refine List.Pairwise.imp (fun {x y} hxy => ?_) h1
        have z := SrtO.lexB_no.mp hxy
        unfold lexLe
        omega
  · exact h.elim
def fList : FO
  | [d], W, P => match view W d with
    | .lst ds => P (.lst ds)
    | .tup ds => P (.lst ds)
    | _ => False
  | _, _, _ => False
theorem c_list : CallR X (.type "list") (rDO X.K B fList) := by
  intro pins s σ H xs us Q I r ⟨F, W, ds, P, S, rl, h, o⟩
  unfold fList at h
  split at h
  · obtain ⟨v, rfl, rv⟩ := repL1 rl
    split at h
    · rename_i ds hv
      obtain ⟨a, vs, rfl, hs, r1⟩ := view_lst S rv hv
      exact call_list_of pins s σ H _ us Q I r ⟨a, vs, rfl, .inl hs, fun l hl => o _ l _ h hl (.lst r1)⟩
    · rename_i ds hv
      obtain ⟨a, vs, rfl, hs, r1⟩ := view_tup S rv hv
      exact call_list_of pins s σ H _ us Q I r ⟨a, vs, rfl, .inr (S.sqT hs), fun l hl => o _ l _ h hl (.lst r1)⟩
    · exact h.elim
  · exact h.elim
def fTuple : FL
  | [d], W, P => match view W d with
    | .lst ds => P (.tup ds)
    | _ => match d with
      | .tup ds => P (.tup ds)
      | _ => False
  | _, _, _ => False
theorem c_tuple : CallR X (.type "tuple") (rDL X.K B fTuple) := by
  intro pins s σ H xs us Q I r ⟨F, W, ds, P, S, rl, h, o⟩
  unfold fTuple at h
  split at h
  · obtain ⟨v, rfl, rv⟩ := repL1 rl
    split at h
    · rename_i ds hv
      obtain ⟨a, vs, rfl, hs, r1⟩ := view_lst S rv hv
      exact call_tuple_of pins s σ H _ us Q I r ⟨a, vs, rfl, .inl ⟨hs, fun l hl => o _ _ _ _ h (S.alloc hl) (Le.upd (S.newF hl)) (.tup upd_same (r1.mono (Le.upd (S.newF hl))))⟩⟩
    · split at h
      · rename_i ds _
        have rv' := rv
        cases rv with
        | tup hF r1 => exact call_tuple_of pins s σ H _ us Q I r ⟨_, _, rfl, .inr ⟨.inl (.inl (S.sub _ _ hF)), out0 S o h rv'⟩⟩
      · exact h.elim
  · exact h.elim
/-! ## + of lists -/
def wCat (ta tb : WE) : WF := fun PX env W P => ta PX env W fun d1 env1 W1 => tb PX env1 W1 fun d2 env2 W2 => ∃ xs ys, exL W2 d1 = some xs ∧ exL W2 d2 = some ys ∧ xs.length + ys.length ≤ sizeLine ∧ P (.lst (xs ++ ys)) env2 W2
theorem s_cat {a b : Expr} {ta tb : WE} {pos : Pos} (ha : PE X a (liftE X.K B E ta)) (hb : PE X b (liftE X.K B E tb)) : PE X (.BinOp a .Add b pos) (liftF X.K B E (wCat ta tb)) :=
  peW (pe_op op_cat ha hb) fun σ H Q ⟨F, env, W, P, PX, S, hE, h, hX, hQ⟩ => by
    refine ⟨F, env, W, _, PX, S, hE, h, hX, fun d1 env1 W1 F1 H1 v1 p1 S1 l1 e1 r1 => ?_⟩
    refine ⟨F1, env1, W1, _, PX, S1, e1, p1, hX.mono l1, fun d2 env2 W2 F2 H2 v2 ⟨xs, ys, h1, h2, hl, p⟩ S2 l2 e2 r2 => ?_⟩
    obtain ⟨a1, vs1, rfl, g1, q1⟩ := exL_rep S2 (r1.mono l2) h1
    obtain ⟨a2, vs2, rfl, g2, q2⟩ := exL_rep S2 r2 h2
    refine ⟨a1, a2, vs1, vs2, rfl, rfl, g1, g2, by rw [← q1.length, ← q2.length]; exact hl, fun q hq => ?_⟩
    obtain ⟨z1, z2, z3, z4⟩ := laidF (o := .lst (vs1 ++ vs2)) S2 hq
    exact hQ _ env2 W2 F2 _ q _ p z1 (l1.trans l2) e2 upd_same z2 z3 z4 (.lst (q1.append q2))
/-! ## slices of lists -/
def cutD (xs : List D) (lo hi : Option Int) : List D := (xs.drop (HT.sIx xs.length 0 lo)).take (HT.sIx xs.length xs.length hi - HT.sIx xs.length 0 lo)
abbrev WO := XP → DEnv → WS → (Option Int → DEnv → WS → Prop) → Prop
def wONo : WO := fun _ env W P => P none env W
def wOYes (t : WE) : WO := fun PX env W P => t PX env W fun d env1 W1 => ∃ i, d = .int i ∧ P (some i) env1 W1
def liftO (K : Fg) (B : Base) (E : XK) (t : WO) : TO := fun σ H Q => ∃ F env W P PX, Stt K B F W H ∧ EnvOk K F σ env ∧ t PX env W P ∧ XOk K B E F PX ∧
  ∀ o env' W' F' H', P o env' W' → Stt K B F' W' H' → Le F F' → EnvOk K F' σ env' → Q o H'
theorem poW {e : Option Expr} {t t' : TO} (h : PO X e t) (hw : ∀ σ H Q, t' σ H Q → t σ H Q) : PO X e t' := ⟨fun pins s σ H Q I q => h.run pins s σ H Q I (hw σ H Q q)⟩
theorem so_none {K : Fg} : PO X none (liftO K B E wONo) := poW po_none fun σ H Q ⟨F, env, W, P, PX, S, hE, p, _, hQ⟩ => hQ none env W F H p S (Le.refl _) hE
theorem so_some {K : Fg} {e : Expr} {t : WE} (h : PE X e (liftE K B E t)) : PO X (some e) (liftO K B E (wOYes t)) := poW (po_some h) fun σ H Q ⟨F, env, W, P, PX, S, hE, h, hX, hQ⟩ =>
  ⟨F, env, W, _, PX, S, hE, h, hX, fun d env1 W1 F1 H1 v ⟨i, ed, p⟩ S1 l1 e1 r1 => by subst ed; cases r1; exact ⟨i, rfl, hQ _ env1 W1 F1 H1 p S1 l1 e1⟩⟩
def wSlc (t : WE) (lo hi : WO) : WF := fun PX env W P => t PX env W fun d env1 W1 => lo PX env1 W1 fun l env2 W2 => hi PX env2 W2 fun h env3 W3 => ∃ ds, view W3 d = .lst ds ∧ P (.lst (cutD ds l h)) env3 W3
theorem s_slc {e : Expr} {lo hi : Option Expr} {t : WE} {tl th : WO} {p2 pos : Pos} (he : PE X e (liftE X.K B E t)) (hl : PO X lo (liftO X.K B E tl)) (hu : PO X hi (liftO X.K B E th)) : PE X (.Subscript e (.Slice lo hi none p2) pos) (liftF X.K B E (wSlc t tl th)) :=
  peW (pe_slice sl_list he hl hu) fun σ H Q ⟨F, env, W, P, PX, S, hE, h, hX, hQ⟩ => by
    refine ⟨F, env, W, _, PX, S, hE, h, hX, fun d env1 W1 F1 H1 v p1 S1 l1 e1 r1 => ?_⟩
    refine ⟨F1, env1, W1, _, PX, S1, e1, p1, hX.mono l1, fun o2 env2 W2 F2 H2 p2 S2 l2 e2 => ?_⟩
    refine ⟨F2, env2, W2, _, PX, S2, e2, p2, hX.mono (l1.trans l2), fun o3 env3 W3 F3 H3 ⟨ds, hv, p⟩ S3 l3 e3 => ?_⟩
    obtain ⟨a, vs, rfl, hs, rl⟩ := view_lst S3 (r1.mono (l2.trans l3)) hv
    refine ⟨a, vs, rfl, hs, fun q hq => ?_⟩
    obtain ⟨z1, z2, z3, z4⟩ := laidF (o := .lst (cutV vs o2 o3)) S3 hq
    refine hQ _ env3 W3 F3 _ q _ p z1 ((l1.trans l2).trans l3) e3 upd_same z2 z3 z4 (.lst ?_)
    unfold cutD cutV
    rw [rl.length]
    exact (rl.drop _).take _
/-- xs[::-1] -/
def wRev (t : WE) : WF := fun PX env W P => t PX env W fun d env1 W1 => ∃ ds, view W1 d = .lst ds ∧ P (.lst ds.reverse) env1 W1
theorem RepL.reverse {K : Fg} {F : Hp} {ds : List D} {vs : List V} (r : RepL K F ds vs) : RepL K F ds.reverse vs.reverse := by
  induction ds generalizing vs with
  | nil => cases r; exact .nil
  | cons d ds ih => cases r with
    | cons h t => rw [List.reverse_cons, List.reverse_cons]; exact (ih t).append (.cons h .nil)
end
end DL

set_option maxRecDepth 100000
set_option maxHeartbeats 2000000
set_option linter.all false
namespace DL
open PySem PySem.Spec PyProof.Rows L2
/-! ## targets -/
/-- a target takes a datum apart -/
inductive Tg where
  | nm (i : Nat)
  | tp (l : Tg) (r : Tg)      -- a tuple: the first, the others as a tuple's rest
  | nl                         -- the end of a tuple
  | tu (l : Tg)                -- (t, ..): l a chain of tp .. nl
def Tg.slots : Tg → List Nat
  | .nm i => [i]
  | .tp l r => l.slots ++ r.slots
  | .nl => []
  | .tu l => l.slots
def Off (vs : List Nat) (σ σ' : L2.St) : Prop := σ'.length = σ.length ∧ ∀ i, i ∉ vs → σ'[i]? = σ[i]?
def bindG : Tg → D → DEnv → (DEnv → Prop) → Prop
  | .nm i, d, env, P => P (env.set i (some d))
  | .tu l, d, env, P => match d with
    | .tup ds => bindG l (.lst ds) env P
    | _ => False
  | .nl, d, env, P => match d with
    | .lst [] => P env
    | _ => False
  | .tp l r, d, env, P => match d with
    | .lst (d :: ds) => bindG l d env fun env1 => bindG r (.lst ds) env1 P
    | _ => False
section
variable {X : Cx} {B : Base} {E : XK}
def liftG (K : Fg) (B : Base) (g : Tg) : TG := fun v σ H Q => ∃ F env W d P, Stt K B F W H ∧ EnvOk K F σ env ∧ Rep K F d v ∧ bindG g d env P ∧ ∀ env' σ', P env' → EnvOk K F σ' env' → Off g.slots σ σ' → Q σ' H
def liftGs (K : Fg) (B : Base) (g : Tg) : TGs := fun vs σ H Q => ∃ F env W ds P, Stt K B F W H ∧ EnvOk K F σ env ∧ RepL K F ds vs ∧ bindG g (.lst ds) env P ∧ ∀ env' σ', P env' → EnvOk K F σ' env' → Off g.slots σ σ' → Q σ' H
theorem pgW {e : Expr} {t t' : TG} (h : PG X e t) (hw : ∀ v σ H Q, t' v σ H Q → t v σ H Q) : PG X e t' := ⟨fun pins s σ H v u Q I r q => h.run pins s σ H v u Q I r (hw v σ H Q q)⟩
theorem pgsW {e : List Expr} {t t' : TGs} (h : PGs X e t) (hw : ∀ v σ H Q, t' v σ H Q → t v σ H Q) : PGs X e t' := ⟨fun pins s σ H v u Q I r q => h.run pins s σ H v u Q I r (hw v σ H Q q)⟩
theorem g_nm {K : Fg} {i : Nat} {x : Str} {pos : Pos} (hN : X.N.Nodup) (hi : X.N[i]? = some x) (hx : Loc X.env.scope x) (hf : X.fn x = true ∨ X.env.scope.names.lookup x = some .local) : PG X (.Name x pos) (liftG K B (.nm i)) :=
  pgW (pg_name hN hi hx hf) fun v σ H Q ⟨F, env, W, d, P, S, hE, r, p, hQ⟩ => hQ _ _ p (hE.set r) ⟨by rw [List.length_set], fun j hj => by rw [List.getElem?_set_ne (fun e => hj (by rw [e]; exact List.mem_singleton_self _))]⟩
theorem g_nil {K : Fg} : PGs X [] (liftGs K B .nl) := pgsW pgs_nil fun v σ H Q ⟨F, env, W, ds, P, S, hE, r, p, hQ⟩ => by
  cases ds with
  | nil => cases r; exact ⟨rfl, hQ env σ p hE ⟨rfl, fun _ _ => rfl⟩⟩
  | cons d ds => exact False.elim p
theorem g_cons {K : Fg} {e : Expr} {es : List Expr} {l r : Tg} (h1 : PG X e (liftG K B l)) (h2 : PGs X es (liftGs K B r)) (hs : (assignEach (e :: es) X.env).map (·.2) = assign e X.env :: (assignEach es X.env).map (·.2)) : PGs X (e :: es) (liftGs K B (.tp l r)) :=
  pgsW (pgs_cons h1 h2 hs) fun v σ H Q ⟨F, env, W, ds, P, S, hE, r, p, hQ⟩ => by
    cases ds with
    | nil => exact False.elim p
    | cons d ds => cases r with
      | cons r1 r2 => exact ⟨_, _, rfl, F, env, W, d, _, S, hE, r1, p, fun env1 σ1 p1 e1 o1 => ⟨F, env1, W, ds, P, S, e1, r2, p1, fun env2 σ2 p2 e2 o2 => hQ env2 σ2 p2 e2 ⟨o2.1.trans o1.1, fun i hi => (o2.2 i fun z => hi (List.mem_append_right _ z)).trans (o1.2 i fun z => hi (List.mem_append_left _ z))⟩⟩⟩
theorem bind_len : ∀ (l : Tg) (ds : List D) (env : DEnv) (P : DEnv → Prop), bindG l (.lst ds) env P → ∀ n, (∀ ds' env' P', bindG l (.lst ds') env' P' → ds'.length = n) → ds.length = n := fun l ds env P h n hn => hn ds env P h
theorem g_tup {es : List Expr} {k : Nat} {l : Tg} {pos : Pos} (hc : X.calm = true) (h : PGs X es (liftGs X.K B l)) {n : Nat} (hl : ∀ ds env P, bindG l (.lst ds) env P → ds.length = n) (hn : (assignEach es X.env).length = n) (hst : (assignEach es X.env).findIdx? (·.1) = none) :
    PG X (.Tuple es k pos) (liftG X.K B (.tu l)) :=
  pgW (pg_tup hc h hn hst) fun v σ H Q ⟨F, env, W, d, P, S, hE, r, p, hQ⟩ => by
    cases d with
    | tup ds => cases r with
      | tup hF rl => exact ⟨_, _, rfl, .inl (.inl (S.sub _ _ hF)), by rw [← rl.length]; exact hl _ _ _ p, F, env, W, ds, P, S, hE, rl, p, hQ⟩
    | _ => exact False.elim p
/-! ## statements -/
def wSkip : WStm := fun _ D env W => D.nx env W
def wSeq (a b : WStm) : WStm := fun PX D env W => a PX { D with nx := fun env1 W1 => b PX D env1 W1 } env W
def wAsg (t : WE) (g : Tg) : WStm := fun PX D env W => t PX env W fun d env1 W1 => bindG g d env1 fun env2 => D.nx env2 W1
def wDrop (t : WE) : WStm := fun PX D env W => t PX env W fun _ env1 W1 => D.nx env1 W1
def wRet (t : WE) : WStm := fun PX D env W => t PX env W fun d _ W1 => D.rt d W1
def wRetN : WStm := fun _ D _ W => D.rt .non W
def wIf (t : WT) (a b : WStm) : WStm := fun PX D env W => t PX env W fun c env1 W1 => match c with
  | true => a PX D env1 W1
  | false => b PX D env1 W1
def wBrk : WStm := fun _ D env W => D.bk env W
def wCnt : WStm := fun _ D env W => D.ct env W
section
variable {K : Fg}
theorem S_nil : PSs X [] (liftS K B E wSkip) := pssW pss_nil fun D σ H ⟨F, env, W, P, PX, S, hE, p, _, h1, _⟩ => h1 env W F H σ p S (Le.refl _) hE
theorem S_pass {pos : Pos} : PS X (.Pass pos) (liftS K B E wSkip) := psW ps_pass fun D σ H ⟨F, env, W, P, PX, S, hE, p, _, h1, _⟩ => h1 env W F H σ p S (Le.refl _) hE
theorem S_brk {pos : Pos} : PS X (.Break pos) (liftS K B E wBrk) := psW ps_break fun D σ H ⟨F, env, W, P, PX, S, hE, p, _, _, _, h1, _⟩ => h1 env W F H σ p S (Le.refl _) hE
theorem S_cnt {pos : Pos} : PS X (.Continue pos) (liftS K B E wCnt) := psW ps_continue fun D σ H ⟨F, env, W, P, PX, S, hE, p, _, _, _, _, h1⟩ => h1 env W F H σ p S (Le.refl _) hE
theorem liftS_seq {a b : WStm} {D : Ends} {σ : L2.St} {H : Hp} (h : liftS K B E (wSeq a b) D σ H) : liftS K B E a { D with nx := liftS K B E b D } σ H := by
  obtain ⟨F, env, W, P, PX, S, hE, h, hX, h1, h2, h3, h4⟩ := h
  exact ⟨F, env, W, _, PX, S, hE, h, hX, fun env1 W1 F1 H1 σ1 p1 S1 l1 e1 => ⟨F1, env1, W1, P, PX, S1, e1, p1, hX.mono l1,
    fun env2 W2 F2 H2 σ2 p2 S2 l2 e2 => h1 env2 W2 F2 H2 σ2 p2 S2 (l1.trans l2) e2, fun d W2 F2 H2 v p2 S2 l2 r2 => h2 d W2 F2 H2 v p2 S2 (l1.trans l2) r2,
    fun env2 W2 F2 H2 σ2 p2 S2 l2 e2 => h3 env2 W2 F2 H2 σ2 p2 S2 (l1.trans l2) e2, fun env2 W2 F2 H2 σ2 p2 S2 l2 e2 => h4 env2 W2 F2 H2 σ2 p2 S2 (l1.trans l2) e2⟩, h2, h3, h4⟩
theorem S_cons {st : Stmt} {r : List Stmt} {a b : WStm} (h1 : PS X st (liftS K B E a)) (h2 : PSs X r (liftS K B E b)) : PSs X (st :: r) (liftS K B E (wSeq a b)) :=
  pssW (pss_cons h1 h2) fun D σ H h => liftS_seq h
theorem S_asg {tg e : Expr} {t : WE} {g : Tg} {pos : Pos} (he : PE X e (liftE K B E t)) (hg : PG X tg (liftG K B g)) (hs : swapsWithSole [tg] e pos.line X.env = pure false) (hw : swappedStores [tg] e X.env = pure none) (h1 : (assignEach [tg] X.env).map (·.2) = [assign tg X.env]) :
    PS X (.Assign [tg] e pos) (liftS K B E (wAsg t g)) :=
  psW (ps_asg he hg hs hw h1) fun D σ H ⟨F, env, W, P, PX, S, hE, h, hX, h1, h2, h3, h4⟩ =>
    ⟨F, env, W, _, PX, S, hE, h, hX, fun d env1 W1 F1 H1 v p1 S1 l1 e1 r1 => ⟨F1, env1, W1, d, _, S1, e1, r1, p1, fun env2 σ2 p2 e2 _ => h1 env2 W1 F1 H1 σ2 p2 S1 l1 e2⟩⟩
theorem S_drop {e : Expr} {t : WE} {pos : Pos} (he : PE X e (liftE K B E t)) (hs : swapsWith e none pos.line X.env = pure false) : PS X (.Expr e pos) (liftS K B E (wDrop t)) :=
  psW (ps_expr he hs) fun D σ H ⟨F, env, W, P, PX, S, hE, h, hX, h1, h2, h3, h4⟩ => ⟨F, env, W, _, PX, S, hE, h, hX, fun d env1 W1 F1 H1 v p1 S1 l1 e1 r1 => h1 env1 W1 F1 H1 σ p1 S1 l1 e1⟩
theorem S_ret {e : Expr} {t : WE} {pos : Pos} (he : PE X e (liftE K B E t)) : PS X (.Return (some e) pos) (liftS K B E (wRet t)) :=
  psW (ps_ret he) fun D σ H ⟨F, env, W, P, PX, S, hE, h, hX, h1, h2, h3, h4⟩ => ⟨F, env, W, _, PX, S, hE, h, hX, fun d env1 W1 F1 H1 v p1 S1 l1 e1 r1 => h2 d W1 F1 H1 v p1 S1 l1 r1⟩
theorem S_retN {pos : Pos} : PS X (.Return none pos) (liftS K B E wRetN) :=
  psW ps_retN fun D σ H ⟨F, env, W, P, PX, S, hE, p, hX, h1, h2, h3, h4⟩ => h2 .non W F H .non p S (Le.refl _) .non
theorem S_if {c : Expr} {a b : List Stmt} {t : WT} {u v : WStm} {pos : Pos} (hc : PT X c (liftT K B E t)) (ha : PSs X a (liftS K B E u)) (hb : PSs X b (liftS K B E v)) : PS X (.If c a b pos) (liftS K B E (wIf t u v)) :=
  psW (ps_if hc ha hb) fun D σ H ⟨F, env, W, P, PX, S, hE, h, hX, h1, h2, h3, h4⟩ => by
    refine ⟨F, env, W, _, PX, S, hE, h, hX, fun c env1 W1 F1 H1 p1 S1 l1 e1 => ?_⟩
    have go : ∀ w : WStm, w PX P env1 W1 → liftS K B E w D σ H1 := fun w q => ⟨F1, env1, W1, P, PX, S1, e1, q, hX.mono l1,
      fun env2 W2 F2 H2 σ2 p2 S2 l2 e2 => h1 env2 W2 F2 H2 σ2 p2 S2 (l1.trans l2) e2, fun d W2 F2 H2 v p2 S2 l2 r2 => h2 d W2 F2 H2 v p2 S2 (l1.trans l2) r2,
      fun env2 W2 F2 H2 σ2 p2 S2 l2 e2 => h3 env2 W2 F2 H2 σ2 p2 S2 (l1.trans l2) e2, fun env2 W2 F2 H2 σ2 p2 S2 l2 e2 => h4 env2 W2 F2 H2 σ2 p2 S2 (l1.trans l2) e2⟩
    cases c with
    | true => exact iteT (go u p1)
    | false => exact iteF (go v p1)
end
end
end DL

set_option maxRecDepth 100000
set_option maxHeartbeats 2000000
set_option linter.all false
namespace DL
open PySem PySem.Spec PyProof.Rows L2
/-! ## what a loop walks -/
def ItOk (K : Fg) (B : Base) (J : It) (ds : List D) (F0 : Hp) : Prop := ∀ (i : Nat) (F : Hp) (W : WS) (H : Hp), Le F0 F → Stt K B F W H →
  (∀ d, ds[i]? = some d → J.go i H ∧ ∀ x H', J.yld i H x H' → ∃ F', Stt K ⟨H, W, F⟩ F' W H' ∧ Rep K F' d x) ∧ (ds[i]? = none → J.stop i H)
abbrev WI := XP → DEnv → WS → (List D → DEnv → WS → Prop) → Prop
def liftI (K : Fg) (B : Base) (E : XK) (t : WI) : TI := fun σ H R => ∃ F env W P PX, Stt K B F W H ∧ EnvOk K F σ env ∧ t PX env W P ∧ XOk K B E F PX ∧
  ∀ ds env' W' F' H' J, P ds env' W' → Stt K B F' W' H' → Le F F' → EnvOk K F' σ env' → ItOk K B J ds F' → R J H'
theorem piW {X : Cx} {tg e : Expr} {t t' : TI} (h : PI X tg e t) (hw : ∀ σ H R, t' σ H R → t σ H R) : PI X tg e t' := ⟨fun pins s σ H R I q => h.run pins s σ H R I (hw σ H R q)⟩
def forW (g : Tg) (b : WStm) (PX : XP) (P : WEnds) : List D → DEnv → WS → Prop
  | [], env, W => P.nx env W
  | d :: ds, env, W => bindG g d env fun env1 => b PX { P with nx := forW g b PX P ds, ct := forW g b PX P ds, bk := P.nx } env1 W
def wFor (t : WI) (g : Tg) (b : WStm) : WStm := fun PX P env W => t PX env W fun ds env1 W1 => forW g b PX P ds env1 W1
section
variable {X : Cx} {B : Base} {E : XK} {K : Fg}
theorem drop_get {ds : List D} {i : Nat} {d : D} (h : ds[i]? = some d) : ds.drop i = d :: ds.drop (i + 1) := by
  obtain ⟨hl, e⟩ := List.getElem?_eq_some_iff.mp h
  rw [List.drop_eq_getElem_cons hl, e]
/-- the loop's ends, told at F -/
structure EndsOk (K : Fg) (B : Base) (F : Hp) (P : WEnds) (D : Ends) : Prop where
  nx : ∀ env' W' F' H' σ', P.nx env' W' → Stt K B F' W' H' → Le F F' → EnvOk K F' σ' env' → D.nx σ' H'
  rt : ∀ d W' F' H' v, P.rt d W' → Stt K B F' W' H' → Le F F' → Rep K F' d v → D.rt v H'
  bk : ∀ env' W' F' H' σ', P.bk env' W' → Stt K B F' W' H' → Le F F' → EnvOk K F' σ' env' → D.bk σ' H'
  ct : ∀ env' W' F' H' σ', P.ct env' W' → Stt K B F' W' H' → Le F F' → EnvOk K F' σ' env' → D.ct σ' H'
theorem for_go {J : It} {ds : List D} {F : Hp} (hJ : ItOk K B J ds F) {g : Tg} {b : WStm} {PX : XP} {P : WEnds} {D : Ends} {σ : L2.St} {H1 : Hp} {env : DEnv} {W : WS} (S : Stt K B F W H1) (hE : EnvOk K F σ env) (hX : XOk K B E F PX) (hw : forW g b PX P ds env W) (hD : EndsOk K B F P D) :
    ∃ Wv : Nat → Nat → L2.St → Hp → Prop, (∃ m, Wv 0 m σ H1) ∧ ∀ i m σ H, Wv i m σ H → (J.stop i H ∧ D.nx σ H) ∨ (J.go i H ∧ ∃ N : L2.St → Hp → Prop, (∀ σ' H', N σ' H' → ∃ m', m' < m ∧ Wv (i + 1) m' σ' H') ∧
      ∀ x H', J.yld i H x H' → liftG K B g x σ H' fun σ2 H2 => liftS K B E b { D with nx := N, ct := N, bk := D.nx } σ2 H2) := by
  refine ⟨fun i m σ H => i ≤ ds.length ∧ m = ds.length - i ∧ ∃ F1 env1 W1, Stt K B F1 W1 H ∧ EnvOk K F1 σ env1 ∧ Le F F1 ∧ forW g b PX P (ds.drop i) env1 W1, ⟨ds.length, Nat.zero_le _, by simp, F, env, W, S, hE, Le.refl _, hw⟩, ?_⟩
  rintro i m σ H ⟨hi, rfl, F1, env1, W1, S1, e1, l1, hw1⟩
  obtain ⟨go, stop⟩ := hJ i F1 W1 H l1 S1
  cases hd : ds[i]? with
  | none =>
    have : ds.drop i = [] := List.drop_eq_nil_of_le (List.getElem?_eq_none_iff.mp hd)
    rw [this] at hw1
    exact .inl ⟨stop hd, hD.nx env1 W1 F1 H σ hw1 S1 l1 e1⟩
  | some d =>
    have hlt : i < ds.length := (List.getElem?_eq_some_iff.mp hd).1
    obtain ⟨g1, g2⟩ := go d hd
    rw [drop_get hd] at hw1
    refine .inr ⟨g1, fun σ' H' => ∃ F2 env2 W2, Stt K B F2 W2 H' ∧ EnvOk K F2 σ' env2 ∧ Le F F2 ∧ forW g b PX P (ds.drop (i + 1)) env2 W2, fun σ' H' ⟨F2, env2, W2, S2, e2, l2, w2⟩ => ⟨ds.length - (i + 1), by omega, hlt, rfl, F2, env2, W2, S2, e2, l2, w2⟩, fun x H' y => ?_⟩
    obtain ⟨F2, T2, r2⟩ := g2 x H' y
    have l2 := T2.base
    have S2 := S1.trans T2
    refine ⟨F2, env1, W1, d, _, S2, e1.mono l2, r2, hw1, fun env3 σ3 p3 e3 _ => ?_⟩
    refine ⟨F2, env3, W1, _, PX, S2, e3, p3, hX.mono (l1.trans l2), fun env4 W4 F4 H4 σ4 p4 S4 l4 e4 => ?_, fun d W4 F4 H4 v p4 S4 l4 r4 => hD.rt d W4 F4 H4 v p4 S4 ((l1.trans l2).trans l4) r4, fun env4 W4 F4 H4 σ4 p4 S4 l4 e4 => ?_, fun env4 W4 F4 H4 σ4 p4 S4 l4 e4 => ?_⟩
    · exact ⟨F4, env4, W4, S4, e4, (l1.trans l2).trans l4, p4⟩
    · exact hD.nx env4 W4 F4 H4 σ4 p4 S4 ((l1.trans l2).trans l4) e4
    · exact ⟨F4, env4, W4, S4, e4, (l1.trans l2).trans l4, p4⟩
theorem S_for {tg iter : Expr} {body : List Stmt} {t : WI} {g : Tg} {b : WStm} {pos : Pos} (hp : PassesOwn (model X.prog X.w) X.A X.env X.xe) (hc : X.calm = true) (hi : PI X tg iter (liftI K B E t)) (hg : PG X tg (liftG K B g)) (hb : PSs X body (liftS K B E b))
    (hs : ∀ x, foldedSetIterable iter X.env x = pure x) : PS X (.For tg iter body [] pos) (liftS K B E (wFor t g b)) :=
  psW (ps_for hp hc hi hg hb hs) fun D σ H ⟨F, env, W, P, PX, S, hE, h, hX, h1, h2, h3, h4⟩ =>
    ⟨F, env, W, _, PX, S, hE, h, hX, fun ds env1 W1 F1 H1 J p1 S1 l1 e1 j1 => for_go j1 S1 e1 (hX.mono l1) p1
      ⟨fun env2 W2 F2 H2 σ2 p2 S2 l2 e2 => h1 env2 W2 F2 H2 σ2 p2 S2 (l1.trans l2) e2, fun d W2 F2 H2 v p2 S2 l2 r2 => h2 d W2 F2 H2 v p2 S2 (l1.trans l2) r2,
       fun env2 W2 F2 H2 σ2 p2 S2 l2 e2 => h3 env2 W2 F2 H2 σ2 p2 S2 (l1.trans l2) e2, fun env2 W2 F2 H2 σ2 p2 S2 l2 e2 => h4 env2 W2 F2 H2 σ2 p2 S2 (l1.trans l2) e2⟩⟩
/-! ## lists, tuples, ranges, enumerate, zip -/
theorem itok_lst {a : Addr} {vs : List V} {ds : List D} {F0 : Hp} (h : SqL K F0 a vs) (r : RepL K F0 ds vs) : ItOk K B (Itl K a) ds F0 := fun i F W H l S => by
  have hs := S.sqL (l.sqL h)
  refine ⟨fun d hd => ?_, fun hd => ⟨vs, hs, by rw [← r.length]; exact List.getElem?_eq_none_iff.mp hd⟩⟩
  obtain ⟨v, hv, rv⟩ := r.get hd
  refine ⟨⟨vs, v, hs, hv⟩, fun x H' y => ?_⟩
  obtain ⟨e, y⟩ := y
  subst e
  have := y vs hs
  rw [hv] at this
  cases this
  exact ⟨F, S.self, rv.mono l⟩
theorem itok_tup {a : Addr} {vs : List V} {ds : List D} {F0 : Hp} (h : SqT K F0 a vs) (r : RepL K F0 ds vs) : ItOk K B (Itt K a) ds F0 := fun i F W H l S => by
  have hs := S.sqT (l.sqT h)
  refine ⟨fun d hd => ?_, fun hd => ⟨vs, hs, by rw [← r.length]; exact List.getElem?_eq_none_iff.mp hd⟩⟩
  obtain ⟨v, hv, rv⟩ := r.get hd
  refine ⟨⟨vs, v, hs, hv⟩, fun x H' y => ?_⟩
  obtain ⟨e, y⟩ := y
  subst e
  have := y vs hs
  rw [hv] at this
  cases this
  exact ⟨F, S.self, rv.mono l⟩
def rngD (lo : Int) (n : Nat) : List D := (List.range n).map fun (i : Nat) => D.int (lo + (i : Int))
theorem rngD_get {lo : Int} {n i : Nat} : (rngD lo n)[i]? = if i < n then some (.int (lo + (i : Int))) else none := by
  unfold rngD
  rw [List.getElem?_map]
  by_cases c : i < n
  · rw [if_pos c, List.getElem?_range c]; rfl
  · rw [if_neg c, List.getElem?_eq_none (by rw [List.length_range]; omega)]; rfl
theorem itok_rng {lo : Int} {n : Nat} {F0 : Hp} : ItOk K B (Itr lo n) (rngD lo n) F0 := fun i F W H l S => by
  rw [rngD_get]
  by_cases c : i < n
  · rw [if_pos c]
    refine ⟨fun d hd => ⟨c, fun x H' y => ?_⟩, fun hd => nomatch hd⟩
    obtain ⟨e1, e2⟩ := y
    subst e1 e2
    cases hd
    exact ⟨F, S.self, .int _⟩
  · rw [if_neg c]
    exact ⟨fun d hd => (nomatch hd), fun _ => Nat.le_of_not_lt c⟩

/-- a list or a tuple is walked -/
def iAny (K : Fg) (te : TE) : TI := fun σ H R => te σ H fun x H1 => ∃ a, x = .ref a ∧ ((∃ xs, SqL K H1 a xs ∧ R (Itl K a) H1) ∨ ∃ xs, SqT K H1 a xs ∧ R (Itt K a) H1)
theorem pi_any {tg e : Expr} {te : TE} (he : PE X e te) : PI X tg e (iAny X.K te) := by
  refine ⟨fun pins s σ H R I h => ?_⟩
  refine thn (he.run pins s σ H _ I h) fun v s1 ⟨x, H1, I1, r1, a, ex, q⟩ => ?_
  subst ex
  obtain rfl : v = Value.ref a := r1
  rcases q with ⟨xs, hq, q⟩ | ⟨xs, hq, q⟩
  · obtain ⟨its, rv, p, hz⟩ := I1.list hq
    exact wpAny_pyIter_list p.isList (pi_one (tk := s1.toks) I1 _ (turn_list a _) ⟨_, Heap.get?_push_size _ rfl, rfl, rfl⟩ q)
  · obtain ⟨its, rv, p, hz⟩ := I1.tuple hq
    exact wpAny_pyIter_tuple (show s1.heap.IsTuple a its.toArray from p) (pi_one (tk := s1.toks) I1 _ (turn_tuple a _) ⟨_, Heap.get?_push_size _ rfl, rfl, rfl⟩ q)
def seqD : D → Option (List D)
  | .lst ds => some ds
  | .klst ds => some ds
  | .tup ds => some ds
  | .ktup ds => some ds
  | .ptup ds => some ds
  | _ => none
def wIter (t : WE) : WI := fun PX env W P => t PX env W fun d env1 W1 => ∃ ds, seqD d = some ds ∧ P ds env1 W1
theorem i_iter {tg e : Expr} {t : WE} (he : PE X e (liftE X.K B E t)) : PI X tg e (liftI X.K B E (wIter t)) :=
  piW (pi_any he) fun σ H R ⟨F, env, W, P, PX, S, hE, h, hX, hQ⟩ => by
    refine ⟨F, env, W, _, PX, S, hE, h, hX, fun d env1 W1 F1 H1 v ⟨ds, hd, p1⟩ S1 l1 e1 r1 => ?_⟩
    cases d with
    | lst es => cases hd; cases r1 with
      | lst hF rl => exact ⟨_, rfl, .inl ⟨_, .inl (.inl (S1.sub _ _ hF)), hQ _ env1 W1 F1 H1 _ p1 S1 l1 e1 (itok_lst (.inl (.inl hF)) rl)⟩⟩
    | klst es => cases hd; cases r1 with
      | klst hF rl => exact ⟨_, rfl, .inl ⟨_, S1.sqL hF, hQ _ env1 W1 F1 H1 _ p1 S1 l1 e1 (itok_lst hF rl)⟩⟩
    | tup es => cases hd; cases r1 with
      | tup hF rl => exact ⟨_, rfl, .inr ⟨_, .inl (.inl (S1.sub _ _ hF)), hQ _ env1 W1 F1 H1 _ p1 S1 l1 e1 (itok_tup (.inl (.inl hF)) rl)⟩⟩
    | ptup es => cases hd; cases r1 with
      | ptup _ _ hF rl => exact ⟨_, rfl, .inr ⟨_, .inl (.inr ⟨_, S1.sub _ _ hF⟩), hQ _ env1 W1 F1 H1 _ p1 S1 l1 e1 (itok_tup (.inl (.inr ⟨_, hF⟩)) rl)⟩⟩
    | ktup es => cases hd; cases r1 with
      | ktup hF rl =>
        have hs : ∀ F', SqT X.K F' _ _ := fun F' => hF.elim (fun z => z.elim (fun q => nomatch q) fun ⟨_, q⟩ => nomatch q) .inr
        exact ⟨_, rfl, .inr ⟨_, hs _, hQ _ env1 W1 F1 H1 _ p1 S1 l1 e1 (itok_tup (hs F1) rl)⟩⟩
    | _ => cases hd
/-- range(n), range(a, b) -/
def smallR (i : Int) : Prop := -(2 ^ 62) ≤ i ∧ i < 2 ^ 62
def wRng1 (ta : WA) : WI := fun PX env W P => ta PX env W fun ds env1 W1 => match ds with
  | [.int j] => smallR j ∧ P (rngD 0 j.toNat) env1 W1
  | _ => False
def wRng2 (ta : WA) : WI := fun PX env W P => ta PX env W fun ds env1 W1 => match ds with
  | [.int i, .int j] => smallR i ∧ smallR j ∧ P (rngD i (j - i).toNat) env1 W1
  | _ => False
theorem i_rng1 {tg a : Expr} {t : WA} {p pos : Pos} (hg : Gl X "range") (hm : X.mg "range" = none) (ha : PA X [a] (liftA X.K B E t)) (hs : starEach [a] X.env = [(false, eval a X.env)]) : PI X tg (.Call (.Name "range" p) [a] [] pos) (liftI X.K B E (wRng1 t)) :=
  piW (pi_range1 hg hm ha hs) fun σ H R ⟨F, env, W, P, PX, S, hE, h, hX, hQ⟩ =>
    ⟨F, env, W, _, PX, S, hE, h, hX, fun ds env1 W1 F1 H1 vs p1 S1 l1 e1 r1 => by
      split at p1
      · obtain ⟨v, rfl, rv⟩ := repL1 r1
        cases rv
        exact ⟨_, rfl, p1.1.1, p1.1.2, hQ _ env1 W1 F1 H1 _ p1.2 S1 l1 e1 itok_rng⟩
      · exact p1.elim⟩
theorem i_rng2 {tg a b : Expr} {t : WA} {p pos : Pos} (hg : Gl X "range") (hm : X.mg "range" = none) (ha : PA X [a, b] (liftA X.K B E t)) (hs : starEach [a, b] X.env = [(false, eval a X.env), (false, eval b X.env)]) (hs2 : starEach [b] X.env = [(false, eval b X.env)]) :
    PI X tg (.Call (.Name "range" p) [a, b] [] pos) (liftI X.K B E (wRng2 t)) :=
  piW (pi_range2 hg hm ha hs hs2) fun σ H R ⟨F, env, W, P, PX, S, hE, h, hX, hQ⟩ =>
    ⟨F, env, W, _, PX, S, hE, h, hX, fun ds env1 W1 F1 H1 vs p1 S1 l1 e1 r1 => by
      split at p1
      · obtain ⟨v, w', rfl, rv, rw'⟩ := repL2 r1
        cases rv; cases rw'
        exact ⟨_, _, rfl, ⟨p1.1.1, p1.1.2, p1.2.1.1, p1.2.1.2⟩, hQ _ env1 W1 F1 H1 _ p1.2.2 S1 l1 e1 itok_rng⟩
      · exact p1.elim⟩
/-- enumerate(xs), zip(xs, ys) of lists -/
def enumD : Nat → List D → List D
  | _, [] => []
  | n, d :: ds => .tup [.int (n : Int), d] :: enumD (n + 1) ds
theorem enumD_get : ∀ (n : Nat) (ds : List D) (i : Nat), (enumD n ds)[i]? = (ds[i]?).map fun d => .tup [.int ((n + i : Nat) : Int), d]
  | _, [], i => by simp [enumD]
  | n, d :: ds, 0 => by simp [enumD]
  | n, d :: ds, i + 1 => by
    have ih := enumD_get (n + 1) ds i
    show (enumD (n + 1) ds)[i]? = _
    rw [ih, show n + 1 + i = n + (i + 1) by omega]
    rfl
theorem itok_enum {a : Addr} {vs : List V} {ds : List D} {F0 : Hp} (h : SqL K F0 a vs) (r : RepL K F0 ds vs) : ItOk K B (Ite K a) (enumD 0 ds) F0 := fun i F W H l S => by
  have hs := S.sqL (l.sqL h)
  rw [enumD_get]
  refine ⟨fun d hd => ?_, fun hd => ⟨vs, hs, ?_⟩⟩
  · cases e : ds[i]? with
    | none => rw [e] at hd; cases hd
    | some d0 =>
      rw [e] at hd
      cases hd
      obtain ⟨v, hv, rv⟩ := r.get e
      refine ⟨⟨vs, v, hs, hv⟩, fun x H' y => ?_⟩
      obtain ⟨T, z, e1, hT, e2, y⟩ := y
      subst e1 e2
      have := y vs hs
      rw [hv] at this
      cases this
      have l2 := Le.upd (o := .tup [.int (i : Nat), v]) (S.newF hT)
      refine ⟨_, S.self.alloc hT, .tup upd_same (.cons ?_ (.cons ((rv.mono l).mono l2) .nil))⟩
      rw [Nat.zero_add]
      exact .int _
  · cases e : ds[i]? with
    | none => rw [← r.length]; exact List.getElem?_eq_none_iff.mp e
    | some d0 => rw [e] at hd; cases hd
def zipD : List D → List D → List D
  | d :: ds, e :: es => .tup [d, e] :: zipD ds es
  | _, _ => []
theorem zipD_some : ∀ {ds es : List D} {i : Nat} {d : D}, (zipD ds es)[i]? = some d → ∃ x y, ds[i]? = some x ∧ es[i]? = some y ∧ d = .tup [x, y]
  | [], _, _, _, h => by simp [zipD] at h
  | _ :: _, [], _, _, h => by simp [zipD] at h
  | x :: ds, y :: es, 0, d, h => by simp [zipD] at h; exact ⟨x, y, rfl, rfl, h.symm⟩
  | x :: ds, y :: es, i + 1, d, h => by
    obtain ⟨u, v, h1, h2, h3⟩ := zipD_some (ds := ds) (es := es) (i := i) (d := d) (by simpa [zipD] using h)
    exact ⟨u, v, by simpa using h1, by simpa using h2, h3⟩
theorem zipD_none : ∀ {ds es : List D} {i : Nat}, (zipD ds es)[i]? = none → ds.length ≤ i ∨ es.length ≤ i
  | [], _, _, _ => .inl (Nat.zero_le _)
  | _ :: _, [], _, _ => .inr (Nat.zero_le _)
  | x :: ds, y :: es, 0, h => by simp [zipD] at h
  | x :: ds, y :: es, i + 1, h => by
    rcases zipD_none (ds := ds) (es := es) (i := i) (by simpa [zipD] using h) with q | q
    · exact .inl (Nat.succ_le_succ q)
    · exact .inr (Nat.succ_le_succ q)
theorem itok_zip {a b : Addr} {vs us : List V} {ds es : List D} {F0 : Hp} (h : SqL K F0 a vs) (r : RepL K F0 ds vs) (h' : SqL K F0 b us) (r' : RepL K F0 es us) : ItOk K B (Itz K a b) (zipD ds es) F0 := fun i F W H l S => by
  have hs := S.sqL (l.sqL h)
  have hs' := S.sqL (l.sqL h')
  refine ⟨fun d hd => ?_, fun hd => ⟨vs, us, hs, hs', by rw [← r.length, ← r'.length]; exact zipD_none hd⟩⟩
  obtain ⟨x, y, e1, e2, rfl⟩ := zipD_some hd
  obtain ⟨v, hv, rv⟩ := r.get e1
  obtain ⟨u, hu, ru⟩ := r'.get e2
  refine ⟨⟨vs, us, v, u, hs, hs', hv, hu⟩, fun z H' q => ?_⟩
  obtain ⟨T, z1, z2, q1, hT, q2, q3, q4⟩ := q
  subst q1 q2
  have t1 := q3 vs hs
  have t2 := q4 us hs'
  rw [hv] at t1
  rw [hu] at t2
  cases t1; cases t2
  have l2 := Le.upd (o := .tup [v, u]) (S.newF hT)
  exact ⟨_, S.self.alloc hT, .tup upd_same (.cons ((rv.mono l).mono l2) (.cons ((ru.mono l).mono l2) .nil))⟩
def lstD : D → Option (List D)
  | .lst ds => some ds
  | .klst ds => some ds
  | _ => none
theorem lstD_rep {F : Hp} {d : D} {v : V} {ds : List D} (r : Rep K F d v) (h : lstD d = some ds) : ∃ a vs, v = .ref a ∧ SqL K F a vs ∧ RepL K F ds vs := by
  cases d with
  | lst es => cases h; cases r with
    | lst hF rl => exact ⟨_, _, rfl, .inl (.inl hF), rl⟩
  | klst es => cases h; cases r with
    | klst hF rl => exact ⟨_, _, rfl, hF, rl⟩
  | _ => cases h
def wEnum (ta : WA) : WI := fun PX env W P => ta PX env W fun ds env1 W1 => match ds with
  | [d] => ∃ es, lstD d = some es ∧ P (enumD 0 es) env1 W1
  | _ => False
def wZip (ta : WA) : WI := fun PX env W P => ta PX env W fun ds env1 W1 => match ds with
  | [d, e] => ∃ xs ys, lstD d = some xs ∧ lstD e = some ys ∧ P (zipD xs ys) env1 W1
  | _ => False
theorem i_enum {e : Expr} {t : WA} {p pos tpos : Pos} {elts : List Expr} {kk : Nat} (hg : Gl X "enumerate") (hm : X.mg "enumerate" = none) (ha : PA X [e] (liftA X.K B E t)) (hs : starEach [e] X.env = [(false, eval e X.env)]) :
    PI X (.Tuple elts kk tpos) (.Call (.Name "enumerate" p) [e] [] pos) (liftI X.K B E (wEnum t)) :=
  piW (pi_enum hg hm ha hs) fun σ H R ⟨F, env, W, P, PX, S, hE, h, hX, hQ⟩ =>
    ⟨F, env, W, _, PX, S, hE, h, hX, fun ds env1 W1 F1 H1 vs p1 S1 l1 e1 r1 => by
      split at p1
      · obtain ⟨v, rfl, rv⟩ := repL1 r1
        obtain ⟨es, hd, p1⟩ := p1
        obtain ⟨a, us, rfl, hs, rl⟩ := lstD_rep rv hd
        exact ⟨a, us, rfl, S1.sqL hs, hQ _ env1 W1 F1 H1 _ p1 S1 l1 e1 (itok_enum hs rl)⟩
      · exact p1.elim⟩
theorem i_zip {e e2 : Expr} {t : WA} {p pos tpos : Pos} {elts : List Expr} {kk : Nat} (hg : Gl X "zip") (hm : X.mg "zip" = none) (ha : PA X [e, e2] (liftA X.K B E t)) (hs : starEach [e, e2] X.env = (false, eval e X.env) :: starEach [e2] X.env) (hpl : (backTo pos (starEach [e2] X.env)).any (·.1) = false) :
    PI X (.Tuple elts kk tpos) (.Call (.Name "zip" p) [e, e2] [] pos) (liftI X.K B E (wZip t)) :=
  piW (pi_zip hg hm ha hs hpl) fun σ H R ⟨F, env, W, P, PX, S, hE, h, hX, hQ⟩ =>
    ⟨F, env, W, _, PX, S, hE, h, hX, fun ds env1 W1 F1 H1 vs p1 S1 l1 e1 r1 => by
      split at p1
      · obtain ⟨v, w', rfl, rv, rw'⟩ := repL2 r1
        obtain ⟨xs, ys, hd, he, p1⟩ := p1
        obtain ⟨a, us, rfl, hs, rl⟩ := lstD_rep rv hd
        obtain ⟨b, us', rfl, hs', rl'⟩ := lstD_rep rw' he
        exact ⟨a, b, us, us', rfl, S1.sqL hs, S1.sqL hs', hQ _ env1 W1 F1 H1 _ p1 S1 l1 e1 (itok_zip hs rl hs' rl')⟩
      · exact p1.elim⟩
end
end DL

set_option maxRecDepth 100000
set_option maxHeartbeats 2000000
set_option linter.all false
namespace DL
open PySem PySem.Spec PyProof.Rows L2
section
variable {X : Cx} {B : Base} {E : XK} {K : Fg}
/-! ## a dict under a lock -/
def tLkE (X : Cx) (td : TE) : TE := fun σ H Q => td σ H fun x H1 => ∃ d, x = .ref d ∧ ((∃ o kvs, H1 d = some (.frz o (.dK kvs)) ∧ Q x H1) ∨
  ∃ kvs, H1 d = some (.dK kvs) ∧ ∀ od, (∀ o' u', X.H_0 d ≠ some (.frz o' u')) → Q x (upd H1 d (.frz od (.dK kvs))))
theorem pe_lk {e : Expr} {td : TE} (he : PE X e td) : PE X e (tLkE X td) := by
  refine ⟨fun pins s σ H Q I h => thn (he.run pins s σ H _ I h) fun v s1 ⟨x, H1, I1, r, d, ex, q⟩ => ?_⟩
  rcases q with ⟨o, kvs, hd, q⟩ | ⟨kvs, hd, q⟩
  · exact ⟨x, H1, I1, r, q⟩
  · obtain ⟨od, I2⟩ := I1.lock hd True.intro
    exact ⟨x, _, I2, r, q od (I1.nofrz hd True.intro)⟩
/-- the ends, perhaps under a lock -/
def Ulk (X : Cx) (Q : Hp → Prop) (H' : Hp) : Prop := Q H' ∨ ∃ d od u, H' d = some (.frz od u) ∧ (∀ o' u', X.H_0 d ≠ some (.frz o' u')) ∧ Q (upd H' d u)
def ulkD (X : Cx) (D : Ends) : Ends := ⟨fun σ' H' => Ulk X (D.nx σ') H', fun v H' => Ulk X (D.rt v) H', fun σ' H' => Ulk X (D.bk σ') H', fun σ' H' => Ulk X (D.ct σ') H'⟩
theorem ulk_run {pins : List (Addr × Obj)} {σ : L2.St} {H' : Hp} {s : Shared} {Q : Hp → Prop} (I : Inv X pins σ H' s) (h : Ulk X Q H') : ∃ H2, Inv X pins σ H2 s ∧ Q H2 := by
  rcases h with q | ⟨d, od, u, hd, hn, q⟩
  · exact ⟨H', I, q⟩
  · exact ⟨_, I.unlock hd hn, q⟩
theorem psUlk {st : Stmt} {t : TS} (h : PS X st t) : PS X st (fun D σ H => t (ulkD X D) σ H) := by
  refine ⟨fun pins s σ H D I hw => thn (h.run pins s σ H _ I hw) fun f s1 q => ?_⟩
  cases f with
  | next => obtain ⟨σ', H', J, q⟩ := q; obtain ⟨H2, J2, q2⟩ := ulk_run J q; exact ⟨σ', H2, J2, q2⟩
  | brk => obtain ⟨σ', H', J, q⟩ := q; obtain ⟨H2, J2, q2⟩ := ulk_run J q; exact ⟨σ', H2, J2, q2⟩
  | cont => obtain ⟨σ', H', J, q⟩ := q; obtain ⟨H2, J2, q2⟩ := ulk_run J q; exact ⟨σ', H2, J2, q2⟩
  | ret v => obtain ⟨x, σ', H', J, r, q⟩ := q; obtain ⟨H2, J2, q2⟩ := ulk_run J q; exact ⟨x, σ', H2, J2, r, q2⟩
theorem peUlk {e : Expr} {t : TE} (h : PE X e t) : PE X e (fun σ H Q => t σ H fun v H' => Ulk X (Q v) H') := by
  refine ⟨fun pins s σ H Q I hw => thn (h.run pins s σ H _ I hw) fun v s1 ⟨x, H1, J, r, q⟩ => ?_⟩
  obtain ⟨H2, J2, q2⟩ := ulk_run J q
  exact ⟨x, H2, J2, r, q2⟩
theorem Le.lock {F : Hp} {d : Addr} {kvs : List (Key × V)} {od : Obj} (h : F d = some (.dK kvs)) : Le F (L2.upd F d (.frz od (.dK kvs))) where
  rd := fun a u n r => by
    by_cases c : a = d
    · subst c
      rcases r with r | ⟨o, r⟩
      · rw [h] at r; cases r; exact .inr ⟨od, upd_same⟩
      · rw [h] at r; cases r
    · rcases r with r | ⟨o, r⟩
      · exact .inl (by rw [upd_ne c]; exact r)
      · exact .inr ⟨o, by rw [upd_ne c]; exact r⟩
  ins := fun a C dx fs r => by rw [upd_ne (fun c => by rw [c, h] at r; cases r)]; exact r
  tup := fun a vs r => by rw [upd_ne (fun c => by rw [c, h] at r; cases r)]; exact r
  lst := fun a vs r => by rw [upd_ne (fun c => by rw [c, h] at r; cases r)]; exact r
  ptu := fun a o vs r => by rw [upd_ne (fun c => by rw [c, h] at r; cases r)]; exact r
theorem Le.unlock {F : Hp} {d : Addr} {kvs : List (Key × V)} {od : Obj} (h : F d = some (.frz od (.dK kvs))) : Le F (L2.upd F d (.dK kvs)) where
  rd := fun a u n r => by
    by_cases c : a = d
    · subst c
      rcases r with r | ⟨o, r⟩
      · rw [h] at r; cases r; exact absurd rfl (n _ _)
      · rw [h] at r; cases r; exact .inl upd_same
    · rcases r with r | ⟨o, r⟩
      · exact .inl (by rw [upd_ne c]; exact r)
      · exact .inr ⟨o, by rw [upd_ne c]; exact r⟩
  ins := fun a C dx fs r => by rw [upd_ne (fun c => by rw [c, h] at r; cases r)]; exact r
  tup := fun a vs r => by rw [upd_ne (fun c => by rw [c, h] at r; cases r)]; exact r
  lst := fun a vs r => by rw [upd_ne (fun c => by rw [c, h] at r; cases r)]; exact r
  ptu := fun a o vs r => by rw [upd_ne (fun c => by rw [c, h] at r; cases r)]; exact r
section
variable {F1 F2 H1 H2 : Hp} {W1 W2 : WS} {d : Addr} {kvs : List (Key × V)} {od : Obj}
theorem Stt.lock (S : Stt K B F1 W1 H1) (h : F1 d = some (.dK kvs)) : Stt K ⟨upd H1 d (.frz od (.dK kvs)), W1, upd F1 d (.frz od (.dK kvs))⟩ (upd F1 d (.frz od (.dK kvs))) W1 (upd H1 d (.frz od (.dK kvs))) where
  sub := fun a o e => by
    by_cases c : a = d
    · subst c; rw [upd_same] at e ⊢; exact e
    · rw [upd_ne c] at e ⊢; exact S.sub a o e
  obj := fun a ob e => by
    obtain ⟨g1, o, g2, g3⟩ := S.obj a ob e
    have c : a ≠ d := fun c => by rw [c, h] at g1; cases g1
    exact ⟨by rw [upd_ne c]; exact g1, o, by rw [upd_ne c]; exact g2, g3.mono (Le.lock h)⟩
  old := fun a o e hw => ⟨hw, e, id⟩
  dom := fun a e => e
  base := Le.refl _
theorem Stt.unlock (S : Stt K B F1 W1 H1) (h : F1 d = some (.dK kvs)) (T : Stt K ⟨upd H1 d (.frz od (.dK kvs)), W1, upd F1 d (.frz od (.dK kvs))⟩ F2 W2 H2) :
    H2 d = some (.frz od (.dK kvs)) ∧ F2 d = some (.frz od (.dK kvs)) ∧ Le F1 (upd F2 d (.dK kvs)) ∧ Stt K B (upd F2 d (.dK kvs)) W2 (upd H2 d (.dK kvs)) := by
  have hd1 := S.sub d _ h
  have hw1 : W1 d = none := by
    cases e : W1 d with
    | none => rfl
    | some ob => rw [(S.obj d ob e).1] at h; cases h
  obtain ⟨hw2, hH2, _⟩ := T.old d (.frz od (.dK kvs)) upd_same hw1
  have hF2 : F2 d = some (.frz od (.dK kvs)) := by
    have r : Rd F2 d (.dK kvs) := T.base.rd d _ nf_dK (.inr ⟨od, upd_same⟩)
    rcases r with r | ⟨o, r⟩
    · have := T.sub d _ r; rw [hH2] at this; cases this
    · have := T.sub d _ r; rw [hH2] at this; cases this; exact r
  refine ⟨hH2, hF2, ((Le.lock h).trans T.base).trans (Le.unlock hF2), fun a o e => ?_, fun a ob e => ?_, fun a o e hw => ?_, fun a e => ?_, ?_⟩
  · by_cases c : a = d
    · subst c; rw [upd_same] at e ⊢; exact e
    · rw [upd_ne c] at e ⊢; exact T.sub a o e
  · obtain ⟨g1, o, g2, g3⟩ := T.obj a ob e
    have c : a ≠ d := fun c => by rw [c, hF2] at g1; cases g1
    exact ⟨by rw [upd_ne c]; exact g1, o, by rw [upd_ne c]; exact g2, g3.mono (Le.unlock hF2)⟩
  · obtain ⟨g1, g2, g5⟩ := S.old a o e hw
    by_cases c : a = d
    · subst c
      rw [hd1] at g2
      cases g2
      exact ⟨hw2, upd_same, fun z => by rw [g5 z] at h; cases h⟩
    · obtain ⟨g3, g4, g6⟩ := T.old a o (by show upd H1 d _ a = _; rw [upd_ne c]; exact g2) g1
      exact ⟨g3, by rw [upd_ne c]; exact g4, fun z => by rw [upd_ne c]; exact g6 (by show upd F1 d _ a = _; rw [upd_ne c]; exact g5 z)⟩
  · by_cases c : a = d
    · subst c; rw [upd_same] at e; cases e
    · rw [upd_ne c] at e
      have := T.dom a e
      have q : upd H1 d (.frz od (.dK kvs)) a = none := this
      rw [upd_ne c] at q
      exact S.dom a q
  · exact S.base.trans (((Le.lock h).trans T.base).trans (Le.unlock hF2))
end
/-! ## d.items() walked -/
def kD : Key → D
  | .inl i => .int i
  | .inr x => .str x
def itemsD (ds : List (Key × D)) : List D := ds.map fun p => .tup [kD p.1, p.2]
theorem kD_rep {F : Hp} : ∀ k : Key, Rep K F (kD k) (kV k)
  | .inl _ => .int _
  | .inr _ => .str _
theorem keys_get {α β γ : Type} : ∀ {l : List (α × β)} {ds : List (α × γ)} {i : Nat} {p : α × γ}, l.map (·.1) = ds.map (·.1) → ds[i]? = some p → ∃ q, l[i]? = some q ∧ q.1 = p.1 := fun {l ds i p} h e => by
  have h1 : (ds.map (·.1))[i]? = some p.1 := by rw [List.getElem?_map, e]; rfl
  rw [← h, List.getElem?_map] at h1
  cases q : l[i]? with
  | none => rw [q] at h1; cases h1
  | some z => rw [q] at h1; exact ⟨z, rfl, Option.some.inj h1⟩
theorem itok_items {d : Addr} {o : Obj} {kvs : List (Key × V)} {ds : List (Key × D)} {F0 : Hp} (hB : B.H0 d = some (.frz o (.dK kvs))) (hw : B.W0 d = none) (hk : kvs.map (·.1) = ds.map (·.1)) (r : RepL K F0 (ds.map (·.2)) (kvs.map (·.2))) :
    ItOk K B (Iti d o kvs) (itemsD ds) F0 := fun i F W H l S => by
  have hd := (S.old d _ hB hw).2.1
  unfold itemsD
  rw [List.getElem?_map]
  refine ⟨fun x hx => ?_, fun hx => ⟨hd, ?_⟩⟩
  · cases e : ds[i]? with
    | none => rw [e] at hx; cases hx
    | some p =>
      rw [e] at hx
      cases hx
      obtain ⟨q, hq, qe⟩ := keys_get hk e
      have hv : (ds.map (·.2))[i]? = some p.2 := by rw [List.getElem?_map, e]; rfl
      obtain ⟨v, hv2, rv⟩ := r.get hv
      have hv3 : q.2 = v := by
        rw [List.getElem?_map, hq] at hv2
        exact Option.some.inj hv2
      refine ⟨⟨hd, (List.getElem?_eq_some_iff.mp hq).1⟩, fun x H' y => ?_⟩
      obtain ⟨T, k, w', y1, y2, hT, y3⟩ := y
      subst y2 y3
      rw [hq] at y1
      cases y1
      have l2 := Le.upd (o := .tup [kV k, w']) (S.newF hT)
      refine ⟨_, S.self.alloc hT, .tup upd_same (.cons ?_ (.cons ?_ .nil))⟩
      · rw [← qe]; exact kD_rep k
      · have e2 : w' = v := hv3
        subst e2
        exact (rv.mono l).mono l2
  · cases e : ds[i]? with
    | none =>
      have := List.getElem?_eq_none_iff.mp e
      rw [← len_keys hk] at this
      exact this
    | some p => rw [e] at hx; cases hx
def dkD : D → Option (List (Key × D))
  | .dK ds => some ds
  | _ => none
def noX : XP := fun _ _ _ => False
theorem noX_ok {F : Hp} {E : XK} : XOk K B E F noX := fun _ _ _ _ _ _ _ _ _ h => h.elim
/-- for .. in d.items() -/
def wForIt (t : WE) (g : Tg) (b : WStm) : WStm := fun PX P env W => t PX env W fun d env1 W1 => ∃ ds, dkD d = some ds ∧ forW g b noX P (itemsD ds) env1 W1
theorem liftG_mono {g : Tg} {x : V} {σ : L2.St} {H : Hp} {Q Q' : L2.St → Hp → Prop} (h : liftG K B g x σ H Q) (i : ∀ σ H, Q σ H → Q' σ H) : liftG K B g x σ H Q' := by
  obtain ⟨F, env, W, d, P, S, hE, r, p, hQ⟩ := h
  exact ⟨F, env, W, d, P, S, hE, r, p, fun env' σ' p' e' o' => i _ _ (hQ env' σ' p' e' o')⟩
theorem pgX {e : Expr} {g : Tg} (h : ∀ B, PG X e (liftG K B g)) : PG X e (fun v σ H Q => ∃ B, liftG K B g v σ H Q) := ⟨fun pins s σ H v u Q I r ⟨B, q⟩ => (h B).run pins s σ H v u Q I r q⟩
theorem pssX {e : List Stmt} {t : WStm} (h : ∀ B, PSs X e (liftS K B E t)) : PSs X e (fun D σ H => ∃ B, liftS K B E t D σ H) := ⟨fun pins s σ H D I ⟨B, q⟩ => (h B).run pins s σ H D I q⟩
theorem peX {e : Expr} {t : WE} (h : ∀ B, PE X e (liftE K B E t)) : PE X e (fun σ H Q => ∃ B, liftE K B E t σ H Q) := ⟨fun pins s σ H Q I ⟨B, q⟩ => (h B).run pins s σ H Q I q⟩
theorem ptX {e : Expr} {t : WT} (h : ∀ B, PT X e (liftT K B E t)) : PT X e (fun σ H Q => ∃ B, liftT K B E t σ H Q) := ⟨fun pins s σ H Q I ⟨B, q⟩ => (h B).run pins s σ H Q I q⟩
theorem dk_rep {F : Hp} {d : D} {v : V} {ds : List (Key × D)} (r : Rep K F d v) (h : dkD d = some ds) : ∃ a kvs, v = .ref a ∧ Rd F a (.dK kvs) ∧ kvs.map (·.1) = ds.map (·.1) ∧ RepL K F (ds.map (·.2)) (kvs.map (·.2)) := by
  cases d with
  | dK es => cases h; cases r with
    | dK hF e rl => exact ⟨_, _, rfl, hF, e, rl⟩
  | _ => cases h
theorem S_forIt {elts : List Expr} {kk : Nat} {tpos apos cpos pos : Pos} {e : Expr} {body : List Stmt} {t : WE} {g : Tg} {b : WStm} (hp : PassesOwn (model X.prog X.w) X.A X.env X.xe) (hc : X.calm = true) (he : PE X e (liftE K B E t)) (hg : ∀ B, PG X (.Tuple elts kk tpos) (liftG K B g)) (hb : ∀ B, PSs X body (liftS K B E b))
    (hbase : attributeBase e "items" X.env (eval e X.env) = eval e X.env) (hline : (apos.endLine == cpos.line) = true) (hs : ∀ x, foldedSetIterable (.Call (.Attribute e "items" apos) [] [] cpos) X.env x = pure x) :
    PS X (.For (.Tuple elts kk tpos) (.Call (.Attribute e "items" apos) [] [] cpos) body [] pos) (liftS K B E (wForIt t g b)) :=
  psW (psUlk (ps_for hp hc (pi_items (pe_lk he) hbase hline) (pgX hg) (pssX hb) hs)) fun D σ H ⟨F, env, W, P, PX, S, hE, h, hX, h1, h2, h3, h4⟩ => by
    refine ⟨F, env, W, _, PX, S, hE, h, hX, fun x env1 W1 F1 H1 v ⟨ds, hd, p1⟩ S1 l1 e1 r1 => ?_⟩
    obtain ⟨a, kvs, rfl, hF, hk, rl⟩ := dk_rep r1 hd
    have conv : ∀ {Bq : Base} {Dq : Ends} {J : It} {σ : L2.St} {H1 : Hp}, (∃ Wv : Nat → Nat → L2.St → Hp → Prop, (∃ m, Wv 0 m σ H1) ∧ ∀ i m σ H, Wv i m σ H → (J.stop i H ∧ Dq.nx σ H) ∨ (J.go i H ∧ ∃ N : L2.St → Hp → Prop, (∀ σ' H', N σ' H' → ∃ m', m' < m ∧ Wv (i + 1) m' σ' H') ∧
        ∀ x H', J.yld i H x H' → liftG K Bq g x σ H' fun σ2 H2 => liftS K Bq E b { Dq with nx := N, ct := N, bk := Dq.nx } σ2 H2)) →
        ∃ Wv : Nat → Nat → L2.St → Hp → Prop, (∃ m, Wv 0 m σ H1) ∧ ∀ i m σ H, Wv i m σ H → (J.stop i H ∧ Dq.nx σ H) ∨ (J.go i H ∧ ∃ N : L2.St → Hp → Prop, (∀ σ' H', N σ' H' → ∃ m', m' < m ∧ Wv (i + 1) m' σ' H') ∧
        ∀ x H', J.yld i H x H' → ∃ B, liftG K B g x σ H' fun σ2 H2 => ∃ B, liftS K B E b { Dq with nx := N, ct := N, bk := Dq.nx } σ2 H2) := fun ⟨Wv, w0, w1⟩ => ⟨Wv, w0, fun i m σ H w => by
          rcases w1 i m σ H w with q | ⟨q1, N, q2, q3⟩
          · exact .inl q
          · exact .inr ⟨q1, N, q2, fun x H' y => ⟨_, liftG_mono (q3 x H' y) fun _ _ z => ⟨_, z⟩⟩⟩⟩
    rcases hF with hF | ⟨o, hF⟩
    · refine ⟨a, rfl, .inr ⟨kvs, S1.sub _ _ hF, fun od hn => ?_⟩⟩
      have hw1 : W1 a = none := by
        cases q : W1 a with
        | none => rfl
        | some ob => rw [(S1.obj a ob q).1] at hF; cases hF
      refine ⟨a, od, kvs, rfl, upd_same, conv (for_go (B := ⟨upd H1 a (.frz od (.dK kvs)), W1, upd F1 a (.frz od (.dK kvs))⟩) (itok_items upd_same hw1 hk (rl.mono (Le.lock hF))) (S1.lock hF) (e1.mono (Le.lock hF)) noX_ok p1 ⟨?_, ?_, ?_, ?_⟩)⟩
      · intro env2 W2 F2 H2 σ2 p2 T2 l2 e2
        obtain ⟨u1, u2, u3, u4⟩ := S1.unlock hF T2
        exact .inr ⟨a, od, _, u1, hn, h1 env2 W2 _ _ σ2 p2 u4 (l1.trans u3) (e2.mono (Le.unlock u2))⟩
      · intro d W2 F2 H2 v p2 T2 l2 r2
        obtain ⟨u1, u2, u3, u4⟩ := S1.unlock hF T2
        exact .inr ⟨a, od, _, u1, hn, h2 d W2 _ _ v p2 u4 (l1.trans u3) (r2.mono (Le.unlock u2))⟩
      · intro env2 W2 F2 H2 σ2 p2 T2 l2 e2
        obtain ⟨u1, u2, u3, u4⟩ := S1.unlock hF T2
        exact .inr ⟨a, od, _, u1, hn, h3 env2 W2 _ _ σ2 p2 u4 (l1.trans u3) (e2.mono (Le.unlock u2))⟩
      · intro env2 W2 F2 H2 σ2 p2 T2 l2 e2
        obtain ⟨u1, u2, u3, u4⟩ := S1.unlock hF T2
        exact .inr ⟨a, od, _, u1, hn, h4 env2 W2 _ _ σ2 p2 u4 (l1.trans u3) (e2.mono (Le.unlock u2))⟩
    · have ha := S1.sub _ _ hF
      have hw1 : W1 a = none := by
        cases q : W1 a with
        | none => rfl
        | some ob => rw [(S1.obj a ob q).1] at hF; cases hF
      refine ⟨a, rfl, .inl ⟨o, kvs, ha, ?_⟩⟩
      refine ⟨a, o, kvs, rfl, ha, conv (for_go (B := ⟨H1, W1, F1⟩) (itok_items ha hw1 hk rl) S1.self e1 noX_ok p1 ⟨?_, ?_, ?_, ?_⟩)⟩
      · intro env2 W2 F2 H2 σ2 p2 T2 l2 e2
        exact .inl (h1 env2 W2 F2 H2 σ2 p2 (S1.trans T2) (l1.trans T2.base) e2)
      · intro d W2 F2 H2 v p2 T2 l2 r2
        exact .inl (h2 d W2 F2 H2 v p2 (S1.trans T2) (l1.trans T2.base) r2)
      · intro env2 W2 F2 H2 σ2 p2 T2 l2 e2
        exact .inl (h3 env2 W2 F2 H2 σ2 p2 (S1.trans T2) (l1.trans T2.base) e2)
      · intro env2 W2 F2 H2 σ2 p2 T2 l2 e2
        exact .inl (h4 env2 W2 F2 H2 σ2 p2 (S1.trans T2) (l1.trans T2.base) e2)
end
end DL

set_option maxRecDepth 100000
set_option maxHeartbeats 4000000
set_option linter.all false
namespace DL
open PySem PySem.Spec PyProof.Rows L2
/-! ## comprehensions -/
def wipeD (env : DEnv) : List Nat → DEnv
  | [] => env
  | v :: vs => (wipeD env vs).set v none
def wYes : WT := fun _ env W P => P true env W
/-- the elements, one by one; the block's own names are empty ahead of each -/
def lcW (g : Tg) (c : WT) (t : WE) : List D → DEnv → WS → List D → (List D → WS → Prop) → Prop
  | [], _, W, acc, P => P acc W
  | d :: ds, env, W, acc, P => bindG g d env fun env1 => c noX env1 W fun b env2 W2 => match b with
    | true => t noX env2 W2 fun y _ W3 => acc.length < sizeLine ∧ lcW g c t ds env W3 (acc ++ [y]) P
    | false => lcW g c t ds env W2 acc P
def wLc (it : WI) (g : Tg) (c : WT) (t : WE) (vs : List Nat) : WF := fun PX env W P => it PX env W fun ds env1 W1 => lcW g c t ds (wipeD env1 vs) W1 [] fun acc W2 => P (.lst acc) env1 W2
/-- over d.items() -/
def wLcIt (e : WE) (g : Tg) (c : WT) (t : WE) (vs : List Nat) : WF := fun PX env W P => e PX env W fun d env1 W1 => ∃ ds, dkD d = some ds ∧ lcW g c t (itemsD ds) (wipeD env1 vs) W1 [] fun acc W2 => P (.lst acc) env1 W2
/-- a dict's -/
def dcW (g : Tg) (c : WT) (t u : WE) : List D → DEnv → WS → List (Key × D) → (List (Key × D) → WS → Prop) → Prop
  | [], _, W, acc, P => P acc W
  | d :: ds, env, W, acc, P => bindG g d env fun env1 => c noX env1 W fun b env2 W2 => match b with
    | true => t noX env2 W2 fun k env3 W3 => u noX env3 W3 fun y _ W4 => acc.length < sizeLine ∧ ∃ q, keyD k = some q ∧ dcW g c t u ds env W4 (putKD acc q y) P
    | false => dcW g c t u ds env W2 acc P
def wDc (it : WI) (g : Tg) (c : WT) (t u : WE) (vs : List Nat) : WF := fun PX env W P => it PX env W fun ds env1 W1 => dcW g c t u ds (wipeD env1 vs) W1 [] fun acc W2 => P (.dK acc) env1 W2
def wDcIt (e : WE) (g : Tg) (c : WT) (t u : WE) (vs : List Nat) : WF := fun PX env W P => e PX env W fun d env1 W1 => ∃ ds, dkD d = some ds ∧ dcW g c t u (itemsD ds) (wipeD env1 vs) W1 [] fun acc W2 => P (.dK acc) env1 W2
section
variable {X : Cx} {B : Base} {E : XK} {K : Fg}
theorem wipe_ok {F : Hp} {σ : L2.St} {env : DEnv} (h : EnvOk K F σ env) : ∀ vs, EnvOk K F (wipe σ vs) (wipeD env vs)
  | [] => h
  | v :: vs => (wipe_ok h vs).forget
theorem wipe_get (σ : L2.St) (i : Nat) : ∀ vs : List Nat, (wipe σ vs)[i]? = if i ∈ vs then (if i < σ.length then some none else none) else σ[i]?
  | [] => by simp [wipe]
  | v :: vs => by
    have ih := wipe_get σ i vs
    show ((wipe σ vs).set v none)[i]? = _
    by_cases c : v = i
    · subst c
      rw [List.getElem?_set, if_pos rfl, wipe_length, if_pos List.mem_cons_self]
    · rw [List.getElem?_set_ne c, ih]
      have e : (i ∈ v :: vs) = (i ∈ vs) := by
        apply propext
        rw [List.mem_cons]
        exact ⟨fun h => h.elim (fun z => absurd z.symm c) id, .inr⟩
      simp only [e]
theorem wipe_off {σ σ' : L2.St} {vs ws : List Nat} (h : Off ws (wipe σ vs) σ') (hs : ∀ i ∈ ws, i ∈ vs) : wipe σ' vs = wipe σ vs := by
  apply List.ext_getElem?
  intro i
  rw [wipe_get, wipe_get]
  by_cases c : i ∈ vs
  · rw [if_pos c, if_pos c, h.1, wipe_length]
  · rw [if_neg c, if_neg c, h.2 i (fun z => c (hs i z)), wipe_get, if_neg c]
/-- what is known of a new thing at a through a turn -/
structure Keep (K : Fg) (F : Hp) (W : WS) (H : Hp) (a : Addr) (o : HO) : Prop where
  h : H a = some o
  f : F a = none
  w : W a = none
theorem Keep.step {F F' H H' : Hp} {W W' : WS} {a : Addr} {o : HO} (k : Keep K F W H a o) (T : Stt K ⟨H, W, F⟩ F' W' H') : Keep K F' W' H' a o := by
  obtain ⟨h1, h2, h3⟩ := T.old a o k.h k.w
  exact ⟨h2, h3 k.f, h1⟩
/-- a known new thing is written -/
theorem Stt.rewrite {F H : Hp} {W : WS} {a : Addr} {o o' : HO} (S : Stt K B F W H) (k : Keep K F W H a o) (hB : B.H0 a = none) : Stt K B F W (upd H a o') where
  sub := fun b u e => by rw [upd_ne (fun c => by rw [c, k.f] at e; cases e)]; exact S.sub b u e
  obj := fun b u e => by
    obtain ⟨h1, x, h2, h3⟩ := S.obj b u e
    exact ⟨h1, x, by rw [upd_ne (fun c => by rw [c, k.w] at e; cases e)]; exact h2, h3⟩
  old := fun b u e hw => by
    obtain ⟨h1, h2, h3⟩ := S.old b u e hw
    exact ⟨h1, by rw [upd_ne (fun c => by rw [c, hB] at e; cases e)]; exact h2, h3⟩
  dom := fun b e => by
    by_cases c : b = a
    · subst c; exact hB
    · rw [upd_ne c] at e; exact S.dom b e
  base := S.base
section
variable {J : It} {ds : List D} {F1 : Hp} {g : Tg} {c : WT} {t u : WE} {vs : List Nat} {σ : L2.St} {env : DEnv} {W1 : WS} {H1 : Hp}
theorem lc_go (hJ : ItOk K B J ds F1) (hg : ∀ i ∈ g.slots, i ∈ vs) {P : List D → WS → Prop} {Q : VK} (S : Stt K B F1 W1 H1) (hE : EnvOk K F1 (wipe σ vs) env) (hw : lcW g c t ds env W1 [] P) {a : Addr} (ha : H1 a = none) (hB : B.H0 a = none)
    (hQ : ∀ acc W' F' H' va, P acc W' → Stt K B F' W' H' → Le F1 F' → Keep K F' W' H' a (.lst va) → RepL K F' acc va → Q (.ref a) H') :
    ∃ Wv : Nat → Nat → Hp → Prop, (∃ m, Wv 0 m (upd H1 a (.lst []))) ∧ ∀ i m H, Wv i m H → (J.stop i H ∧ Q (.ref a) H) ∨ (J.go i H ∧ ∃ Nx : Hp → Prop, (∀ H', Nx H' → ∃ m', m' < m ∧ Wv (i + 1) m' H') ∧
      ∀ x H', J.yld i H x H' → ∃ B2, liftG K B2 g x (wipe σ vs) H' fun σ2 H2 => wipe σ2 vs = wipe σ vs ∧ ∃ B3, liftT K B3 (fun _ _ _ => False) c σ2 H2 fun b H3 =>
        if b = true then ∃ B4, liftE K B4 (fun _ _ _ => False) t σ2 H3 fun y H4 => ∃ acc, H4 a = some (.lst acc) ∧ acc.length < sizeLine ∧ Nx (upd H4 a (.lst (acc ++ [y]))) else Nx H3) := by
  refine ⟨fun i m H => i ≤ ds.length ∧ m = ds.length - i ∧ ∃ F W acc va, Stt K B F W H ∧ Le F1 F ∧ Keep K F W H a (.lst va) ∧ RepL K F acc va ∧ lcW g c t (ds.drop i) env W acc P, ⟨ds.length, Nat.zero_le _, by simp, F1, W1, [], [], S.laid ha, Le.refl _, ⟨upd_same, S.newF ha, S.newW ha⟩, .nil, hw⟩, ?_⟩
  rintro i m H ⟨hi, rfl, F, W, acc, va, S2, l2, kp, rl, w2⟩
  obtain ⟨go, stop⟩ := hJ i F W H l2 S2
  cases hd : ds[i]? with
  | none =>
    have : ds.drop i = [] := List.drop_eq_nil_of_le (List.getElem?_eq_none_iff.mp hd)
    rw [this] at w2
    exact .inl ⟨stop hd, hQ acc W F H va w2 S2 l2 kp rl⟩
  | some d =>
    have hlt : i < ds.length := (List.getElem?_eq_some_iff.mp hd).1
    obtain ⟨g1, g2⟩ := go d hd
    rw [drop_get hd] at w2
    refine .inr ⟨g1, fun H' => ∃ F W acc va, Stt K B F W H' ∧ Le F1 F ∧ Keep K F W H' a (.lst va) ∧ RepL K F acc va ∧ lcW g c t (ds.drop (i + 1)) env W acc P, fun H' h => ⟨ds.length - (i + 1), by omega, hlt, rfl, h⟩, fun x H' y => ?_⟩
    obtain ⟨F3, T3, r3⟩ := g2 x H' y
    have kp3 := kp.step T3
    have S3 := S2.trans T3
    refine ⟨⟨H', W, F3⟩, F3, env, W, d, _, S3.self, (hE.mono (l2.trans T3.base)), r3, w2, fun env4 σ4 p4 e4 o4 => ⟨wipe_off o4 hg, ⟨H', W, F3⟩, F3, env4, W, _, noX, S3.self, e4, p4, noX_ok, fun b env5 W5 F5 H5 p5 T5 l5 e5 => ?_⟩⟩
    have kp5 := kp3.step T5
    have S5 := S3.trans T5
    have l15 := (l2.trans T3.base).trans l5
    cases b with
    | false => exact iteF ⟨F5, W5, acc, va, S5, l15, kp5, rl.mono (T3.base.trans l5), p5⟩
    | true =>
      refine iteT ⟨⟨H5, W5, F5⟩, F5, env5, W5, _, noX, S5.self, e5, p5, noX_ok, fun y env6 W6 F6 H6 v p6 T6 l6 e6 r6 => ?_⟩
      have kp6 := kp5.step T6
      have S6 := S5.trans T6
      have rl6 := rl.mono ((T3.base.trans l5).trans l6)
      refine ⟨va, kp6.h, by rw [← rl.length]; exact p6.1, F6, W6, acc ++ [y], va ++ [v], S6.rewrite kp6 hB, l15.trans l6, ⟨upd_same, kp6.f, kp6.w⟩, rl6.append (.cons r6 .nil), p6.2⟩
theorem dc_go (hJ : ItOk K B J ds F1) (hg : ∀ i ∈ g.slots, i ∈ vs) {P : List (Key × D) → WS → Prop} {Q : VK} (S : Stt K B F1 W1 H1) (hE : EnvOk K F1 (wipe σ vs) env) (hw : dcW g c t u ds env W1 [] P) {a : Addr} (ha : H1 a = none) (hB : B.H0 a = none)
    (hQ : ∀ acc W' F' H' va, P acc W' → Stt K B F' W' H' → Le F1 F' → Keep K F' W' H' a (.dK va) → va.map (·.1) = acc.map (·.1) → RepL K F' (acc.map (·.2)) (va.map (·.2)) → Q (.ref a) H') :
    ∃ Wv : Nat → Nat → Hp → Prop, (∃ m, Wv 0 m (upd H1 a (.dK []))) ∧ ∀ i m H, Wv i m H → (J.stop i H ∧ Q (.ref a) H) ∨ (J.go i H ∧ ∃ Nx : Hp → Prop, (∀ H', Nx H' → ∃ m', m' < m ∧ Wv (i + 1) m' H') ∧
      ∀ x H', J.yld i H x H' → ∃ B2, liftG K B2 g x (wipe σ vs) H' fun σ2 H2 => wipe σ2 vs = wipe σ vs ∧ ∃ B3, liftT K B3 (fun _ _ _ => False) c σ2 H2 fun b H3 =>
        if b = true then ∃ B4, liftE K B4 (fun _ _ _ => False) t σ2 H3 fun y H4 => ∃ B5, liftE K B5 (fun _ _ _ => False) u σ2 H4 fun z H5 => ∃ kvs k, y = kV k ∧ H5 a = some (.dK kvs) ∧ kvs.length < sizeLine ∧ Nx (upd H5 a (.dK (putK kvs k z))) else Nx H3) := by
  refine ⟨fun i m H => i ≤ ds.length ∧ m = ds.length - i ∧ ∃ F W acc va, Stt K B F W H ∧ Le F1 F ∧ Keep K F W H a (.dK va) ∧ va.map (·.1) = acc.map (·.1) ∧ RepL K F (acc.map (·.2)) (va.map (·.2)) ∧ dcW g c t u (ds.drop i) env W acc P, ⟨ds.length, Nat.zero_le _, by simp, F1, W1, [], [], S.laid ha, Le.refl _, ⟨upd_same, S.newF ha, S.newW ha⟩, rfl, .nil, hw⟩, ?_⟩
  rintro i m H ⟨hi, rfl, F, W, acc, va, S2, l2, kp, ke, rl, w2⟩
  obtain ⟨go, stop⟩ := hJ i F W H l2 S2
  cases hd : ds[i]? with
  | none =>
    have : ds.drop i = [] := List.drop_eq_nil_of_le (List.getElem?_eq_none_iff.mp hd)
    rw [this] at w2
    exact .inl ⟨stop hd, hQ acc W F H va w2 S2 l2 kp ke rl⟩
  | some d =>
    have hlt : i < ds.length := (List.getElem?_eq_some_iff.mp hd).1
    obtain ⟨g1, g2⟩ := go d hd
    rw [drop_get hd] at w2
    refine .inr ⟨g1, fun H' => ∃ F W acc va, Stt K B F W H' ∧ Le F1 F ∧ Keep K F W H' a (.dK va) ∧ va.map (·.1) = acc.map (·.1) ∧ RepL K F (acc.map (·.2)) (va.map (·.2)) ∧ dcW g c t u (ds.drop (i + 1)) env W acc P, fun H' h => ⟨ds.length - (i + 1), by omega, hlt, rfl, h⟩, fun x H' y => ?_⟩
    obtain ⟨F3, T3, r3⟩ := g2 x H' y
    have kp3 := kp.step T3
    have S3 := S2.trans T3
    refine ⟨⟨H', W, F3⟩, F3, env, W, d, _, S3.self, (hE.mono (l2.trans T3.base)), r3, w2, fun env4 σ4 p4 e4 o4 => ⟨wipe_off o4 hg, ⟨H', W, F3⟩, F3, env4, W, _, noX, S3.self, e4, p4, noX_ok, fun b env5 W5 F5 H5 p5 T5 l5 e5 => ?_⟩⟩
    have kp5 := kp3.step T5
    have S5 := S3.trans T5
    have l15 := (l2.trans T3.base).trans l5
    cases b with
    | false => exact iteF ⟨F5, W5, acc, va, S5, l15, kp5, ke, rl.mono (T3.base.trans l5), p5⟩
    | true =>
      refine iteT ⟨⟨H5, W5, F5⟩, F5, env5, W5, _, noX, S5.self, e5, p5, noX_ok, fun y env6 W6 F6 H6 v p6 T6 l6 e6 r6 => ?_⟩
      have kp6 := kp5.step T6
      have S6 := S5.trans T6
      refine ⟨⟨H6, W6, F6⟩, F6, env6, W6, _, noX, S6.self, e6, p6, noX_ok, fun z env7 W7 F7 H7 v7 p7 T7 l7 e7 r7 => ?_⟩
      have kp7 := kp6.step T7
      have S7 := S6.trans T7
      have rl7 := rl.mono (((T3.base.trans l5).trans l6).trans l7)
      obtain ⟨hz, q, hq, p8⟩ := p7
      obtain ⟨h1, h2⟩ := putK_rep (k := q) r7 ke rl7
      refine ⟨va, q, keyD_rep r6 hq, kp7.h, by rw [len_keys ke]; exact hz, F7, W7, putKD acc q z, putK va q v7, S7.rewrite kp7 hB, (l15.trans l6).trans l7, ⟨upd_same, kp7.f, kp7.w⟩, h1, h2, p8⟩
end
/-! ### as expressions -/
def tests (ifs : List Expr) : Prop := True
theorem ts_nil : PTs X [] (liftT K B E wYes) := ⟨fun pins s σ H Q I ⟨F, env, W, P, PX, S, hE, p, _, hQ⟩ => pts_nil.run pins s σ H Q I (hQ true env W F H p S (Le.refl _) hE)⟩
theorem ts_one {c : Expr} {t : WT} (h : PT X c (liftT K B E t)) : PTs X [c] (liftT K B E t) := pts_one h
theorem ptsX {e : List Expr} {t : WT} (h : ∀ B, PTs X e (liftT K B E t)) : PTs X e (fun σ H Q => ∃ B, liftT K B E t σ H Q) := ⟨fun pins s σ H Q I ⟨B, q⟩ => (h B).run pins s σ H Q I q⟩
abbrev blkA (X : Cx) (scope : Scope) (φ : Cx → Prop) : Prop := ∀ (s : Shared) (H : Hp) (C : Addr) (cl : List (Str × Addr)) (fp : List Addr), φ (X.blk s H scope (compEnvC scope cl C X.env) fp)
theorem s_lc {elt tg iter : Expr} {ifs : List Expr} {scope : Scope} {own : List (Str × Nat)} {pos : Pos} {it : WI} {g : Tg} {c : WT} {t : WE} (hc : X.calm = true) (hN : X.N.Nodup) (hi : PI X tg iter (liftI K B E it)) (ok : BlkOk X.N X.env.scope scope own)
    (hg : blkA X scope fun Y => ∀ B, PG Y tg (liftG K B g)) (ht : blkA X scope fun Y => ∀ B, PTs Y ifs (liftT K B (fun _ _ _ => False) c)) (he : blkA X scope fun Y => ∀ B, PE Y elt (liftE K B (fun _ _ _ => False) t))
    (hs : ∀ x, foldedSetIterable iter X.env x = pure x) (ho : ∀ i ∈ g.slots, i ∈ own.map (·.2)) : PE X (.ListComp elt [⟨tg, iter, ifs, 0⟩] scope pos) (liftF K B E (wLc it g c t (own.map (·.2)))) :=
  peW (pe_lc hc hN hi ok (fun s H C cl fp => pgX (hg s H C cl fp)) (fun s H C cl fp => ptsX (ht s H C cl fp)) (fun s H C cl fp => peX (he s H C cl fp)) hs) fun σ H Q ⟨F, env, W, P, PX, S, hE, h, hX, hQ⟩ =>
    ⟨F, env, W, _, PX, S, hE, h, hX, fun ds env1 W1 F1 H1 J p1 S1 l1 e1 j1 a ha => lc_go j1 ho S1 (wipe_ok e1 _) p1 ha (S1.dom a ha) fun acc W2 F2 H2 va p2 S2 l2 kp rl =>
      hQ _ env1 W2 F2 H2 a _ p2 S2 (l1.trans l2) (e1.mono l2) kp.h kp.f kp.w (S1.dom a ha) (.lst rl)⟩
theorem s_dc {kx vx tg iter : Expr} {ifs : List Expr} {scope : Scope} {own : List (Str × Nat)} {pos : Pos} {it : WI} {g : Tg} {c : WT} {t u : WE} (hc : X.calm = true) (hN : X.N.Nodup) (hi : PI X tg iter (liftI K B E it)) (ok : BlkOk X.N X.env.scope scope own)
    (hg : blkA X scope fun Y => ∀ B, PG Y tg (liftG K B g)) (ht : blkA X scope fun Y => ∀ B, PTs Y ifs (liftT K B (fun _ _ _ => False) c)) (hk : blkA X scope fun Y => ∀ B, PE Y kx (liftE K B (fun _ _ _ => False) t)) (he : blkA X scope fun Y => ∀ B, PE Y vx (liftE K B (fun _ _ _ => False) u))
    (hs : ∀ x, foldedSetIterable iter X.env x = pure x) (ho : ∀ i ∈ g.slots, i ∈ own.map (·.2)) : PE X (.DictComp kx vx [⟨tg, iter, ifs, 0⟩] scope pos) (liftF K B E (wDc it g c t u (own.map (·.2)))) :=
  peW (pe_dc hc hN hi ok (fun s H C cl fp => pgX (hg s H C cl fp)) (fun s H C cl fp => ptsX (ht s H C cl fp)) (fun s H C cl fp => peX (hk s H C cl fp)) (fun s H C cl fp => peX (he s H C cl fp)) hs) fun σ H Q ⟨F, env, W, P, PX, S, hE, h, hX, hQ⟩ =>
    ⟨F, env, W, _, PX, S, hE, h, hX, fun ds env1 W1 F1 H1 J p1 S1 l1 e1 j1 a ha => dc_go j1 ho S1 (wipe_ok e1 _) p1 ha (S1.dom a ha) fun acc W2 F2 H2 va p2 S2 l2 kp ke rl =>
      hQ _ env1 W2 F2 H2 a _ p2 S2 (l1.trans l2) (e1.mono l2) kp.h kp.f kp.w (S1.dom a ha) (.dK ke rl)⟩
end
end DL

set_option maxRecDepth 100000
set_option maxHeartbeats 4000000
set_option linter.all false
namespace DL
open PySem PySem.Spec PyProof.Rows L2
/-! ## a dict walked: its keys, values, items -/
abbrev JLk := Addr → Obj → List (Key × V) → It
def iLk (J : JLk) (td : TE) : TI := fun σ H R => td σ H fun x H1 => ∃ d o kvs, x = .ref d ∧ H1 d = some (.frz o (.dK kvs)) ∧ R (J d o kvs) H1
structure Wk (X : Cx) (tg iter e : Expr) (J : JLk) (el : List (Key × D) → List D) : Prop where
  pi : ∀ td : TE, (∀ σ H (Q Q' : VK), (∀ v H, Q v H → Q' v H) → td σ H Q → td σ H Q') → PE X e td → PI X tg iter (iLk J td)
  ok : ∀ (K : Fg) (B : Base) (d : Addr) (o : Obj) (kvs : List (Key × V)) (ds : List (Key × D)) (F0 : Hp), B.H0 d = some (.frz o (.dK kvs)) → B.W0 d = none → kvs.map (·.1) = ds.map (·.1) → RepL K F0 (ds.map (·.2)) (kvs.map (·.2)) → ItOk K B (J d o kvs) (el ds) F0
def keysOf (ds : List (Key × D)) : List D := ds.map fun p => kD p.1
def valsOf (ds : List (Key × D)) : List D := ds.map (·.2)
section
variable {X : Cx} {B : Base} {E : XK} {K : Fg}
theorem itok_keys {d : Addr} {o : Obj} {kvs : List (Key × V)} {ds : List (Key × D)} {F0 : Hp} (hB : B.H0 d = some (.frz o (.dK kvs))) (hw : B.W0 d = none) (hk : kvs.map (·.1) = ds.map (·.1)) (r : RepL K F0 (ds.map (·.2)) (kvs.map (·.2))) :
    ItOk K B (Itk d o kvs) (keysOf ds) F0 := fun i F W H l S => by
  have hd := (S.old d _ hB hw).2.1
  unfold keysOf
  rw [List.getElem?_map]
  refine ⟨fun x hx => ?_, fun hx => ⟨hd, ?_⟩⟩
  · cases e : ds[i]? with
    | none => rw [e] at hx; cases hx
    | some p =>
      rw [e] at hx
      cases hx
      obtain ⟨q, hq, qe⟩ := keys_get hk e
      refine ⟨⟨hd, (List.getElem?_eq_some_iff.mp hq).1⟩, fun x H' y => ?_⟩
      obtain ⟨eH, k, w, y1, y2⟩ := y
      subst eH y2
      rw [hq] at y1
      cases y1
      exact ⟨F, S.self, by show Rep K F (kD p.1) _; rw [← qe]; exact kD_rep k⟩
  · cases e : ds[i]? with
    | none =>
      have := List.getElem?_eq_none_iff.mp e
      rw [← len_keys hk] at this
      exact this
    | some p => rw [e] at hx; cases hx
theorem itok_vals {d : Addr} {o : Obj} {kvs : List (Key × V)} {ds : List (Key × D)} {F0 : Hp} (hB : B.H0 d = some (.frz o (.dK kvs))) (hw : B.W0 d = none) (hk : kvs.map (·.1) = ds.map (·.1)) (r : RepL K F0 (ds.map (·.2)) (kvs.map (·.2))) :
    ItOk K B (Itd d o kvs) (valsOf ds) F0 := fun i F W H l S => by
  have hd := (S.old d _ hB hw).2.1
  unfold valsOf
  refine ⟨fun x hx => ?_, fun hx => ⟨hd, ?_⟩⟩
  · obtain ⟨v, hv, rv⟩ := r.get hx
    rw [List.getElem?_map] at hv
    cases e : kvs[i]? with
    | none => rw [e] at hv; cases hv
    | some q =>
      rw [e] at hv
      refine ⟨⟨hd, (List.getElem?_eq_some_iff.mp e).1⟩, fun y H' y1 => ?_⟩
      obtain ⟨eH, k, y2⟩ := y1
      subst eH
      rw [e] at y2
      cases y2
      have e2 : y = v := Option.some.inj hv
      subst e2
      exact ⟨F, S.self, rv.mono l⟩
  · have h1 := List.getElem?_eq_none_iff.mp hx
    rw [List.length_map, ← len_keys hk] at h1
    exact h1
theorem wk_items {elts : List Expr} {kk : Nat} {tpos apos cpos : Pos} {e : Expr} (hbase : attributeBase e "items" X.env (eval e X.env) = eval e X.env) (hline : (apos.endLine == cpos.line) = true) :
    Wk X (.Tuple elts kk tpos) (.Call (.Attribute e "items" apos) [] [] cpos) e Iti itemsD := ⟨fun td _ he => pi_items he hbase hline, fun K B d o kvs ds F0 h1 h2 h3 h4 => itok_items h1 h2 h3 h4⟩
theorem wk_keys {tg e : Expr} : Wk X tg e e Itk keysOf := ⟨fun td hm he => piW (pi_keys he) fun σ H R h => hm σ H _ _ (fun v H1 ⟨d, o, kvs, h1, h2, h3⟩ => ⟨d, o, h1, .inl ⟨kvs, h2, h3⟩⟩) h, fun K B d o kvs ds F0 h1 h2 h3 h4 => itok_keys h1 h2 h3 h4⟩
theorem wk_vals {tg e : Expr} {apos cpos : Pos} (hbase : attributeBase e "values" X.env (eval e X.env) = eval e X.env) (hline : (apos.endLine == cpos.line) = true) :
    Wk X tg (.Call (.Attribute e "values" apos) [] [] cpos) e Itd valsOf := ⟨fun td _ he => pi_values he hbase hline, fun K B d o kvs ds F0 h1 h2 h3 h4 => itok_vals h1 h2 h3 h4⟩
theorem lk_mono {t : WE} {σ : L2.St} {H : Hp} {Q Q' : VK} (i : ∀ v H, Q v H → Q' v H) (h : tLkE X (liftE K B E t) σ H Q) : tLkE X (liftE K B E t) σ H Q' := by
  obtain ⟨F, env, W, P, PX, S, hE, h, hX, hQ⟩ := h
  refine ⟨F, env, W, P, PX, S, hE, h, hX, fun d env1 W1 F1 H1 v p1 S1 l1 e1 r1 => ?_⟩
  obtain ⟨a, ea, q⟩ := hQ d env1 W1 F1 H1 v p1 S1 l1 e1 r1
  rcases q with ⟨o, kvs, q1, q2⟩ | ⟨kvs, q1, q2⟩
  · exact ⟨a, ea, .inl ⟨o, kvs, q1, i _ _ q2⟩⟩
  · exact ⟨a, ea, .inr ⟨kvs, q1, fun od hn => i _ _ (q2 od hn)⟩⟩
/-- for .. over a dict -/
def wForLk (el : List (Key × D) → List D) (t : WE) (g : Tg) (b : WStm) : WStm := fun PX P env W => t PX env W fun d env1 W1 => ∃ ds, dkD d = some ds ∧ forW g b noX P (el ds) env1 W1
theorem S_forLk {tg iter e : Expr} {J : JLk} {el : List (Key × D) → List D} {pos : Pos} {body : List Stmt} {t : WE} {g : Tg} {b : WStm} (k : Wk X tg iter e J el) (hp : PassesOwn (model X.prog X.w) X.A X.env X.xe) (hc : X.calm = true) (he : PE X e (liftE K B E t)) (hg : ∀ B, PG X tg (liftG K B g)) (hb : ∀ B, PSs X body (liftS K B E b))
    (hs : ∀ x, foldedSetIterable iter X.env x = pure x) :
    PS X (.For tg iter body [] pos) (liftS K B E (wForLk el t g b)) :=
  psW (psUlk (ps_for hp hc (k.pi (tLkE X (liftE K B E t)) (fun σ H Q Q' i h => lk_mono i h) (pe_lk he)) (pgX hg) (pssX hb) hs)) fun D σ H ⟨F, env, W, P, PX, S, hE, h, hX, h1, h2, h3, h4⟩ => by
    refine ⟨F, env, W, _, PX, S, hE, h, hX, fun x env1 W1 F1 H1 v ⟨ds, hd, p1⟩ S1 l1 e1 r1 => ?_⟩
    obtain ⟨a, kvs, rfl, hF, hk, rl⟩ := dk_rep r1 hd
    have conv : ∀ {Bq : Base} {Dq : Ends} {J : It} {σ : L2.St} {H1 : Hp}, (∃ Wv : Nat → Nat → L2.St → Hp → Prop, (∃ m, Wv 0 m σ H1) ∧ ∀ i m σ H, Wv i m σ H → (J.stop i H ∧ Dq.nx σ H) ∨ (J.go i H ∧ ∃ N : L2.St → Hp → Prop, (∀ σ' H', N σ' H' → ∃ m', m' < m ∧ Wv (i + 1) m' σ' H') ∧
        ∀ x H', J.yld i H x H' → liftG K Bq g x σ H' fun σ2 H2 => liftS K Bq E b { Dq with nx := N, ct := N, bk := Dq.nx } σ2 H2)) →
        ∃ Wv : Nat → Nat → L2.St → Hp → Prop, (∃ m, Wv 0 m σ H1) ∧ ∀ i m σ H, Wv i m σ H → (J.stop i H ∧ Dq.nx σ H) ∨ (J.go i H ∧ ∃ N : L2.St → Hp → Prop, (∀ σ' H', N σ' H' → ∃ m', m' < m ∧ Wv (i + 1) m' σ' H') ∧
        ∀ x H', J.yld i H x H' → ∃ B, liftG K B g x σ H' fun σ2 H2 => ∃ B, liftS K B E b { Dq with nx := N, ct := N, bk := Dq.nx } σ2 H2) := fun ⟨Wv, w0, w1⟩ => ⟨Wv, w0, fun i m σ H w => by
          rcases w1 i m σ H w with q | ⟨q1, N, q2, q3⟩
          · exact .inl q
          · exact .inr ⟨q1, N, q2, fun x H' y => ⟨_, liftG_mono (q3 x H' y) fun _ _ z => ⟨_, z⟩⟩⟩⟩
    have hw1 : W1 a = none := by
      cases q : W1 a with
      | none => rfl
      | some ob => rcases hF with hF | ⟨o, hF⟩ <;> rw [(S1.obj a ob q).1] at hF <;> cases hF
    rcases hF with hF | ⟨o, hF⟩
    · refine ⟨a, rfl, .inr ⟨kvs, S1.sub _ _ hF, fun od hn => ?_⟩⟩
      refine ⟨a, od, kvs, rfl, upd_same, conv (for_go (B := ⟨upd H1 a (.frz od (.dK kvs)), W1, upd F1 a (.frz od (.dK kvs))⟩) (k.ok _ _ a od kvs ds _ upd_same hw1 hk (rl.mono (Le.lock hF))) (S1.lock hF) (e1.mono (Le.lock hF)) noX_ok p1 ⟨?_, ?_, ?_, ?_⟩)⟩
      · intro env2 W2 F2 H2 σ2 p2 T2 l2 e2
        obtain ⟨u1, u2, u3, u4⟩ := S1.unlock hF T2
        exact .inr ⟨a, od, _, u1, hn, h1 env2 W2 _ _ σ2 p2 u4 (l1.trans u3) (e2.mono (Le.unlock u2))⟩
      · intro d W2 F2 H2 v p2 T2 l2 r2
        obtain ⟨u1, u2, u3, u4⟩ := S1.unlock hF T2
        exact .inr ⟨a, od, _, u1, hn, h2 d W2 _ _ v p2 u4 (l1.trans u3) (r2.mono (Le.unlock u2))⟩
      · intro env2 W2 F2 H2 σ2 p2 T2 l2 e2
        obtain ⟨u1, u2, u3, u4⟩ := S1.unlock hF T2
        exact .inr ⟨a, od, _, u1, hn, h3 env2 W2 _ _ σ2 p2 u4 (l1.trans u3) (e2.mono (Le.unlock u2))⟩
      · intro env2 W2 F2 H2 σ2 p2 T2 l2 e2
        obtain ⟨u1, u2, u3, u4⟩ := S1.unlock hF T2
        exact .inr ⟨a, od, _, u1, hn, h4 env2 W2 _ _ σ2 p2 u4 (l1.trans u3) (e2.mono (Le.unlock u2))⟩
    · have ha := S1.sub _ _ hF
      refine ⟨a, rfl, .inl ⟨o, kvs, ha, ?_⟩⟩
      refine ⟨a, o, kvs, rfl, ha, conv (for_go (B := ⟨H1, W1, F1⟩) (k.ok _ _ a o kvs ds _ ha hw1 hk rl) S1.self e1 noX_ok p1 ⟨?_, ?_, ?_, ?_⟩)⟩
      · intro env2 W2 F2 H2 σ2 p2 T2 l2 e2
        exact .inl (h1 env2 W2 F2 H2 σ2 p2 (S1.trans T2) (l1.trans T2.base) e2)
      · intro d W2 F2 H2 v p2 T2 l2 r2
        exact .inl (h2 d W2 F2 H2 v p2 (S1.trans T2) (l1.trans T2.base) r2)
      · intro env2 W2 F2 H2 σ2 p2 T2 l2 e2
        exact .inl (h3 env2 W2 F2 H2 σ2 p2 (S1.trans T2) (l1.trans T2.base) e2)
      · intro env2 W2 F2 H2 σ2 p2 T2 l2 e2
        exact .inl (h4 env2 W2 F2 H2 σ2 p2 (S1.trans T2) (l1.trans T2.base) e2)
/-! ## comprehensions over a dict -/
def wLcLk (el : List (Key × D) → List D) (e : WE) (g : Tg) (c : WT) (t : WE) (vs : List Nat) : WF := fun PX env W P => e PX env W fun d env1 W1 => ∃ ds, dkD d = some ds ∧ lcW g c t (el ds) (wipeD env1 vs) W1 [] fun acc W2 => P (.lst acc) env1 W2
def wDcLk (el : List (Key × D) → List D) (e : WE) (g : Tg) (c : WT) (t u : WE) (vs : List Nat) : WF := fun PX env W P => e PX env W fun d env1 W1 => ∃ ds, dkD d = some ds ∧ dcW g c t u (el ds) (wipeD env1 vs) W1 [] fun acc W2 => P (.dK acc) env1 W2
theorem s_lcLk {elt tg iter e : Expr} {J : JLk} {el : List (Key × D) → List D} {ifs : List Expr} {scope : Scope} {own : List (Str × Nat)} {pos : Pos} {te : WE} {g : Tg} {c : WT} {t : WE} (k : Wk X tg iter e J el) (hc : X.calm = true) (hN : X.N.Nodup) (hi : PE X e (liftE K B E te)) (ok : BlkOk X.N X.env.scope scope own)
    (hg : blkA X scope fun Y => ∀ B, PG Y tg (liftG K B g)) (ht : blkA X scope fun Y => ∀ B, PTs Y ifs (liftT K B (fun _ _ _ => False) c)) (he : blkA X scope fun Y => ∀ B, PE Y elt (liftE K B (fun _ _ _ => False) t))
    (hs : ∀ x, foldedSetIterable iter X.env x = pure x) (ho : ∀ i ∈ g.slots, i ∈ own.map (·.2)) : PE X (.ListComp elt [⟨tg, iter, ifs, 0⟩] scope pos) (liftF K B E (wLcLk el te g c t (own.map (·.2)))) :=
  peW (peUlk (pe_lc hc hN (k.pi (tLkE X (liftE K B E te)) (fun σ H Q Q' i h => lk_mono i h) (pe_lk hi)) ok (fun s H C cl fp => pgX (hg s H C cl fp)) (fun s H C cl fp => ptsX (ht s H C cl fp)) (fun s H C cl fp => peX (he s H C cl fp)) hs)) fun σ H Q ⟨F, env, W, P, PX, S, hE, h, hX, hQ⟩ => by
    refine ⟨F, env, W, _, PX, S, hE, h, hX, fun x env1 W1 F1 H1 v ⟨ds, hd, p1⟩ S1 l1 e1 r1 => ?_⟩
    obtain ⟨a, kvs, rfl, hF, hk, rl⟩ := dk_rep r1 hd
    have hw1 : W1 a = none := by
      cases q : W1 a with
      | none => rfl
      | some ob => rcases hF with hF | ⟨o, hF⟩ <;> rw [(S1.obj a ob q).1] at hF <;> cases hF
    rcases hF with hF | ⟨o, hF⟩
    · refine ⟨a, rfl, .inr ⟨kvs, S1.sub _ _ hF, fun od hn => ?_⟩⟩
      refine ⟨a, od, kvs, rfl, upd_same, fun q hq => ?_⟩
      have hqa : q ≠ a := fun c => by subst c; rw [upd_same] at hq; cases hq
      have hq1 : H1 q = none := by rw [upd_ne hqa] at hq; exact hq
      refine lc_go (Q := fun v H' => Ulk X (Q v) H') (B := ⟨upd H1 a (.frz od (.dK kvs)), W1, upd F1 a (.frz od (.dK kvs))⟩) (k.ok _ _ a od kvs ds _ upd_same hw1 hk (rl.mono (Le.lock hF))) ho (S1.lock hF) (wipe_ok (e1.mono (Le.lock hF)) _) p1 hq hq fun acc W2 F2 H2 va p2 T2 l2 kp rl => ?_
      obtain ⟨u1, u2, u3, u4⟩ := S1.unlock hF T2
      exact .inr ⟨a, od, _, u1, hn, hQ _ env1 W2 _ _ q _ p2 u4 (l1.trans u3) ((e1.mono (Le.lock hF)).mono (l2.trans (Le.unlock u2))) (by rw [upd_ne hqa]; exact kp.h) (by rw [upd_ne hqa]; exact kp.f) kp.w (S1.dom q hq1) (.lst (rl.mono (Le.unlock u2)))⟩
    · have ha := S1.sub _ _ hF
      refine ⟨a, rfl, .inl ⟨o, kvs, ha, ?_⟩⟩
      refine ⟨a, o, kvs, rfl, ha, fun q hq => ?_⟩
      exact lc_go (Q := fun v H' => Ulk X (Q v) H') (B := ⟨H1, W1, F1⟩) (k.ok _ _ a o kvs ds _ ha hw1 hk rl) ho S1.self (wipe_ok e1 _) p1 hq hq fun acc W2 F2 H2 va p2 T2 l2 kp rl =>
        .inl (hQ _ env1 W2 F2 H2 q _ p2 (S1.trans T2) (l1.trans T2.base) (e1.mono l2) kp.h kp.f kp.w (S1.dom q hq) (.lst rl))
theorem s_dcLk {kx vx tg iter e : Expr} {J : JLk} {el : List (Key × D) → List D} {ifs : List Expr} {scope : Scope} {own : List (Str × Nat)} {pos : Pos} {te : WE} {g : Tg} {c : WT} {t u : WE} (k : Wk X tg iter e J el) (hc : X.calm = true) (hN : X.N.Nodup) (hi : PE X e (liftE K B E te)) (ok : BlkOk X.N X.env.scope scope own)
    (hg : blkA X scope fun Y => ∀ B, PG Y tg (liftG K B g)) (ht : blkA X scope fun Y => ∀ B, PTs Y ifs (liftT K B (fun _ _ _ => False) c)) (hk : blkA X scope fun Y => ∀ B, PE Y kx (liftE K B (fun _ _ _ => False) t)) (he : blkA X scope fun Y => ∀ B, PE Y vx (liftE K B (fun _ _ _ => False) u))
    (hs : ∀ x, foldedSetIterable iter X.env x = pure x) (ho : ∀ i ∈ g.slots, i ∈ own.map (·.2)) : PE X (.DictComp kx vx [⟨tg, iter, ifs, 0⟩] scope pos) (liftF K B E (wDcLk el te g c t u (own.map (·.2)))) :=
  peW (peUlk (pe_dc hc hN (k.pi (tLkE X (liftE K B E te)) (fun σ H Q Q' i h => lk_mono i h) (pe_lk hi)) ok (fun s H C cl fp => pgX (hg s H C cl fp)) (fun s H C cl fp => ptsX (ht s H C cl fp)) (fun s H C cl fp => peX (hk s H C cl fp)) (fun s H C cl fp => peX (he s H C cl fp)) hs)) fun σ H Q ⟨F, env, W, P, PX, S, hE, h, hX, hQ⟩ => by
    refine ⟨F, env, W, _, PX, S, hE, h, hX, fun x env1 W1 F1 H1 v ⟨ds, hd, p1⟩ S1 l1 e1 r1 => ?_⟩
    obtain ⟨a, kvs, rfl, hF, hk, rl⟩ := dk_rep r1 hd
    have hw1 : W1 a = none := by
      cases q : W1 a with
      | none => rfl
      | some ob => rcases hF with hF | ⟨o, hF⟩ <;> rw [(S1.obj a ob q).1] at hF <;> cases hF
    rcases hF with hF | ⟨o, hF⟩
    · refine ⟨a, rfl, .inr ⟨kvs, S1.sub _ _ hF, fun od hn => ?_⟩⟩
      refine ⟨a, od, kvs, rfl, upd_same, fun q hq => ?_⟩
      have hqa : q ≠ a := fun c => by subst c; rw [upd_same] at hq; cases hq
      have hq1 : H1 q = none := by rw [upd_ne hqa] at hq; exact hq
      refine dc_go (Q := fun v H' => Ulk X (Q v) H') (B := ⟨upd H1 a (.frz od (.dK kvs)), W1, upd F1 a (.frz od (.dK kvs))⟩) (k.ok _ _ a od kvs ds _ upd_same hw1 hk (rl.mono (Le.lock hF))) ho (S1.lock hF) (wipe_ok (e1.mono (Le.lock hF)) _) p1 hq hq fun acc W2 F2 H2 va p2 T2 l2 kp ke rl => ?_
      obtain ⟨u1, u2, u3, u4⟩ := S1.unlock hF T2
      exact .inr ⟨a, od, _, u1, hn, hQ _ env1 W2 _ _ q _ p2 u4 (l1.trans u3) ((e1.mono (Le.lock hF)).mono (l2.trans (Le.unlock u2))) (by rw [upd_ne hqa]; exact kp.h) (by rw [upd_ne hqa]; exact kp.f) kp.w (S1.dom q hq1) (.dK ke (rl.mono (Le.unlock u2)))⟩
    · have ha := S1.sub _ _ hF
      refine ⟨a, rfl, .inl ⟨o, kvs, ha, ?_⟩⟩
      refine ⟨a, o, kvs, rfl, ha, fun q hq => ?_⟩
      exact dc_go (Q := fun v H' => Ulk X (Q v) H') (B := ⟨H1, W1, F1⟩) (k.ok _ _ a o kvs ds _ ha hw1 hk rl) ho S1.self (wipe_ok e1 _) p1 hq hq fun acc W2 F2 H2 va p2 T2 l2 kp ke rl =>
        .inl (hQ _ env1 W2 F2 H2 q _ p2 (S1.trans T2) (l1.trans T2.base) (e1.mono l2) kp.h kp.f kp.w (S1.dom q hq) (.dK ke rl))
end
end DL

set_option maxRecDepth 100000
set_option maxHeartbeats 4000000
set_option linter.all false
namespace DL
open PySem PySem.Spec PyProof.Rows L2
/-! ## what never runs -/
section
variable {X : Cx} {B : Base} {E : XK} {K : Fg}
def wNo : WStm := fun _ _ _ _ => False
theorem S_never {st : Stmt} : PS X st (liftS K B E wNo) := ⟨fun pins s σ H D I ⟨_, _, _, _, _, _, _, h, _⟩ => False.elim h⟩
def wNoE : WE := fun _ _ _ _ => False
theorem s_never {e : Expr} : PE X e (liftE K B E wNoE) := ⟨fun pins s σ H Q I ⟨_, _, _, _, _, _, _, h, _⟩ => False.elim h⟩
end
/-! ## methods that change a container of the store -/
abbrev FM := Ob → List D → (D → Ob → Prop) → Prop
def mAppend : FM
  | .lst xs, [d], P => xs.length < sizeLine ∧ P .non (.lst (xs ++ [d]))
  | _, _, _ => False
def mInsert : FM
  | .lst xs, [.int i, d], P => xs.length < sizeLine ∧ 0 ≤ i ∧ i < 2 ^ 63 ∧ P .non (.lst (xs.take i.toNat ++ [d] ++ xs.drop i.toNat))
  | _, _, _ => False
def mPop : FM
  | .lst xs, [], P => ∃ y, xs[xs.length - 1]? = some y ∧ P y (.lst xs.dropLast)
  | _, _, _ => False
def mReverse : FM
  | .lst xs, [], P => P .non (.lst xs.reverse)
  | _, _, _ => False
def mClear : FM
  | .lst xs, [], P => P .non (.lst [])
  | _, _, _ => False
def rMu (K : Fg) (B : Base) (f : FM) : V → List V → Hp → VK → Prop := fun x xs H Q => ∃ F W a ob ds P, Stt K B F W H ∧ x = .ref a ∧ W a = some ob ∧ RepL K F ds xs ∧ f ob ds P ∧
  ∀ d ob' H' v, P d ob' → Stt K B F (W.put a ob') H' → Rep K F d v → Q v H'
section
variable {X : Cx} {B : Base} {E : XK}
theorem repL0 {K : Fg} {F : Hp} {vs : List V} (r : RepL K F [] vs) : vs = [] := by cases r; rfl
theorem m_append : MtM X "list.append" (rMu X.K B mAppend) := by
  intro pins s σ H x xs v us Q I rx rv ⟨F, W, a, ob, ds, P, S, ea, hw, rl, h, hQ⟩
  unfold mAppend at h
  split at h
  · obtain ⟨vs, ha, rl'⟩ := obj_lst S hw
    obtain ⟨y, rfl, ry⟩ := repL1 rl
    exact mt_append pins s σ H x _ v us Q I rx rv ⟨a, vs, y, ea, rfl, ha, by rw [← rl'.length]; exact h.1, hQ _ _ _ _ h.2 (S.write hw (.lst (rl'.append (.cons ry .nil)))) .non⟩
  · exact h.elim
theorem m_insert : MtR X "list.insert" (rMu X.K B mInsert) := by
  intro pins s σ H x xs v us Q I rx rv ⟨F, W, a, ob, ds, P, S, ea, hw, rl, h, hQ⟩
  unfold mInsert at h
  split at h
  · obtain ⟨vs, ha, rl'⟩ := obj_lst S hw
    obtain ⟨z, y, rfl, rz, ry⟩ := repL2 rl
    cases rz
    exact mt_insert pins s σ H x _ v us Q I rx rv ⟨a, vs, _, y, ea, rfl, ha, by rw [← rl'.length]; exact h.1, h.2.1, h.2.2.1, hQ _ _ _ _ h.2.2.2 (S.write hw (.lst (((rl'.take _).append (.cons ry .nil)).append (rl'.drop _)))) .non⟩
  · exact h.elim
theorem RepL.dropLast {K : Fg} {F : Hp} : ∀ {ds : List D} {vs : List V}, RepL K F ds vs → RepL K F ds.dropLast vs.dropLast
  | _, _, .nil => .nil
  | _, _, .cons h .nil => .nil
  | _, _, .cons h (.cons g t) => .cons h (RepL.dropLast (.cons g t))
theorem m_pop : MtM X "list.pop" (rMu X.K B mPop) := by
  intro pins s σ H x xs v us Q I rx rv ⟨F, W, a, ob, ds, P, S, ea, hw, rl, h, hQ⟩
  unfold mPop at h
  split at h
  · obtain ⟨vs, ha, rl'⟩ := obj_lst S hw
    obtain rfl := repL0 rl
    obtain ⟨y, hy, p⟩ := h
    obtain ⟨z, hz, rz⟩ := rl'.get hy
    rw [rl'.length] at hz
    exact mt_pop pins s σ H x _ v us Q I rx rv ⟨a, vs, z, ea, rfl, ha, hz, hQ _ _ _ _ p (S.write hw (.lst rl'.dropLast)) rz⟩
  · exact h.elim
theorem m_reverse : MtM X "list.reverse" (rMu X.K B mReverse) := by
  intro pins s σ H x xs v us Q I rx rv ⟨F, W, a, ob, ds, P, S, ea, hw, rl, h, hQ⟩
  unfold mReverse at h
  split at h
  · obtain ⟨vs, ha, rl'⟩ := obj_lst S hw
    obtain rfl := repL0 rl
    exact mt_reverse pins s σ H x _ v us Q I rx rv ⟨a, vs, ea, rfl, ha, hQ _ _ _ _ h (S.write hw (.lst rl'.reverse)) .non⟩
  · exact h.elim
theorem m_clear : MtM X "list.clear" (rMu X.K B mClear) := by
  intro pins s σ H x xs v us Q I rx rv ⟨F, W, a, ob, ds, P, S, ea, hw, rl, h, hQ⟩
  unfold mClear at h
  split at h
  · obtain ⟨vs, ha, rl'⟩ := obj_lst S hw
    obtain rfl := repL0 rl
    exact mt_clear pins s σ H x _ v us Q I rx rv ⟨a, vs, ea, rfl, ha, hQ _ _ _ _ h (S.write hw (.lst .nil)) .non⟩
  · exact h.elim
def isLst : Ob → Bool
  | .lst _ => true
  | _ => false
/-- o.m(..), o a list of the store -/
def wMu (f : FM) (to : WE) (ta : WA) : WE := fun PX env W P => to PX env W fun d env1 W1 => ∃ a, d = .obj a ∧ (∃ xs, W1 a = some (.lst xs)) ∧ ta PX env1 W1 fun ds env2 W2 => ∃ ob, W2 a = some ob ∧ f ob ds fun d2 ob' => P d2 env2 (W2.put a ob')
variable {f : FM} {o e : Expr} {es : List Expr} {to : WE} {ta : WA} {name : Str} {apos cpos : Pos} {id : String}
theorem s_mu (pa : PlainAttrs "list") (slot : Slot "list" name id) (hty : typeOf (.builtin id) = pure (.type "method_descriptor")) (hm : MtR X id (rMu X.K B f)) (ho : PE X o (liftE X.K B E to)) (ha : PA X (e :: es) (liftA X.K B E ta))
    (hbase : attributeBase o name X.env (eval o X.env) = eval o X.env)
    (hfew : ((backTo cpos (starEach (e :: es) X.env)).all (fun x => !x.1) && (backToKw cpos (keywordEach [] X.env)).all (fun x => x.1.isSome)
      && decide ((e :: es).length + ([] : List Keyword).length + (if ([] : List Keyword).isEmpty then 0 else 1) < 30)) = true)
    (hline : (apos.endLine == cpos.line) = true) (hs : starEach (e :: es) X.env = (false, eval e X.env) :: starEach es X.env) (hpl : (backTo cpos (starEach es X.env)).any (·.1) = false) :
    PE X (.Call (.Attribute o name apos) (e :: es) [] cpos) (liftE X.K B E (wMu f to ta)) :=
  peW (pe_bm pa slot hty hm ho ha hbase hfew hline hs hpl) fun σ H Q ⟨F, env, W, P, PX, S, hE, h, hX, hQ⟩ => by
    refine ⟨F, env, W, _, PX, S, hE, h, hX, fun d env1 W1 F1 H1 v ⟨a, ed, ⟨xs, hw⟩, p1⟩ S1 l1 e1 r1 => ?_⟩
    subst ed
    cases r1
    obtain ⟨vs, hv, _⟩ := obj_lst S1 hw
    refine ⟨.inl ⟨rfl, vs, SqL.of hv⟩, F1, env1, W1, _, PX, S1, e1, p1, hX.mono l1, fun ds env2 W2 F2 H2 us ⟨ob, hw2, p2⟩ S2 l2 e2 r2 => ?_⟩
    exact ⟨F2, W2, a, ob, ds, _, S2, rfl, hw2, r2, p2, fun d2 ob' H' v p T r => hQ d2 env2 _ F2 H' v p T (l1.trans l2) e2 r⟩
theorem s_mu0 (pa : PlainAttrs "list") (slot : Slot "list" name id) (hty : typeOf (.builtin id) = pure (.type "method_descriptor")) (hm : MtR X id (rMu X.K B f)) (ho : PE X o (liftE X.K B E to))
    (hbase : attributeBase o name X.env (eval o X.env) = eval o X.env) (hline : (apos.endLine == cpos.line) = true) :
    PE X (.Call (.Attribute o name apos) [] [] cpos) (liftE X.K B E (wMu f to wNil)) :=
  peW (pe_bm0 pa slot hty hm ho hbase hline) fun σ H Q ⟨F, env, W, P, PX, S, hE, h, hX, hQ⟩ => by
    refine ⟨F, env, W, _, PX, S, hE, h, hX, fun d env1 W1 F1 H1 v ⟨a, ed, ⟨xs, hw⟩, ob, hw2, p2⟩ S1 l1 e1 r1 => ?_⟩
    subst ed
    cases r1
    obtain ⟨vs, hv, _⟩ := obj_lst S1 hw
    exact ⟨.inl ⟨rfl, vs, SqL.of hv⟩, F1, W1, a, ob, [], _, S1, rfl, hw2, .nil, p2, fun d2 ob' H' v p T r => hQ d2 env1 _ F1 H' v p T l1 e1 r⟩
/-! ## o[i] = e -/
def fSet : Ob → D → D → (Ob → Prop) → Prop
  | .lst xs, .int k, d, P => ∃ j, ixN xs.length k = some j ∧ P (.lst (xs.set j d))
  | .dK ds, k, d, P => ∃ q, keyD k = some q ∧ ds.length < sizeLine ∧ P (.dK (putKD ds q d))
  | .dT ds, .tup ks, d, P => ∃ q, keysD ks = some q ∧ ds.length < sizeLine ∧ P (.dT (putKD ds q d))
  | _, _, _, _ => False
def rSetO (K : Fg) (B : Base) : TSet := fun o i v H Q => ∃ F W a ob k d P, Stt K B F W H ∧ o = .ref a ∧ W a = some ob ∧ Rep K F k i ∧ Rep K F d v ∧ fSet ob k d P ∧ ∀ ob' H', P ob' → Stt K B F (W.put a ob') H' → Q H'
theorem set_o (hu : X.A.units + 1 < cLine) : PSet X (rSetO X.K B) := by
  intro pins s σ H o i v ov iv u Q I ro ri rv ⟨F, W, a, ob, k, d, P, S, eo, hw, rk, rd, h, hQ⟩
  unfold fSet at h
  split at h
  · obtain ⟨j, hj, p⟩ := h
    obtain ⟨vs, ha, rl⟩ := obj_lst S hw
    cases rk
    exact set_list pins s σ H o _ v ov iv u Q I ro ri rv ⟨a, vs, _, j, eo, rfl, ha, by rw [← rl.length]; exact hj, hQ _ _ p (S.write hw (.lst (rl.set rd j)))⟩
  · obtain ⟨q, hq, hl, p⟩ := h
    obtain ⟨kvs, ha, ke, rl⟩ := obj_dK S hw
    have e := keyD_rep rk hq
    subst e
    obtain ⟨g1, g2⟩ := putK_rep (k := q) rd ke rl
    exact set_dict hu pins s σ H o _ v ov iv u Q I ro ri rv ⟨a, _, eo, DPut.k ha (by rw [len_keys ke]; exact hl), hQ _ _ p (S.write hw (.dK g1 g2))⟩
  · obtain ⟨q, hq, hl, p⟩ := h
    obtain ⟨kvs, ha, ke, rl⟩ := obj_dT S hw
    cases rk with
    | tup hb rb =>
      have e := keysD_rep rb hq
      subst e
      obtain ⟨g1, g2⟩ := putK_rep (k := q) rd ke rl
      exact set_dict hu pins s σ H o _ v ov iv u Q I ro ri rv ⟨a, _, eo, DPut.t ha (S.sub _ _ hb) (by rw [len_keys ke]; exact hl), hQ _ _ p (S.write hw (.dT g1 g2))⟩
  · exact h.elim
def wSetIx (te to ti : WE) : WStm := fun PX D env W => te PX env W fun d env1 W1 => to PX env1 W1 fun x env2 W2 => ti PX env2 W2 fun k env3 W3 => ∃ a ob, x = .obj a ∧ W3 a = some ob ∧ fSet ob k d fun ob' => D.nx env3 (W3.put a ob')
theorem S_setIx {o i e : Expr} {te to ti : WE} {tpos pos : Pos} (hu : X.A.units + 1 < cLine) (he : PE X e (liftE X.K B E te)) (ho : PE X o (liftE X.K B E to)) (hi : PE X i (liftE X.K B E ti))
    (ha : ∀ v, assign (.Subscript o i tpos) X.env v = (do
      let ov ← holding [v] (eval o X.env)
      let iv ← holding [v, ov] (eval i X.env)
      standAt tpos
      holding [v, ov, iv] (setItem ov iv v)
      release [v, ov, iv] []))
    (hs : swapsWithSole [.Subscript o i tpos] e pos.line X.env = pure false) (hw : swappedStores [.Subscript o i tpos] e X.env = pure none) (h1 : (assignEach [.Subscript o i tpos] X.env).map (·.2) = [assign (.Subscript o i tpos) X.env]) :
    PS X (.Assign [.Subscript o i tpos] e pos) (liftS X.K B E (wSetIx te to ti)) :=
  psW (ps_asg he (pg_sub ho hi (set_o hu) ha) hs hw h1) fun D σ H ⟨F, env, W, P, PX, S, hE, h, hX, h1, h2, h3, h4⟩ => by
    refine ⟨F, env, W, _, PX, S, hE, h, hX, fun d env1 W1 F1 H1 v p1 S1 l1 e1 r1 => ?_⟩
    refine ⟨F1, env1, W1, _, PX, S1, e1, p1, hX.mono l1, fun x env2 W2 F2 H2 xv p2 S2 l2 e2 r2 => ?_⟩
    refine ⟨F2, env2, W2, _, PX, S2, e2, p2, hX.mono (l1.trans l2), fun k env3 W3 F3 H3 kv ⟨a, ob, ex, hw, p3⟩ S3 l3 e3 r3 => ?_⟩
    subst ex
    cases r2
    exact ⟨F3, W3, a, ob, k, d, _, S3, rfl, hw, r3, r1.mono (l2.trans l3), p3, fun ob' H' p T => h1 env3 _ F3 H' σ p T ((l1.trans l2).trans l3) e3⟩
/-! ## o.f = e -/
def wSetFld (C : Addr) (f : Str) (te to : WE) : WStm := fun PX D env W => te PX env W fun d env1 W1 => to PX env1 W1 fun x env2 W2 => ∃ a fs, x = .obj a ∧ W2 a = some (.ins C fs) ∧ fs.length < 1000 ∧ D.nx env2 (W2.put a (.ins C (putD f d fs)))
theorem S_setFld {C : Addr} {f : Str} {o e : Expr} {te to : WE} {tpos pos : Pos} (c : Cls X.K C) (n : NoAttr X.K C f) (he : PE X e (liftE X.K B E te)) (ho : PE X o (liftE X.K B E to)) (hs : swapsWith e (some (.Attribute o f tpos)) pos.line X.env = pure false) :
    PS X (.Assign [.Attribute o f tpos] e pos) (liftS X.K B E (wSetFld C f te to)) :=
  psW (ps_fld ho he hs) fun D σ H ⟨F, env, W, P, PX, S, hE, h, hX, h1, h2, h3, h4⟩ => by
    refine ⟨F, env, W, _, PX, S, hE, h, hX, fun d env1 W1 F1 H1 v p1 S1 l1 e1 r1 => ?_⟩
    refine ⟨F1, env1, W1, _, PX, S1, e1, p1, hX.mono l1, fun x env2 W2 F2 H2 xv ⟨a, fs, ex, hw, hl, p2⟩ S2 l2 e2 r2 => ?_⟩
    subst ex
    cases r2
    obtain ⟨_, o', ho', ro⟩ := S2.obj a _ hw
    cases ro with
    | ins ke rl =>
      obtain ⟨g1, g2⟩ := put_rep (f := f) (r1.mono l2) ke rl
      exact ⟨a, C, _, _, rfl, ho', c, n, by rw [len_keys ke]; exact hl, h1 env2 _ F2 _ σ p2 (S2.write hw (.ins g1 g2)) (l1.trans l2) e2⟩
end
end DL

set_option maxRecDepth 100000
set_option maxHeartbeats 4000000
set_option linter.all false
namespace DL
open PySem PySem.Spec PyProof.Rows L2
section
variable {X : Cx} {B : Base} {E : XK} {k n : Nat} {f C : Addr} {fd : FuncData} {ps ks : List Str} {sp : DSp} {x m : Str} {p pos apos : Pos} {e o : Expr} {es : List Expr} {kws : List Keyword} {ta tk : WA} {to : WE}
/-! ## C(..) -/
theorem RG.make {A : Around} (h : RG (k + 1) A) (C : Addr) (us : List Value) (kw : List (Str × Value)) : RG k (A.under (.builtin "type.__call__" ⟨.ref C :: us, kw⟩)) :=
  ⟨h.r.make C us kw, by
    have e : (A.under (.builtin "type.__call__" ⟨.ref C :: us, kw⟩)).guards = A.guards := by
      first | rfl | simp [Around.under, Code.isGuard, guardIds]
    rw [e]; exact h.g⟩
/-- how a call with n values and the keywords ks binds: the keywords' values by their places in pk -/
def pick {α : Type} (pk : List Nat) (ws : List α) : List α := pk.filterMap fun i => ws[i]?
structure KBd (K : Fg) (fd : FuncData) (ps : List Str) (n : Nat) (ks : List Str) (pk : List Nat) : Prop where
  to : ∀ (s : Shared) (us ws : List Value), K.In s.heap → us.length = n → ws.length = ks.length → BindsTo s fd ⟨us, ks.zip ws⟩ (ps.zip (us ++ pick pk ws))
theorem vals_pick {vs : List V} {us : List Value} (r : Vals vs us) : ∀ pk : List Nat, Vals (pick pk vs) (pick pk us)
  | [] => .nil
  | i :: pk => by
    have ih := vals_pick r pk
    unfold pick at ih ⊢
    rw [List.filterMap_cons, List.filterMap_cons]
    cases q : vs[i]? with
    | none =>
      have : us[i]? = none := by
        rw [List.getElem?_eq_none_iff] at q ⊢
        rw [← r.length]; exact q
      rw [this]
      exact ih
    | some v =>
      obtain ⟨u, hu, ru⟩ := r.get q
      rw [hu]
      exact .cons ru ih
theorem repL_pick {K : Fg} {F : Hp} {ds : List D} {vs : List V} (r : RepL K F ds vs) : ∀ pk : List Nat, RepL K F (pick pk ds) (pick pk vs)
  | [] => .nil
  | i :: pk => by
    have ih := repL_pick r pk
    unfold pick at ih ⊢
    rw [List.filterMap_cons, List.filterMap_cons]
    cases q : ds[i]? with
    | none =>
      have : vs[i]? = none := by
        rw [List.getElem?_eq_none_iff] at q ⊢
        rw [← r.length]; exact q
      rw [this]
      exact ih
    | some v =>
      obtain ⟨u, hu, ru⟩ := r.get q
      rw [hu]
      exact .cons ru ih
theorem runDk {pins : List (Addr × Obj)} {σ : L2.St} {H : Hp} {s : Shared} {Q : VK} {us ws : List Value} {vs zs : List V} {pk : List Nat} (G : FnD X.prog X.w X.K X.mg X.base k f fd ps sp) (hr : RG k X.A) (hb : KBd X.K fd ps n ks pk) (hx : Passes (L2.CX X.prog X.w) X E)
    (I : Inv X pins σ H s) (r : Vals vs us) (rz : Vals zs ws) (l1 : vs.length = n) (l2 : zs.length = ks.length) (h : spD X.K sp (vs ++ pick pk zs) H Q E) : wpAny (model X.prog X.w) X.A (call (.ref f) us (ks.zip ws)) (EP X pins σ Q) X.xe s := by
  have hbd := hb.to s us ws I.kIn (r.length.symm.trans l1) (rz.length.symm.trans l2)
  refine wpAny_call (codeAny_mono (G.run X.A X.stack s H ⟨us, ks.zip ws⟩ _ _ Q E hr I.env0 hbd (r.append (vals_pick rz pk)) h) fun r s' hq => ?_)
  cases r with
  | error e => exact hx pins σ H s e s' I hq
  | ok fl => cases fl with
    | ret u => exact I.after hq
    | _ => exact False.elim hq
theorem runMk {pins : List (Addr × Obj)} {σ : L2.St} {H : Hp} {s : Shared} {Q : VK} {us ws : List Value} {vs zs : List V} {pk : List Nat} (M : Mk X.K C f) (G : FnD X.prog X.w X.K X.mg X.base k f fd ps sp) (hr : RG (k + 1) X.A) (hb : KBd X.K fd ps (n + 1) ks pk) (hx : Passes (L2.CX X.prog X.w) X E)
    (I : Inv X pins σ H s) (r : Vals vs us) (rz : Vals zs ws) (l1 : vs.length = n) (l2 : zs.length = ks.length)
    (h : ∀ x dx, H x = none → H dx = none → dx ≠ x → spD X.K sp ((.ref x :: vs) ++ pick pk zs) (upd (upd H dx (.own x)) x (.ins C dx [])) (fun v H2 => v = .non ∧ Q (.ref x) H2) E) :
    wpAny (model X.prog X.w) X.A (call (.ref C) us (ks.zip ws)) (EP X pins σ Q) X.xe s := by
  have hq := h (s.heap.objs.size + 1) s.heap.objs.size (I.hok.fresh (Nat.le_succ _)) (I.hok.fresh (Nat.le_refl _)) (Nat.ne_of_lt (Nat.lt_succ_self _))
  have I2 := Inv.made (C := C) I
  have r1 : Vals (V.ref (s.heap.objs.size + 1) :: vs) (Value.ref (s.heap.objs.size + 1) :: us) := .cons rfl r
  have hbd := fun s' (I' : X.K.In s'.heap) => hb.to s' (Value.ref (s.heap.objs.size + 1) :: us) ws I' (by rw [List.length_cons, ← r.length, l1]) (rz.length.symm.trans l2)
  refine wpAny_call (make_map (f := f) I.kIn M.makes M.init (beq_iff_eq.mp M.fn) (codeAny_mono (G.run _ X.stack _ _ ⟨Value.ref (s.heap.objs.size + 1) :: us, ks.zip ws⟩ _ _ _ E (hr.make C us (ks.zip ws))
    (I2.env0.make C us (ks.zip ws)) (hbd _ I2.kIn) (r1.append (vals_pick rz pk)) hq) fun r s' hq' => ?_))
  cases r with
  | error e => exact hx pins σ _ _ e s' I2 hq'
  | ok fl => cases fl with
    | ret u =>
      obtain ⟨v, H', I3, rv, ev, q3⟩ := I2.after hq'
      subst ev
      exact ⟨rv, ⟨V.ref (s.heap.objs.size + 1), H', I3, rfl, q3⟩⟩
    | _ => exact False.elim hq'
/-- keywords, as arguments -/
theorem pkW {t t' : TA} (h : PK X kws t) (hw : ∀ σ H Q, t' σ H Q → t σ H Q) : PK X kws t' := ⟨fun ps pins s σ H Q I q => h.run ps pins s σ H Q I (hw σ H Q q)⟩
theorem s_pknil : PK X [] (liftA X.K B E wNil) := pkW pk_nil fun σ H Q ⟨F, env, W, P, PX, S, hE, p, _, hQ⟩ => hQ [] env W F H [] p S (Le.refl _) hE .nil
theorem s_pkcons {nm : Option Str} {kpos : Pos} {te : WE} (ha : PE X e (liftE X.K B E te)) (hr : PK X kws (liftA X.K B E tk)) : PK X (⟨nm, e, kpos⟩ :: kws) (liftA X.K B E (wCons te tk)) :=
  pkW (pk_cons ha hr) fun σ H Q ⟨F, env, W, P, PX, S, hE, h, hX, hQ⟩ => by
    refine ⟨F, env, W, _, PX, S, hE, h, hX, fun d1 env1 W1 F1 H1 v1 p1 S1 l1 e1 r1 => ?_⟩
    refine ⟨F1, env1, W1, _, PX, S1, e1, p1, hX.mono l1, fun d2 env2 W2 F2 H2 v2 p2 S2 l2 e2 r2 => ?_⟩
    exact hQ _ env2 W2 F2 H2 _ p2 S2 (l1.trans l2) e2 (.cons (r1.mono l2) r2)
def wMakeK (C : Addr) (sp : DSp) (n m : Nat) (pk : List Nat) (ta tk : WA) : WE := fun PX env W P => ta PX env W fun ds env1 W1 => tk PX env1 W1 fun zs env2 W2 => ds.length = n ∧ zs.length = m ∧
  ∀ a, W2 a = none → sp ((.obj a :: ds) ++ pick pk zs) (W2.put a (.ins C [])) (fun d W3 => d = .non ∧ P (.obj a) env2 W3) PX
def wCallK (sp : DSp) (n m : Nat) (pk : List Nat) (ta tk : WA) : WE := fun PX env W P => ta PX env W fun ds env1 W1 => tk PX env1 W1 fun zs env2 W2 => ds.length = n ∧ zs.length = m ∧
  sp (ds ++ pick pk zs) W2 (fun d W3 => P d env2 W3) PX
theorem makeK_go {σ : L2.St} {H : Hp} {Q : VK} {pk : List Nat} (h : liftE X.K B E (wMakeK C sp n ks.length pk ta tk) σ H Q) : liftA X.K B E ta σ H fun vs H1 => liftA X.K B E tk σ H1 fun zs H2 => vs.length = n ∧ zs.length = ks.length ∧
    ∀ x dx, H2 x = none → H2 dx = none → dx ≠ x → spD X.K sp ((.ref x :: vs) ++ pick pk zs) (upd (upd H2 dx (.own x)) x (.ins C dx [])) (fun v H3 => v = .non ∧ Q (.ref x) H3) E := by
  obtain ⟨F, env, W, P, PX, S, hE, h, hX, hQ⟩ := h
  refine ⟨F, env, W, _, PX, S, hE, h, hX, fun ds env1 W1 F1 H1 vs p1 S1 l1 e1 r1 => ?_⟩
  refine ⟨F1, env1, W1, _, PX, S1, e1, p1, hX.mono l1, fun zs env2 W2 F2 H2 us ⟨n1, n2, p2⟩ S2 l2 e2 r2 => ?_⟩
  refine ⟨by rw [← r1.length]; exact n1, by rw [← r2.length]; exact n2, ?_⟩
  exact make_go (C := C) (sp := fun ds W P PX => sp ds W P PX) (P := fun d W3 => P d env2 W3) S2 ((r1.mono l2).append (repL_pick r2 pk)) (hX.mono (l1.trans l2)) p2 fun d W' F' H' v p T l r => hQ d env2 W' F' H' v p T ((l1.trans l2).trans l) (e2.mono l) r
theorem s_make {pk : List Nat} (M : Mk X.K C f) (G : FnD X.prog X.w X.K X.mg X.base k f fd ps sp) (hr : RG (k + 1) X.A) (hg : Gl X x) (hm : X.mg x = some (.ref C)) (hb : KBd X.K fd ps (n + 1) ks pk) (hx : Passes (L2.CX X.prog X.w) X E)
    (ha : PA X (e :: es) (liftA X.K B E ta)) (hkw : PK X kws (liftA X.K B E tk)) (hall : (backToKw pos (keywordEach kws X.env)).all (·.1.isSome) = true) (hks : (backToKw pos (keywordEach kws X.env)).filterMap (·.1) = ks) (hdb : (x == ("__debug__" : Str)) = false)
    (he : starEach (e :: es) X.env = (false, eval e X.env) :: starEach es X.env) (hpl : ((backTo pos (starEach (e :: es) X.env)).any (·.1) || (backToKw pos (keywordEach kws X.env)).any (·.1.isNone)) = false) :
    PE X (.Call (.Name x p) (e :: es) kws pos) (liftE X.K B E (wMakeK C sp n ks.length pk ta tk)) := by
  refine ⟨fun pins s σ H Q I h => ?_⟩
  refine wpAny_Call_Name_kw (ld_glob I hg hm ?_ hdb)
  refine PySem.W.callWith_KW (h₀ := X.base) I.ok.mod.kin M.kp hall (thn (ha.run pos pins s σ H _ I (makeK_go h)) fun us s1 ⟨vs, H1, I1, r, q⟩ => ?_) hpl he
  refine thn (hkw.run pos pins s1 σ H1 _ I1 q) fun ws s2 ⟨zs, H2, I2, rz, l1, l2, q2⟩ => ⟨I2.kIn, ?_⟩
  rw [hks]
  exact runMk M G hr hb hx I2 r rz l1 l2 q2
theorem s_makeK0 {pk : List Nat} (M : Mk X.K C f) (G : FnD X.prog X.w X.K X.mg X.base k f fd ps sp) (hr : RG (k + 1) X.A) (hg : Gl X x) (hm : X.mg x = some (.ref C)) (hb : KBd X.K fd ps 1 ks pk) (hx : Passes (L2.CX X.prog X.w) X E)
    (hkw : PK X kws (liftA X.K B E tk)) (hall : (backToKw pos (keywordEach kws X.env)).all (·.1.isSome) = true) (hks : (backToKw pos (keywordEach kws X.env)).filterMap (·.1) = ks) (hdb : (x == ("__debug__" : Str)) = false)
    (hpl : ((backTo pos (starEach [] X.env)).any (·.1) || (backToKw pos (keywordEach kws X.env)).any (·.1.isNone)) = false) :
    PE X (.Call (.Name x p) [] kws pos) (liftE X.K B E (wMakeK C sp 0 ks.length pk wNil tk)) := by
  refine ⟨fun pins s σ H Q I h => ?_⟩
  obtain ⟨F, env, W, P, PX, S, hE, h, hX, hQ⟩ := makeK_go h
  have h' := hQ [] env W F H [] h S (Le.refl _) hE .nil
  refine wpAny_Call_Name_kw (ld_glob I hg hm ?_ hdb)
  refine PySem.W.callWith_KW0 (h₀ := X.base) I.ok.mod.kin M.kp hall ?_ hpl
  refine thn (hkw.run pos pins s σ H _ I h') fun ws s2 ⟨zs, H2, I2, rz, l1, l2, q2⟩ => ⟨I2.kIn, ?_⟩
  rw [hks]
  exact runMk (us := []) (vs := []) M G hr hb hx I2 .nil rz rfl l2 q2
theorem callK_go {σ : L2.St} {H : Hp} {Q : VK} {pk : List Nat} (h : liftE X.K B E (wCallK sp n ks.length pk ta tk) σ H Q) : liftA X.K B E ta σ H fun vs H1 => liftA X.K B E tk σ H1 fun zs H2 => vs.length = n ∧ zs.length = ks.length ∧ spD X.K sp (vs ++ pick pk zs) H2 Q E := by
  obtain ⟨F, env, W, P, PX, S, hE, h, hX, hQ⟩ := h
  refine ⟨F, env, W, _, PX, S, hE, h, hX, fun ds env1 W1 F1 H1 vs p1 S1 l1 e1 r1 => ?_⟩
  refine ⟨F1, env1, W1, _, PX, S1, e1, p1, hX.mono l1, fun zs env2 W2 F2 H2 us ⟨n1, n2, p2⟩ S2 l2 e2 r2 => ?_⟩
  refine ⟨by rw [← r1.length]; exact n1, by rw [← r2.length]; exact n2, ?_⟩
  exact spD_of S2 ((r1.mono l2).append (repL_pick r2 pk)) p2 (hX.mono (l1.trans l2)) fun d W' F' H' v p T l r => hQ d env2 W' F' H' v p T ((l1.trans l2).trans l) (e2.mono l) r
theorem s_callK {pk : List Nat} (G : FnD X.prog X.w X.K X.mg X.base k f fd ps sp) (hr : RG k X.A) (hg : Gl X x) (hm : X.mg x = some (.ref f)) (hk : PySem.W.keepIn X.K (.ref f) = true) (hb : KBd X.K fd ps n ks pk) (hx : Passes (L2.CX X.prog X.w) X E)
    (ha : PA X (e :: es) (liftA X.K B E ta)) (hkw : PK X kws (liftA X.K B E tk)) (hall : (backToKw pos (keywordEach kws X.env)).all (·.1.isSome) = true) (hks : (backToKw pos (keywordEach kws X.env)).filterMap (·.1) = ks) (hdb : (x == ("__debug__" : Str)) = false)
    (he : starEach (e :: es) X.env = (false, eval e X.env) :: starEach es X.env) (hpl : ((backTo pos (starEach (e :: es) X.env)).any (·.1) || (backToKw pos (keywordEach kws X.env)).any (·.1.isNone)) = false) :
    PE X (.Call (.Name x p) (e :: es) kws pos) (liftE X.K B E (wCallK sp n ks.length pk ta tk)) := by
  refine ⟨fun pins s σ H Q I h => ?_⟩
  refine wpAny_Call_Name_kw (ld_glob I hg hm ?_ hdb)
  refine PySem.W.callWith_KW (h₀ := X.base) I.ok.mod.kin hk hall (thn (ha.run pos pins s σ H _ I (callK_go h)) fun us s1 ⟨vs, H1, I1, r, q⟩ => ?_) hpl he
  refine thn (hkw.run pos pins s1 σ H1 _ I1 q) fun ws s2 ⟨zs, H2, I2, rz, l1, l2, q2⟩ => ⟨I2.kIn, ?_⟩
  rw [hks]
  exact runDk G hr hb hx I2 r rz l1 l2 q2
theorem s_callK0 {pk : List Nat} (G : FnD X.prog X.w X.K X.mg X.base k f fd ps sp) (hr : RG k X.A) (hg : Gl X x) (hm : X.mg x = some (.ref f)) (hk : PySem.W.keepIn X.K (.ref f) = true) (hb : KBd X.K fd ps 0 ks pk) (hx : Passes (L2.CX X.prog X.w) X E)
    (hkw : PK X kws (liftA X.K B E tk)) (hall : (backToKw pos (keywordEach kws X.env)).all (·.1.isSome) = true) (hks : (backToKw pos (keywordEach kws X.env)).filterMap (·.1) = ks) (hdb : (x == ("__debug__" : Str)) = false)
    (hpl : ((backTo pos (starEach [] X.env)).any (·.1) || (backToKw pos (keywordEach kws X.env)).any (·.1.isNone)) = false) :
    PE X (.Call (.Name x p) [] kws pos) (liftE X.K B E (wCallK sp 0 ks.length pk wNil tk)) := by
  refine ⟨fun pins s σ H Q I h => ?_⟩
  obtain ⟨F, env, W, P, PX, S, hE, h, hX, hQ⟩ := callK_go h
  have h' := hQ [] env W F H [] h S (Le.refl _) hE .nil
  refine wpAny_Call_Name_kw (ld_glob I hg hm ?_ hdb)
  refine PySem.W.callWith_KW0 (h₀ := X.base) I.ok.mod.kin hk hall ?_ hpl
  refine thn (hkw.run pos pins s σ H _ I h') fun ws s2 ⟨zs, H2, I2, rz, l1, l2, q2⟩ => ⟨I2.kIn, ?_⟩
  rw [hks]
  exact runDk (us := []) (vs := []) G hr hb hx I2 .nil rz rfl l2 q2
/-- o.m(k = v, ..) -/
def wMethK (C : Addr) (m : Str) (sp : DSp) (q : Nat) (pk : List Nat) (to : WE) (tk : WA) : WE := fun PX env W P => to PX env W fun d env1 W1 => ∃ fs, view W1 d = .ins C fs ∧ lookD m fs = none ∧
  tk PX env1 W1 fun zs env2 W2 => zs.length = q ∧ sp ([d] ++ pick pk zs) W2 (fun d W3 => P d env2 W3) PX
theorem s_methK {pl : Sem Bool} {pk : List Nat} (c : Cls X.K C) (hmt : Meth X.K C m f) (G : FnD X.prog X.w X.K X.mg X.base k f fd ps sp) (hr : RG k X.A) (hb : KBd X.K fd ps 1 ks pk) (hx : Passes (L2.CX X.prog X.w) X E) (ho : PE X o (liftE X.K B E to))
    (hkw : PK X kws (liftA X.K B E tk)) (hall : (backToKw pos (keywordEach kws X.env)).all (·.1.isSome) = true) (hks : (backToKw pos (keywordEach kws X.env)).filterMap (·.1) = ks)
    (hpl : ((backTo pos (starEach [] X.env)).any (·.1) || (backToKw pos (keywordEach kws X.env)).any (·.1.isNone)) = false)
    (ht : eval (.Call (.Attribute o m apos) [] kws pos) X.env = (do
      let ov ← eval o X.env
      standAt apos.atName
      let (f, first) ← holding [ov] (getMethod ov m pl)
      callWith pos f first (backTo pos (starEach [] X.env)) (backToKw pos (keywordEach kws X.env)))) :
    PE X (.Call (.Attribute o m apos) [] kws pos) (liftE X.K B E (wMethK C m sp ks.length pk to tk)) := by
  refine ⟨fun pins s σ H Q I ⟨F, env, W, P, PX, S, hE, h, hX, hQ⟩ => ?_⟩
  refine PySem.W.methodCall_KW (pl := pl) (thn (ho.run pins s σ H (fun v H1 => ∃ a dx gs, v = .ref a ∧ H1 a = some (.ins C dx gs) ∧ gs.lookup m = none ∧ liftA X.K B E tk σ H1 fun zs H2 => zs.length = ks.length ∧ spD X.K sp ([.ref a] ++ pick pk zs) H2 Q E) I
    ⟨F, env, W, _, PX, S, hE, h, hX, fun d env1 W1 F1 H1 v ⟨fs, hv, hy, p1⟩ S1 l1 e1 r1 => ?_⟩) fun u s1 ⟨v, H1, I1, rv, a, dx, gs, ev, ha1, hl, q⟩ => ?_) ht
  · obtain ⟨b, dx, gs, rfl, hb, ke, rl⟩ := view_ins S1 r1 hv
    refine ⟨b, dx, gs, rfl, hb, (look_rep (f := m) ke rl).2 hy, F1, env1, W1, _, PX, S1, e1, p1, hX.mono l1, fun zs env2 W2 F2 H2 us ⟨n2, p2⟩ S2 l2 e2 r2 => ⟨by rw [← r2.length]; exact n2, ?_⟩⟩
    exact spD_of S2 ((RepL.cons (r1.mono l2) .nil).append (repL_pick r2 pk)) p2 (hX.mono (l1.trans l2)) fun d3 W3 F3 H3 v p3 S3 l3 r3 => hQ d3 env2 W3 F3 H3 v p3 S3 ((l1.trans l2).trans l3) (e2.mono l3) r3
  · subst ev
    obtain rfl : u = Value.ref a := rv
    refine getmeth_ok I1 ha1 c hmt hl ?_
    refine PySem.W.callWith_KW0 (h₀ := X.base) I1.ok.mod.kin hmt.kp hall ?_ hpl
    refine thn (hkw.run pos pins s1 σ H1 _ I1 q) fun ws s2 ⟨zs, H2, I2, rz, l2, q2⟩ => ⟨I2.kIn, ?_⟩
    rw [hks]
    exact runDk (us := [.ref a]) (vs := [.ref a]) G hr hb hx I2 (.cons rfl .nil) rz rfl l2 q2
end
end DL

set_option maxRecDepth 100000
set_option maxHeartbeats 4000000
set_option linter.all false
namespace DL
open PySem PySem.Spec PyProof.Rows L2
section
variable {X : Cx} {B : Base} {E : XK}
/-! ## an own == -/
def fOwn (C : Addr) (sp : DSp) (a b : D) (W : WS) (P : D → WS → Prop) : Prop := (∃ fs, view W a = .ins C fs) ∧ (∃ C2 gs, view W b = .ins C2 gs ∧ C2 = C) ∧ sp [a, b] W (fun d W2 => (∃ k, d = .bl k) ∧ P d W2) noX
def wOwn (C : Addr) (sp : DSp) (ta tb : WE) : WE := fun PX env W P => ta PX env W fun d1 env1 W1 => tb PX env1 W1 fun d2 env2 W2 => fOwn C sp d1 d2 W2 fun d W3 => P d env2 W3
def rOwn (K : Fg) (B : Base) (C : Addr) (sp : DSp) : R2 := fun x y H Q => ∃ F W d1 d2 P, Stt K B F W H ∧ Rep K F d1 x ∧ Rep K F d2 y ∧ fOwn C sp d1 d2 W P ∧ ∀ d v W' F' H', P d W' → Stt K B F' W' H' → Le F F' → Rep K F' d v → Q v H'
theorem o_own {k : Nat} {f C : Addr} {fd : FuncData} {ps : List Str} {sp : DSp} (G : FnD X.prog X.w X.K X.mg X.base k f fd ps sp) (hr : RG k X.A) (hs : PySem.W.findIn X.K (.ref C) "__eq__" = some (some (.ref f))) (hf : PySem.W.isFn X.K (.ref f) = true) (hb : Binds X.K fd ps []) : OpR X (compareOp .Eq) (rOwn X.K B C sp) := by
  intro pins s σ H x y v u Q I rx ry ⟨F, W, d1, d2, P, S, r1, r2, ⟨⟨fs, hv1⟩, ⟨C2, gs, hv2, hC⟩, h⟩, hQ⟩
  obtain ⟨a, dx, fa, rfl, ha, _, _⟩ := view_ins S r1 hv1
  obtain ⟨b, dy, fb, rfl, hb', _, _⟩ := view_ins S r2 hv2
  show wpAny (model X.prog X.w) X.A (richCompare .Eq v u) (EP X pins σ Q) X.xe s
  cases rx
  cases ry
  obtain ⟨mA, J, _⟩ := ins_get I.hok ha
  obtain ⟨mB, J', _⟩ := ins_get I.hok hb'
  obtain ⟨od, J, _⟩ := J.look
  obtain ⟨od', J', _⟩ := J'.look
  obtain ⟨m, hF⟩ := I.fr
  subst hC
  refine PySem.W.cmp_K (op := .Eq) (tb := .ref C2) (Nat.lt_of_le_of_lt (Nat.le_add_right _ 0) hr.r.units0) hF I.ok.mod.kin J J'.type (by simp [PySem.W.notFirst]) hs hf ?_
  have hsp : spD X.K sp [.ref a, .ref b] H (fun v H' => (∃ k, v = .bl k) ∧ Q v H') (fun _ _ _ => False) :=
    spD_of (PX := noX) S (.cons r1 (.cons r2 .nil)) h noX_ok fun d W' F' H' v ⟨⟨k, ek⟩, p⟩ T l r => by
      subst ek
      cases r
      exact ⟨⟨k, rfl⟩, hQ _ _ W' F' H' p T l (.bl k)⟩
  have hl : ([Value.ref a, Value.ref b] ++ ([] : List Value)).length = ps.length := by
    rw [← spD_len G.len _ _ _ _ hsp]; rfl
  refine wpAny_call (codeAny_mono (G.run X.A X.stack s H ⟨[.ref a, .ref b], []⟩ [.ref a, .ref b] [.ref a, .ref b] _ (fun _ _ _ => False) hr I.env0 (hb s [.ref a, .ref b] I.kIn hl) (.cons rfl (.cons rfl .nil)) hsp) fun r s' hq => ?_)
  cases r with
  | error e => obtain ⟨_, _, _, _, _, _, _, _, _, _, _, _, z⟩ := hq; exact False.elim z
  | ok fl => cases fl with
    | ret w =>
      obtain ⟨z, H', I', rz, ⟨k, ez⟩, q⟩ := I.after hq
      subst ez
      cases rz
      exact ⟨.bl k, H', I', rfl, q⟩
    | _ => exact False.elim hq
theorem s_own {a b : Expr} {ta tb : WE} {pos : Pos} {k : Nat} {f C : Addr} {fd : FuncData} {ps : List Str} {sp : DSp} (G : FnD X.prog X.w X.K X.mg X.base k f fd ps sp) (hr : RG k X.A) (hs : PySem.W.findIn X.K (.ref C) "__eq__" = some (some (.ref f))) (hf : PySem.W.isFn X.K (.ref f) = true) (hb : Binds X.K fd ps [])
    (ha : PE X a (liftE X.K B E ta)) (hb2 : PE X b (liftE X.K B E tb)) (hm : behindInMarks .Eq b = false) : PE X (.Compare a [.Eq] [b] pos) (liftE X.K B E (wOwn C sp ta tb)) :=
  peW (pe_cmpR (o_own G hr hs hf hb) ha hb2 hm) fun σ H Q ⟨F, env, W, P, PX, S, hE, h, hX, hQ⟩ => by
    refine ⟨F, env, W, _, PX, S, hE, h, hX, fun d1 env1 W1 F1 H1 v1 p1 S1 l1 e1 r1 => ?_⟩
    refine ⟨F1, env1, W1, _, PX, S1, e1, p1, hX.mono l1, fun d2 env2 W2 F2 H2 v2 p2 S2 l2 e2 r2 => ?_⟩
    exact ⟨F2, W2, d1, d2, _, S2, r1.mono l2, r2, p2, fun d v W3 F3 H3 p3 S3 l3 r3 => hQ d env2 W3 F3 H3 v p3 S3 ((l1.trans l2).trans l3) (e2.mono l3) r3⟩
/-! ## isinstance(o, C), o an instance of the class at C -/
structure IsOk (K : Fg) (C : Addr) : Prop where
  cl : Cls K C
  ha : PySem.W.findIn K (.ref C) "__class__" = some (some (.builtin "object.__class__"))
  hn : PySem.W.specialIn K (.builtin "object.__class__") "__get__" = some (some (.builtin "getset_descriptor.__get__"))
  htk : PySem.W.takesIn K (.builtin "object.__class__") = some true
  hm : PySem.W.mroIn K C (.type "object") = some true
  one : PySem.W.kitOne K (.ref C) (.ref C) = some true
def fIsi (C : Addr) : FL := fun ds W P => match ds with
  | [d, c] => (∃ C2 fs, view W d = .ins C2 fs ∧ C2 = C) ∧ c = .obj C ∧ P (.bl true)
  | _ => False
theorem c_isi {C : Addr} (k : IsOk X.K C) : CallR X (.builtin "isinstance") (rDL X.K B (fIsi C)) := by
  intro pins s σ H xs us Q I r ⟨F, W, ds, P, S, rl, h, o⟩
  unfold fIsi at h
  split at h
  · obtain ⟨v, c, rfl, rv, rc⟩ := repL2 rl
    obtain ⟨⟨C2, fs, hv, eC⟩, ec, p⟩ := h
    subst ec eC
    obtain ⟨a, dx, gs, rfl, ha, _, _⟩ := view_ins S rv hv
    cases rc
    exact call_isi pins s σ H _ us Q I r ⟨_, _, _, _, true, rfl, .own C2, .base (.ins ha k.cl k.ha k.hn k.htk k.hm), k.one, out0 S o p (.bl _)⟩
  · exact h.elim
/-- a module's class, as a value -/
theorem s_cls {x : Str} {p : Pos} {C : Addr} (h : PE X (.Name x p) (tC (.ref C))) : PE X (.Name x p) (liftE X.K B E (wC (.obj C))) := s_const h fun F => .obj C
/-! ## xs[::-1] -/
theorem s_rev {e : Expr} {t : WE} {k : Nat} {p1 p2 p3 pos : Pos} (he : PE X e (liftE X.K B E t)) : PE X (.Subscript e (.Slice none none (some (.UnaryOp .USub (.Constant (.int 1) k p1) p2)) p3) pos) (liftF X.K B E (wRev t)) :=
  peW (pe_revL he) fun σ H Q ⟨F, env, W, P, PX, S, hE, h, hX, hQ⟩ => by
    refine ⟨F, env, W, _, PX, S, hE, h, hX, fun d env1 W1 F1 H1 v ⟨ds, hv, p1⟩ S1 l1 e1 r1 => ?_⟩
    obtain ⟨a, vs, rfl, hs, rl⟩ := view_lst S1 r1 hv
    refine ⟨a, vs, rfl, hs, fun q hq => ?_⟩
    obtain ⟨z1, z2, z3, z4⟩ := laidF (o := .lst vs.reverse) S1 hq
    exact hQ _ env1 W1 F1 _ q _ p1 z1 l1 e1 upd_same z2 z3 z4 (.lst rl.reverse)
/-! ## a, b = x, y; a, b, c = x, y, z -/
def wPar2 (i j : Nat) (ta : WA) : WStm := fun PX D env W => ta PX env W fun ds env1 W1 => match ds with
  | [d, e] => D.nx ((env1.set i (some d)).set j (some e)) W1
  | _ => False
def wPar3 (i j l : Nat) (ta : WA) : WStm := fun PX D env W => ta PX env W fun ds env1 W1 => match ds with
  | [d, e, f] => D.nx (((env1.set i (some d)).set j (some e)).set l (some f)) W1
  | _ => False
theorem S_par {i j : Nat} {x y : Str} {a b : Expr} {ta : WA} {px py pt pos : Pos} {kt k2 : Nat} {pt2 : Pos} (hc : X.calm = true) (hN : X.N.Nodup) (hi : X.N[i]? = some x) (hj : X.N[j]? = some y) (hij : i ≠ j)
    (hx : X.env.scope.names.lookup x = some .local) (hy : X.env.scope.names.lookup y = some .local) (ha : PA X [a, b] (liftA X.K B E ta))
    (hw : swappedStores [.Tuple [.Name x px, .Name y py] kt pt] (.Tuple [a, b] k2 pt2) X.env = pure (some [x, y]))
    (hs : swapsWithSole [.Tuple [.Name x px, .Name y py] kt pt] (.Tuple [a, b] k2 pt2) pos.line X.env = pure false) :
    PS X (.Assign [.Tuple [.Name x px, .Name y py] kt pt] (.Tuple [a, b] k2 pt2) pos) (liftS X.K B E (wPar2 i j ta)) :=
  psW (ps_par hc hN hi hj hij hx hy ha hw hs) fun D σ H ⟨F, env, W, P, PX, S, hE, h, hX, h1, h2, h3, h4⟩ => by
    refine ⟨F, env, W, _, PX, S, hE, h, hX, fun ds env1 W1 F1 H1 vs p1 S1 l1 e1 r1 => ?_⟩
    split at p1
    · obtain ⟨v, w, rfl, rv, rw'⟩ := repL2 r1
      exact ⟨v, w, rfl, h1 _ W1 F1 H1 _ p1 S1 l1 ((e1.set rv).set rw')⟩
    · exact p1.elim
theorem repL3 {K : Fg} {F : Hp} {d e f : D} {vs : List V} (r : RepL K F [d, e, f] vs) : ∃ u v w, vs = [u, v, w] ∧ Rep K F d u ∧ Rep K F e v ∧ Rep K F f w := by
  cases r with
  | cons r1 r => cases r with
    | cons r2 r => cases r with
      | cons r3 r => cases r; exact ⟨_, _, _, rfl, r1, r2, r3⟩
theorem S_par3 {i j l : Nat} {x y z : Str} {a b c : Expr} {ta : WA} {px py pz pt pos : Pos} {kt k2 : Nat} {pt2 : Pos} (hc : X.calm = true) (hN : X.N.Nodup) (hi : X.N[i]? = some x) (hj : X.N[j]? = some y) (hl : X.N[l]? = some z) (hij : i ≠ j) (hil : i ≠ l) (hjl : j ≠ l)
    (hx : X.env.scope.names.lookup x = some .local) (hy : X.env.scope.names.lookup y = some .local) (hz : X.env.scope.names.lookup z = some .local) (ha : PA X [a, b, c] (liftA X.K B E ta))
    (hw : swappedStores [.Tuple [.Name x px, .Name y py, .Name z pz] kt pt] (.Tuple [a, b, c] k2 pt2) X.env = pure (some [x, y, z]))
    (hs : swapsWithSole [.Tuple [.Name x px, .Name y py, .Name z pz] kt pt] (.Tuple [a, b, c] k2 pt2) pos.line X.env = pure false) :
    PS X (.Assign [.Tuple [.Name x px, .Name y py, .Name z pz] kt pt] (.Tuple [a, b, c] k2 pt2) pos) (liftS X.K B E (wPar3 i j l ta)) :=
  psW (ps_par3 hc hN hi hj hl hij hil hjl hx hy hz ha hw hs) fun D σ H ⟨F, env, W, P, PX, S, hE, h, hX, h1, h2, h3, h4⟩ => by
    refine ⟨F, env, W, _, PX, S, hE, h, hX, fun ds env1 W1 F1 H1 vs p1 S1 l1 e1 r1 => ?_⟩
    split at p1
    · obtain ⟨u, v, w, rfl, ru, rv, rw'⟩ := repL3 r1
      exact ⟨u, v, w, rfl, h1 _ W1 F1 H1 _ p1 S1 l1 (((e1.set ru).set rv).set rw')⟩
    · exact p1.elim
/-! ## x = [.. for ..] on one line -/
/-- x = a new container, of the rule tAsg te (gName i): by its value -/
def wSetV (t : WF) (i : Nat) : WStm := fun PX D env W => t PX env W fun ob env1 W1 => D.nx (env1.set i (some ob.toD)) W1
def wSetB (t : WF) (i : Nat) : WStm := fun PX D env W => t PX env W fun ob env1 W1 => ∀ a, W1 a = none → D.nx (env1.set i (some (.obj a))) (W1.put a ob)
theorem setV_of {K : Fg} {st : Stmt} {t : WF} {te : TE} {i : Nat} (h : PS X st (tAsg te (gName i))) (hw : ∀ σ H Q, liftF K B E t σ H Q → te σ H Q) : PS X st (liftS K B E (wSetV t i)) :=
  psW h fun D σ H ⟨F, env, W, P, PX, S, hE, h, hX, h1, h2, h3, h4⟩ => hw σ H _ ⟨F, env, W, _, PX, S, hE, h, hX, fun ob env1 W1 F1 H1 a o p S1 l1 e1 ha hF hW hB ro => by
    have l := Le.upd (o := o) hF
    exact h1 _ _ _ H1 _ p (S1.froze ha hF hW hB) (l1.trans l) ((e1.mono l).set ((ro.mono l).toRep upd_same))⟩
theorem setB_of {K : Fg} {st : Stmt} {t : WF} {te : TE} {i : Nat} (h : PS X st (tAsg te (gName i))) (hw : ∀ σ H Q, liftF K B E t σ H Q → te σ H Q) : PS X st (liftS K B E (wSetB t i)) :=
  psW h fun D σ H ⟨F, env, W, P, PX, S, hE, h, hX, h1, h2, h3, h4⟩ => hw σ H _ ⟨F, env, W, _, PX, S, hE, h, hX, fun ob env1 W1 F1 H1 a o p S1 l1 e1 ha hF hW hB ro =>
    h1 _ _ _ H1 _ (p a hW) (S1.box ha hF hB ro) l1 (e1.set (.obj a))⟩
section
variable {i : Nat} {y : Str} {py : Pos} {elt tg iter : Expr} {ifs : List Expr} {scope : Scope} {own : List (Str × Nat)} {pos spos : Pos} {it : WI} {g : Tg} {c : WT} {t : WE} {K : Fg}
theorem lc_read {σ : L2.St} {H : Hp} {Q : VK} (ho : ∀ i ∈ g.slots, i ∈ own.map (·.2)) (h : liftF K B E (wLc it g c t (own.map (·.2))) σ H Q) :
    tLc (liftI K B E it) (fun v σ H Q => ∃ B, liftG K B g v σ H Q) (fun σ H Q => ∃ B, liftT K B (fun _ _ _ => False) c σ H Q) (fun σ H Q => ∃ B, liftE K B (fun _ _ _ => False) t σ H Q) (own.map (·.2)) σ H Q := by
  obtain ⟨F, env, W, P, PX, S, hE, h, hX, hQ⟩ := h
  exact ⟨F, env, W, _, PX, S, hE, h, hX, fun ds env1 W1 F1 H1 J p1 S1 l1 e1 j1 a ha => lc_go j1 ho S1 (wipe_ok e1 _) p1 ha (S1.dom a ha) fun acc W2 F2 H2 va p2 S2 l2 kp rl =>
      hQ _ env1 W2 F2 H2 a _ p2 S2 (l1.trans l2) (e1.mono l2) kp.h kp.f kp.w (S1.dom a ha) (.lst rl)⟩
theorem S_setLc (hc : X.calm = true) (hN : X.N.Nodup) (hy : X.N[i]? = some y) (hyl : X.env.scope.names.lookup y = some .local)
    (hsw : swapsWith (.ListComp elt [⟨tg, iter, ifs, 0⟩] scope pos) (some (.Name y py)) spos.line X.env = pure true) (hi : PI X tg iter (liftI K B E it)) (ok : BlkOk X.N X.env.scope scope own)
    (hg : blkA X scope fun Y => ∀ B, PG Y tg (liftG K B g)) (ht : blkA X scope fun Y => ∀ B, PTs Y ifs (liftT K B (fun _ _ _ => False) c)) (he : blkA X scope fun Y => ∀ B, PE Y elt (liftE K B (fun _ _ _ => False) t))
    (hs : ∀ x, foldedSetIterable iter X.env x = pure x) (ho : ∀ i ∈ g.slots, i ∈ own.map (·.2)) : PS X (.Assign [.Name y py] (.ListComp elt [⟨tg, iter, ifs, 0⟩] scope pos) spos) (liftS K B E (wSetV (wLc it g c t (own.map (·.2))) i)) :=
  setV_of (ps_setLc hc hN hy hyl hsw hi ok (fun s H C cl fp => pgX (hg s H C cl fp)) (fun s H C cl fp => ptsX (ht s H C cl fp)) (fun s H C cl fp => peX (he s H C cl fp)) hs) fun σ H Q h => lc_read ho h
theorem S_setLcB (hc : X.calm = true) (hN : X.N.Nodup) (hy : X.N[i]? = some y) (hyl : X.env.scope.names.lookup y = some .local)
    (hsw : swapsWith (.ListComp elt [⟨tg, iter, ifs, 0⟩] scope pos) (some (.Name y py)) spos.line X.env = pure true) (hi : PI X tg iter (liftI K B E it)) (ok : BlkOk X.N X.env.scope scope own)
    (hg : blkA X scope fun Y => ∀ B, PG Y tg (liftG K B g)) (ht : blkA X scope fun Y => ∀ B, PTs Y ifs (liftT K B (fun _ _ _ => False) c)) (he : blkA X scope fun Y => ∀ B, PE Y elt (liftE K B (fun _ _ _ => False) t))
    (hs : ∀ x, foldedSetIterable iter X.env x = pure x) (ho : ∀ i ∈ g.slots, i ∈ own.map (·.2)) : PS X (.Assign [.Name y py] (.ListComp elt [⟨tg, iter, ifs, 0⟩] scope pos) spos) (liftS K B E (wSetB (wLc it g c t (own.map (·.2))) i)) :=
  setB_of (ps_setLc hc hN hy hyl hsw hi ok (fun s H C cl fp => pgX (hg s H C cl fp)) (fun s H C cl fp => ptsX (ht s H C cl fp)) (fun s H C cl fp => peX (he s H C cl fp)) hs) fun σ H Q h => lc_read ho h
end
/-! ## {k: v, ..} -/
def wPs : List (WE × WE) → XP → DEnv → WS → (List (D × D) → DEnv → WS → Prop) → Prop
  | [], _, env, W, P => P [] env W
  | (tk, tv) :: r, PX, env, W, P => tk PX env W fun k env1 W1 => tv PX env1 W1 fun v env2 W2 => wPs r PX env2 W2 fun ps env3 W3 => P ((k, v) :: ps) env3 W3
def keyPs : List (D × D) → Option (List (Key × D))
  | [] => some []
  | (k, v) :: r => match keyD k, keyPs r with
    | some q, some s => some ((q, v) :: s)
    | _, _ => none
def mergeD (acc : List (Key × D)) (ps : List (Key × D)) : List (Key × D) := ps.foldl (fun a p => putKD a p.1 p.2) acc
def wDisp (ps : List (WE × WE)) : WF := fun PX env W P => wPs ps PX env W fun qs env1 W1 => ∃ ks, keyPs qs = some ks ∧ ks.length ≤ 15 ∧ P (.dK (mergeD [] ks)) env1 W1
theorem mergeK_eq : ∀ (ps acc : List (Key × V)), mergeK acc ps = ps.foldl (fun a p => putK a p.1 p.2) acc := by
  intro ps
  induction ps with
  | nil => intro acc; rfl
  | cons p ps ih => intro acc; exact ih _
theorem merge_rep {K : Fg} {F : Hp} : ∀ {kvs : List (Key × V)} {ds : List (Key × D)} {acc : List (Key × V)} {accD : List (Key × D)}, kvs.map (·.1) = ds.map (·.1) → RepL K F (ds.map (·.2)) (kvs.map (·.2)) → acc.map (·.1) = accD.map (·.1) → RepL K F (accD.map (·.2)) (acc.map (·.2)) →
    (mergeK acc kvs).map (·.1) = (mergeD accD ds).map (·.1) ∧ RepL K F ((mergeD accD ds).map (·.2)) ((mergeK acc kvs).map (·.2))
  | [], [], _, _, _, _, h, r => ⟨h, r⟩
  | [], _ :: _, _, _, h, _, _, _ => by cases h
  | (g, v) :: kvs, ds, acc, accD, h, r, h', r' => by
    obtain ⟨d, rs, rfl, h2⟩ := keys_cons h
    rw [List.map_cons, List.map_cons] at r
    cases r with
    | cons r1 r2 =>
      obtain ⟨g1, g2⟩ := putK_rep (k := g) r1 h' r'
      exact merge_rep (acc := putK acc g v) (accD := putKD accD g d) h2 r2 g1 g2
abbrev trX (K : Fg) (E : XK) (q : WE × WE) : TE × TE := (fun σ H Q => ∃ B, liftE K B E q.1 σ H Q, fun σ H Q => ∃ B, liftE K B E q.2 σ H Q)
theorem disp_go {pr : List (WE × WE)} : ∀ {B : Base} {σ : L2.St} {H : Hp} {env : DEnv} {F : Hp} {W : WS} {PX : XP} {P : List (D × D) → DEnv → WS → Prop} {R : List (V × V) → Hp → Prop}, Stt X.K B F W H → EnvOk X.K F σ env → wPs pr PX env W P → XOk X.K B E F PX →
    (∀ ps env' W' F' H' vs, P ps env' W' → Stt X.K B F' W' H' → Le F F' → EnvOk X.K F' σ env' → (∀ ks, keyPs ps = some ks → ∃ kvs : List (Key × V), vs = kvs.map (fun kv => (kV kv.1, kv.2)) ∧ kvs.map (·.1) = ks.map (·.1) ∧ RepL X.K F' (ks.map (·.2)) (kvs.map (·.2))) → R vs H') →
    tPairs (pr.map (trX X.K E)) σ H R := by
  induction pr with
  | nil =>
    intro B σ H env F W PX P R S hE h hX hR
    exact hR [] env W F H [] h S (Le.refl _) hE fun ks e => by cases e; exact ⟨[], rfl, rfl, .nil⟩
  | cons q pr ih =>
    intro B σ H env F W PX P R S hE h hX hR
    obtain ⟨tk, tv⟩ := q
    refine ⟨B, F, env, W, _, PX, S, hE, h, hX, fun d1 env1 W1 F1 H1 v1 p1 S1 l1 e1 r1 => ?_⟩
    refine ⟨B, F1, env1, W1, _, PX, S1, e1, p1, hX.mono l1, fun d2 env2 W2 F2 H2 v2 p2 S2 l2 e2 r2 => ?_⟩
    refine ih S2 e2 p2 (hX.mono (l1.trans l2)) fun ps env3 W3 F3 H3 vs p3 S3 l3 e3 hk => ?_
    refine hR _ env3 W3 F3 H3 _ p3 S3 ((l1.trans l2).trans l3) e3 fun ks e => ?_
    have e' : (match keyD d1, keyPs ps with | some q, some s => some ((q, d2) :: s) | _, _ => none) = some ks := e
    cases e1' : keyD d1 with
    | none => rw [e1'] at e'; cases e'
    | some q => cases e2' : keyPs ps with
      | none => rw [e1', e2'] at e'; cases e'
      | some s =>
        rw [e1', e2'] at e'
        cases e'
        obtain ⟨kvs, h1, h2, h3⟩ := hk s e2'
        refine ⟨(q, v2) :: kvs, ?_, by rw [List.map_cons, List.map_cons, h2], .cons (r2.mono l3) h3⟩
        rw [List.map_cons, h1, keyD_rep r1 e1']
theorem s_disp {pos : Pos} {keys : List (Option Expr)} {values : List Expr} {pr : List (WE × WE)} (h : PPs X pos keys values (pr.map (trX X.K E))) (hall : keys.all (·.isSome) = true) (hl : keys.length = values.length) (h0 : keys ≠ [])
    (h15 : keys.length ≤ 15) : PE X (.Dict keys values pos) (liftF X.K B E (wDisp pr)) :=
  peW (pe_disp h hall hl h0 h15) fun σ H Q ⟨F, env, W, P, PX, S, hE, h, hX, hQ⟩ a ha => by
    have S0 : Stt X.K B F W (upd H a (.dK [])) := S.laid ha
    have kp : Keep X.K F W (upd H a (.dK [])) a (.dK []) := ⟨upd_same, S.newF ha, S.newW ha⟩
    refine disp_go (B := ⟨upd H a (.dK []), W, F⟩) S0.self hE h (hX.here S0) fun ps env1 W1 F1 H1 vs ⟨ks, hk, h15, p⟩ T l e1 hkv => ?_
    obtain ⟨kvs, ev, k1, k2⟩ := hkv ks hk
    have kp1 := kp.step T
    obtain ⟨m1, m2⟩ := merge_rep (K := X.K) (F := F1) k1 k2 (acc := []) (accD := []) rfl .nil
    refine ⟨kp1.h, kvs, ev, by rw [len_keys k1]; exact h15, ?_⟩
    exact hQ _ env1 W1 F1 _ a _ p ((S0.trans T).rewrite kp1 (S.dom a ha)) l e1 upd_same kp1.f kp1.w (S.dom a ha) (.dK m1 m2)
theorem pps_c {pos : Pos} {k v : Expr} {ks : List (Option Expr)} {vs : List Expr} {tk tv : WE} {pr : List (WE × WE)} (hk : ∀ B, PE X k (liftE X.K B E tk)) (hv : ∀ B, PE X v (liftE X.K B E tv)) (hr : PPs X pos ks vs (pr.map (trX X.K E))) :
    PPs X pos (some k :: ks) (v :: vs) (((tk, tv) :: pr).map (trX X.K E)) := pps_cons (peX hk) (peX hv) hr
end
end DL

set_option maxRecDepth 100000
set_option maxHeartbeats 4000000
set_option linter.all false
namespace DL
open PySem PySem.Spec PyProof.Rows L2
/-! ## sorted(d.items()), keys and values ints -/
def rSortItI : List V → Hp → VK → Prop := fun vs H Q => ∃ (p a : Addr) (ps : List (Int × Int)), vs = [.ref p] ∧ H p = some (L2.DX.itemsO p a) ∧ Rd H a (.dK (ps.map fun q => ((Sum.inl q.1 : Key), V.int q.2))) ∧
  ∀ (H' : Hp) (l : Addr) (zs : List (Addr × Int × Int)), (∀ b o, H b = some o → H' b = some o) → H l = none → (∀ z ∈ zs, H z.1 = none ∧ H' z.1 = some (.tup [.int z.2.1, .int z.2.2])) → (zs.map (·.2)).Perm ps → (zs.map (·.2)).Pairwise lexLe →
    l ∉ zs.map (·.1) → H' l = some (.lst (zs.map fun z => V.ref z.1)) → Q (.ref l) H'
theorem ents_int {P : Program} {w : World} : ∀ {es : List DictEntry} {vs : List (Key × Value)} {ps : List (Int × Int)}, Pairs (mixKind P w) es vs → KV (ps.map fun q => ((Sum.inl q.1 : Key), V.int q.2)) vs →
    es.length = ps.length ∧ ∀ (j : Nat) (e : DictEntry), es[j]? = some e → ∃ q : Int × Int, ps[j]? = some q ∧ (∃ t, e.key = .int q.1 t) ∧ ∃ t, e.val = .int q.2 t
  | _, _, [], .nil, _ => ⟨rfl, fun j e h => by simp at h⟩
  | _, _, q :: ps, .nil, h => by cases h
  | _, _, [], .cons _ _ _, h => by cases h
  | _, _, q :: ps, .cons (e := e) (kv := kv) h1 h2 t, h => by
    rw [List.map_cons] at h
    cases h with
    | cons r r2 =>
      obtain ⟨i1, i2⟩ := ents_int t r2
      obtain ⟨r3, r4⟩ := r
      refine ⟨by rw [List.length_cons, List.length_cons, i1], fun j e' hj => ?_⟩
      cases j with
      | zero =>
        have ee : e = e' := Option.some.inj hj
        subst ee
        refine ⟨q, rfl, ?_, ?_⟩
        · have hk : keyIs kv.1 e.key = true := h1
          rw [← r3] at hk
          rcases keyIs_shape hk with ⟨i, u, e1, e2⟩ | ⟨x, u, e1, e2⟩
          · cases e1
            exact ⟨u, e2⟩
          · cases e1
        · obtain ⟨u, hu⟩ := (show ∃ t, kv.2 = .int q.2 t from r4)
          exact ⟨u, h2.trans hu⟩
      | succ j => exact i2 j e' (by simpa using hj)
def kA (es : Array DictEntry) (as : List Addr) (v : Value) : Int × Int := match v with
  | .ref b => match as.idxOf? b with
    | some j => match es[j]? with
      | some ⟨_, .int i _, .int k _⟩ => (i, k)
      | _ => (0, 0)
    | none => (0, 0)
  | _ => (0, 0)
theorem idx_nodup {α : Type} [BEq α] [LawfulBEq α] : ∀ {l : List α} {j : Nat} {b : α}, l.Nodup → l[j]? = some b → l.idxOf? b = some j
  | [], _, _, _, h => by simp at h
  | x :: l, 0, b, _, h => by
    have e : x = b := by simpa using h
    subst e
    simp [List.idxOf?, List.findIdx?_cons]
  | x :: l, j + 1, b, nd, h => by
    have h' : l[j]? = some b := by simpa using h
    have nx : x ≠ b := fun e => (List.nodup_cons.mp nd).1 (by rw [e]; exact List.mem_of_getElem? h')
    have ih := idx_nodup (List.nodup_cons.mp nd).2 h'
    unfold List.idxOf? at ih ⊢
    rw [List.findIdx?_cons]
    have : (x == b) = false := by simpa using nx
    rw [this]
    simp [ih]
theorem refs_vals : ∀ as : List Addr, Vals (as.map V.ref) (as.map Value.ref)
  | [] => .nil
  | _ :: as => .cons rfl (refs_vals as)
section
variable {X : Cx} {B : Base} {E : XK}
theorem cr_sortedItI (hc : X.calm = true) : CallR X (.builtin "sorted") rSortItI := by
  intro pins s σ H xs us Q I r h
  obtain ⟨p, a, ks, rfl, hp, ha, q⟩ := h
  obtain rfl := Vals.ref1 r
  have view : s.heap.IsItemsView p a := (show ObjOk X.prog X.w H s.heap p (L2.DX.itemsO p a) from I.hok p _ hp).1
  obtain ⟨z, hd, vs', rel, o, es, ep, ho, hx, hdat, _, hes, _⟩ := dk_rd I.hok ha
  obtain ⟨l2, hent⟩ := ents_int hes rel
  have l2' : es.size = ks.length := by rw [← l2]; simp
  rw [List.length_map] at z
  have hh : X.A.handled = none := I.ok.hd hc
  refine _root_.DT.sortedI (es := es) (ep := ep) hh view ⟨o, ho, hx, hdat⟩ (by omega) fun h' tk as hk hlt hl hG => ?_
  have lak : as.length = ks.length := by omega
  have nd : as.Nodup := List.Pairwise.imp (fun h => Nat.ne_of_lt h) hG.rise
  have pr : ∀ (j : Nat) (b : Addr), as[j]? = some b → ∃ (e : Int × Int), ks[j]? = some e ∧ kA es as (.ref b) = e ∧ ∃ t u, h'.get? b = some { cls := .type "tuple", data := .seq #[Value.int e.1 t, Value.int e.2 u] } := by
    intro j b hj
    obtain ⟨en, he, hg⟩ := hG.pairs j b hj
    obtain ⟨e, h1, ⟨t, h2⟩, u, h3⟩ := hent j en (by simpa using he)
    refine ⟨e, h1, ?_, t, u, by rw [hg, h2, h3]⟩
    unfold kA
    simp only [idx_nodup nd hj, he]
    obtain ⟨hash, key, val⟩ := en
    simp only at h2 h3
    subst h2 h3
    rfl
  have hob : (h'.push { cls := .type "list", data := .seq (as.map Value.ref).toArray }).get? h'.objs.size = some (seqObj "list" (as.map Value.ref).toArray 0) := Heap.get?_push_size _ rfl
  have kb : ∀ b o, s.heap.get? b = some o → (h'.push { cls := .type "list", data := .seq (as.map Value.ref).toArray }).get? b = some o := fun b o e => Heap.get?_push_of_some _ (hk b o e)
  have ne0 : ∀ b o, h'.get? b = some o → b ≠ h'.objs.size := fun b o e => Nat.ne_of_lt (Heap.lt_size e)
  generalize hh2 : h'.push { cls := .type "list", data := .seq (as.map Value.ref).toArray } = h2 at hob kb ⊢
  have ka : ∀ b o, h'.get? b = some o → h2.get? b = some o := fun b o e => by rw [← hh2]; exact Heap.get?_push_of_some _ e
  have at_ : ∀ v ∈ as.map Value.ref, ∃ (j : Nat) (b : Addr) (e : Int × Int), v = .ref b ∧ as[j]? = some b ∧ ks[j]? = some e ∧ kA es as v = e ∧ Srt.IsPair h2 v e.1 e.2 := by
    intro v hv'
    obtain ⟨b, hb, rfl⟩ := List.mem_map.mp hv'
    obtain ⟨j, hj⟩ := List.mem_iff_getElem?.mp hb
    obtain ⟨e, he, hk', t, u, hg⟩ := pr j b hj
    exact ⟨j, b, e, rfl, hj, he, hk', b, _, t, u, 0, rfl, ka _ _ hg, rfl, rfl⟩
  refine wpAny_call_entry PyProof.Rows.slot_list_sort ⟨_, hob, rfl⟩ PyProof.Rows.entry_list_sort
    (SrtO.list_sort_ord (s := { s with heap := h2, toks := tk }) (SrtO.swo_lex (kA es as)) hob (by rw [List.length_map]; omega) (fun h2' => SrtO.pairs_sortableO (by omega) (fun v hv => ?_) fun o e => ?_) fun out o1 o2 => ⟨.none, rfl, ?_⟩) (PyProof.Rows.args_list_sort _)
  · obtain ⟨j, b, e, _, _, _, hk', hp'⟩ := at_ v hv
    rw [hk']; exact hp'
  · have e' : some o = some (seqObj "list" (as.map Value.ref).toArray 0) := e.symm.trans hob
    cases e'
    intro c
    exact absurd (Value.type.inj c) (by decide)
  · show EP X pins σ Q (.ref h'.objs.size) { s with heap := sortedHeap h2 h'.objs.size (as.map Value.ref) out.toArray, toks := tk }
    obtain ⟨ns, pn, en⟩ := perm_lift (fun b : Addr => (Value.ref b, kA es as (.ref b))) (show (out.map fun v => (v, kA es as v)).Perm ((as.map Value.ref).map fun v => (v, kA es as v)) from o2.perm.map _) as (by rw [List.map_map]; rfl)
    have hout : out = ns.map Value.ref := by
      have e := congrArg (List.map (·.1)) en
      rw [List.map_map, List.map_map] at e
      have e1 : out.map ((fun x : Value × Int × Int => x.1) ∘ fun v => (v, kA es as v)) = out := by
        rw [show ((fun x : Value × Int × Int => x.1) ∘ fun v => (v, kA es as v)) = id from rfl, List.map_id]
      rw [← e1, ← e]
      rfl
    have mk : as.map (fun b => kA es as (.ref b)) = ks := by
      apply List.ext_getElem?
      intro j
      rw [List.getElem?_map]
      cases hj : as[j]? with
      | none =>
        have := List.getElem?_eq_none_iff.mp hj
        rw [List.getElem?_eq_none (by omega)]
        rfl
      | some b =>
        obtain ⟨e, he, hk', _⟩ := pr j b hj
        rw [he, ← hk']
        rfl
    let zs : List (Addr × Int × Int) := ns.map fun b => (b, kA es as (.ref b))
    have z1 : zs.map (·.1) = ns := by
      show (ns.map fun b => (b, kA es as (.ref b))).map (·.1) = ns
      rw [List.map_map]
      exact List.map_id ns
    have z2 : zs.map (·.2) = ns.map fun b => kA es as (.ref b) := by
      show (ns.map fun b => (b, kA es as (.ref b))).map (·.2) = _
      rw [List.map_map]
      rfl
    have zr : zs.map (fun z => V.ref z.1) = ns.map V.ref := by
      show (ns.map fun b => (b, kA es as (.ref b))).map (fun z => V.ref z.1) = _
      rw [List.map_map]
      rfl
    have kF : ∀ b o, b ≠ h'.objs.size → h2.get? b = some o → (sortedHeap h2 h'.objs.size (as.map Value.ref) out.toArray).get? b = some o := fun b o hb e => (PyProof.Rows.sortedHeap_old hb (Heap.lt_size e)).trans e
    have kS : ∀ b o, s.heap.get? b = some o → (sortedHeap h2 h'.objs.size (as.map Value.ref) out.toArray).get? b = some o := fun b o e => kF b o (ne0 _ _ (hk b o e)) (kb b o e)
    obtain ⟨eF, heF⟩ := PyProof.Rows.sortedHeap_at (vs := as.map Value.ref) (out := out.toArray) hob
    have I1 : Inv X pins σ H { s with heap := sortedHeap h2 h'.objs.size (as.map Value.ref) out.toArray, toks := tk } := I.kept (t' := tk) kS
    have hn0 : H h'.objs.size = none := I.hok.fresh (Nat.le_of_lt hlt)
    have lns : ns.length = ks.length := by rw [pn.length_eq]; exact lak
    have I2 : Inv X pins σ (upd H h'.objs.size (.lst (ns.map V.ref))) { s with heap := sortedHeap h2 h'.objs.size (as.map Value.ref) out.toArray, toks := tk } :=
      I1.take (h' := sortedHeap h2 h'.objs.size (as.map Value.ref) out.toArray) (t' := tk) (fun b ob _ e => e) (I.fpOk (Nat.le_of_lt hlt) hn0) ⟨by rw [List.length_map]; omega, out, eF, by rw [hout]; exact refs_vals ns, heF⟩
    obtain ⟨H2, I3, g, qt⟩ := L2.DX.takeT (P := fun b vs => vs = [.int (kA es as (.ref b)).1, .int (kA es as (.ref b)).2]) I as _ I2 nd fun b hb => by
      obtain ⟨j, hj⟩ := List.mem_iff_getElem?.mp hb
      obtain ⟨e, he, hk', t, u, hg⟩ := pr j b hj
      have hbl : s.heap.objs.size ≤ b := Nat.le_of_lt (hG.above b hb)
      refine ⟨hbl, ?_, _, rfl, fun H3 => ⟨(by rw [sizeLine_eq]; show 2 ≤ 16777216; omega), [Value.int e.1 t, Value.int e.2 u], .cons (by rw [hk']; exact ⟨t, rfl⟩) (.cons (by rw [hk']; exact ⟨u, rfl⟩) .nil), ⟨_, kF _ _ (ne0 _ _ hg) (ka _ _ hg), rfl, 0, rfl⟩⟩⟩
      rw [upd_ne (ne0 _ _ hg)]
      exact I.hok.fresh hbl
    have gr : ∀ b o, H b = some o → H2 b = some o := fun b o e => g b o (by rw [upd_ne (ne_of_none e hn0)]; exact e)
    refine ⟨.ref h'.objs.size, H2, I3, rfl, q H2 h'.objs.size zs gr hn0 (fun z hz => ?_) ?_ ?_ ?_ ?_⟩
    · obtain ⟨b, hb, rfl⟩ := List.mem_map.mp hz
      have hb' : b ∈ as := pn.mem_iff.mp hb
      obtain ⟨vs, e, hH⟩ := qt b hb'
      subst e
      exact ⟨I.hok.fresh (Nat.le_of_lt (hG.above b hb')), hH⟩
    · rw [z2, ← mk]
      exact pn.map _
    · rw [z2, List.pairwise_map]
      have h1 : (ns.map Value.ref).Pairwise fun x y => SrtO.lexB (kA es as y) (kA es as x) = false := by rw [← hout]; exact o1
      rw [List.pairwise_map] at h1
      refine h1.imp fun {x y} h => ?_
      have := SrtO.lexB_no.mp h
      unfold lexLe
      omega
    · rw [z1]
      intro c
      obtain ⟨j, hj⟩ := List.mem_iff_getElem?.mp (pn.mem_iff.mp c)
      obtain ⟨_, _, _, _, _, hg⟩ := pr j _ hj
      exact ne0 _ _ hg rfl
    · rw [zr]
      exact g _ _ upd_same
end
end DL

set_option maxRecDepth 100000
set_option maxHeartbeats 4000000
set_option linter.all false
namespace DL
open PySem PySem.Spec PyProof.Rows L2
section
variable {K : Fg} {B : Base} {F H H' : Hp} {W : WS}
/-- many new things, those of L known as they stand -/
def growF (F H' : Hp) (L : List Addr) : Hp := fun a => if a ∈ L then H' a else F a
theorem Stt.grow (S : Stt K B F W H) (hx : ∀ b o, H b = some o → H' b = some o) (L : List Addr) (hL : ∀ a ∈ L, H a = none) : Stt K B (growF F H' L) W H' ∧ Le F (growF F H' L) := by
  have nF : ∀ a ∈ L, F a = none := fun a ha => S.newF (hL a ha)
  have l : Le F (growF F H' L) := Le.of fun a o e => by
    show (if a ∈ L then H' a else F a) = some o
    rw [if_neg (fun c => by rw [nF a c] at e; cases e)]
    exact e
  refine ⟨⟨fun a o e => ?_, fun a ob e => ?_, fun a o e hw => ?_, fun a e => ?_, S.base.trans l⟩, l⟩
  · have e' : (if a ∈ L then H' a else F a) = some o := e
    split at e'
    · exact e'
    · exact hx _ _ (S.sub a o e')
  · obtain ⟨h1, o, h2, h3⟩ := S.obj a ob e
    refine ⟨?_, o, hx _ _ h2, h3.mono l⟩
    show (if a ∈ L then H' a else F a) = none
    rw [if_neg (fun c => by rw [hL a c] at h2; cases h2)]
    exact h1
  · obtain ⟨h1, h2, h3⟩ := S.old a o e hw
    refine ⟨h1, hx _ _ h2, fun z => ?_⟩
    show (if a ∈ L then H' a else F a) = none
    rw [if_neg (fun c => by rw [hL a c] at h2; cases h2)]
    exact h3 z
  · refine S.dom a ?_
    cases q : H a with
    | none => rfl
    | some o => rw [hx a o q] at e; cases e
end
def ipD : List (Key × D) → Option (List (Int × Int))
  | [] => some []
  | (.inl i, .int j) :: r => (ipD r).map ((i, j) :: ·)
  | _ :: _ => none
theorem ipD_of : ∀ {ds : List (Key × D)} {ps : List (Int × Int)}, ipD ds = some ps → ds = ps.map fun q => ((Sum.inl q.1 : Key), D.int q.2)
  | [], ps, h => by cases h; rfl
  | p :: r, ps, h => by
    unfold ipD at h
    split at h
    · rename_i heq; cases heq
    · rename_i i j r' heq
      cases heq
      cases e : ipD r with
      | none => rw [e] at h; cases h
      | some qs =>
        rw [e] at h
        cases h
        rw [ipD_of e]; rfl
    · cases h
def mkI (ps : List (Int × Int)) : List (Key × D) := ps.map fun q => ((Sum.inl q.1 : Key), D.int q.2)
theorem ipD_mk : ∀ ps : List (Int × Int), ipD (mkI ps) = some ps
  | [] => rfl
  | p :: r => by
    have ih := ipD_mk r
    show (ipD (mkI r)).map _ = _
    rw [ih]; rfl
theorem ip_rep {K : Fg} {F : Hp} : ∀ {ps : List (Int × Int)} {kvs : List (Key × V)}, kvs.map (·.1) = (mkI ps).map (·.1) → RepL K F ((mkI ps).map (·.2)) (kvs.map (·.2)) → kvs = ps.map fun q => ((Sum.inl q.1 : Key), V.int q.2)
  | [], [], _, _ => rfl
  | [], _ :: _, h, _ => by cases h
  | _ :: _, [], h, _ => by cases h
  | p :: ps, (k, v) :: kvs, h, r => by
    unfold mkI at h r
    rw [List.map_cons, List.map_cons, List.map_cons, List.cons.injEq] at h
    rw [List.map_cons, List.map_cons, List.map_cons] at r
    cases r with
    | cons r1 r2 =>
      have ih := ip_rep (ps := ps) (kvs := kvs) h.2 r2
      rw [List.map_cons, ← ih]
      have h1 : k = Sum.inl p.1 := h.1
      subst h1
      have r1' : Rep K F (.int p.2) v := r1
      cases r1'
      rfl
section
variable {X : Cx} {B : Base} {E : XK} {e : Expr} {te : WE} {p apos cpos pos : Pos}
def tItV (te : TE) : TE := fun σ H Q => te σ H fun x H1 => ∃ a kvs, x = .ref a ∧ Rd H1 a (.dK kvs) ∧ ∀ p, H1 p = none → Q (.ref p) (upd H1 p (L2.DX.itemsO p a))
theorem pe_itV {te : TE} (he : PE X e te) (hbase : attributeBase e "items" X.env (eval e X.env) = eval e X.env) (hline : (apos.endLine == cpos.line) = true) : PE X (.Call (.Attribute e "items" apos) [] [] cpos) (tItV te) := by
  refine ⟨fun pins s σ H Q I h => ?_⟩
  refine wpAny_Call_method0_late hbase hline (thn (he.run pins s σ H _ I h) fun v s1 ⟨x, H1, I1, r1, a, kvs, ex, ha, q⟩ => ?_)
  subst ex
  obtain rfl : v = Value.ref a := r1
  obtain ⟨z, hd, vs, rel, o, es, ep, ho, hx, hdat, hes, hn⟩ := dk_rd I1.hok ha
  refine ⟨"dict", "dict.items", PySem.F.plainAttrs_dict, PySem.F.slot_dict_items, PySem.F.type_dict_items, ⟨o, ho, hx.1⟩, fun b eb => by cases eb; exact ⟨o, ho, hx.2.1⟩, Calls.callWith_builtin rfl (PySem.evalArgs_none (_root_.DT.callItems (es := es) (ep := ep) hd ⟨o, ho, hx, hdat⟩ ?_))⟩
  have hf : H1 s1.heap.objs.size = none := I1.hok.fresh (Nat.le_refl _)
  exact ⟨.ref s1.heap.objs.size, upd H1 s1.heap.objs.size (L2.DX.itemsO s1.heap.objs.size a), I1.laid (t' := s1.toks) (fun b u e => Heap.get?_push_of_some _ e) (Nat.le_refl _) (L2.DX.itemsO_ok (Heap.get?_push_size _ rfl)), rfl, q _ hf⟩
def wSortIt (te : WE) : WF := fun PX env W P => te PX env W fun d env1 W1 => ∃ ds ps, view W1 d = .dK ds ∧ ipD ds = some ps ∧ ∀ qs : List (Int × Int), qs.Perm ps → qs.Pairwise lexLe → P (.lst (qs.map prD)) env1 W1
theorem s_sortIt (hc : X.calm = true) (he : PE X e (liftE X.K B E te)) (hg : Gl X "sorted") (hm : X.mg "sorted" = none) (hv : bootBuiltins "sorted" = some (.builtin "sorted")) (hbase : attributeBase e "items" X.env (eval e X.env) = eval e X.env) (hline : (apos.endLine == cpos.line) = true)
    (hs : starEach [.Call (.Attribute e "items" apos) [] [] cpos] X.env = (false, eval (.Call (.Attribute e "items" apos) [] [] cpos) X.env) :: starEach [] X.env) (hpl : (backTo pos (starEach [] X.env)).any (·.1) = false) :
    PE X (.Call (.Name "sorted" p) [.Call (.Attribute e "items" apos) [] [] cpos] [] pos) (liftF X.K B E (wSortIt te)) :=
  peW (pe_callB (cr_sortedItI hc) hg hm hv (pa_cons (pe_itV he hbase hline) pa_nil hs) (by decide) (by decide) hs hpl) fun σ H Q ⟨F, env, W, P, PX, S, hE, h, hX, hQ⟩ => by
    refine ⟨F, env, W, _, PX, S, hE, h, hX, fun d env1 W1 F1 H1 v ⟨ds, ps, hv, hi, p1⟩ S1 l1 e1 r1 => ?_⟩
    obtain ⟨a, kvs, rfl, hr, ke, rl⟩ := view_dK S1 r1 hv
    have ed := ipD_of hi
    have ek := ip_rep (ps := ps) (by rw [ed] at ke; exact ke) (by rw [ed] at rl; exact rl)
    subst ek
    refine ⟨a, _, rfl, hr, fun q hq => ?_⟩
    have qa : q ≠ a := fun c => by subst c; rcases hr with z | ⟨_, z⟩ <;> rw [hq] at z <;> cases z
    refine ⟨q, a, ps, rfl, upd_same, ?_, fun H' l zs hx hl hz hp hs hn hH => ?_⟩
    · rcases hr with z | ⟨o, z⟩
      · exact .inl (by rw [upd_ne (Ne.symm qa)]; exact z)
      · exact .inr ⟨o, by rw [upd_ne (Ne.symm qa)]; exact z⟩
    have S2 := S1.laid (o := L2.DX.itemsO q a) hq
    obtain ⟨S3, l3⟩ := S2.grow hx (zs.map (·.1)) fun b hb => by
      obtain ⟨z, hz', rfl⟩ := List.mem_map.mp hb
      exact (hz z hz').1
    refine hQ _ env1 W1 _ H' l _ (p1 (zs.map (·.2)) hp hs) S3 (l1.trans l3) (e1.mono l3) hH ?_ (S2.newW hl) (S2.dom l hl) (.lst ?_)
    · show (if l ∈ zs.map (·.1) then H' l else F1 l) = none
      rw [if_neg hn]
      exact S2.newF hl
    · have key : ∀ ys : List (Addr × Int × Int), (∀ z ∈ ys, z ∈ zs) → RepL X.K (growF F1 H' (zs.map (·.1))) ((ys.map (·.2)).map prD) (ys.map fun z => V.ref z.1) := by
        intro ys
        induction ys with
        | nil => intro _; exact .nil
        | cons y ys ih =>
          intro hy
          refine .cons ?_ (ih fun z hz' => hy z (List.mem_cons_of_mem _ hz'))
          have hy' := hy y List.mem_cons_self
          refine .tup (vs := [.int y.2.1, .int y.2.2]) ?_ (.cons (.int _) (.cons (.int _) .nil))
          show (if y.1 ∈ zs.map (·.1) then H' y.1 else F1 y.1) = _
          rw [if_pos (List.mem_map.mpr ⟨y, hy', rfl⟩)]
          exact (hz y hy').2
      exact key zs fun z hz' => hz'
/-! ## tuple(xs): a tuple whose object is known -/
def fPTup : FL
  | [d], W, P => match view W d with
    | .lst ds => P (.ptup ds)
    | _ => False
  | _, _, _ => False
theorem c_ptup : CallR X (.type "tuple") (rDL X.K B fPTup) := by
  intro pins s σ H xs us Q I r ⟨F, W, ds, P, S, rl, h, o⟩
  unfold fPTup at h
  split at h
  · obtain ⟨v, rfl, rv⟩ := repL1 rl
    split at h
    · rename_i ds hv
      obtain ⟨a, vs, rfl, hs, r1⟩ := view_lst S rv hv
      obtain ⟨u, rfl, rx⟩ := vals1 r
      cases rx
      obtain ⟨its, r', pl, hz⟩ := I.list hs
      have hlen := r'.length
      refine call_tuple_list pl.isList (fun h' kp => ?_) (by simp only [List.size_toArray] <;> omega)
      have I1 : Inv X pins σ H { s with heap := h' } := I.kept (t' := s.toks) kp
      have I2 : Inv X pins σ (upd H h'.objs.size (.frz { cls := .type "tuple", data := .seq its.toArray } (.tup vs))) { s with heap := h'.push { cls := .type "tuple", data := .seq its.toArray } } :=
        I1.laid (t' := s.toks) (fun b o e => Heap.get?_push_of_some _ e) (Nat.le_refl _) (show ObjOk X.prog X.w _ _ _ (.frz _ (.tup vs)) from ⟨Heap.get?_push_size _ rfl, hz, its, r', IsTup.new _ _⟩)
      have hn := I1.hok.fresh (Nat.le_refl h'.objs.size)
      have l := Le.upd (o := .frz { cls := .type "tuple", data := .seq its.toArray } (.tup vs)) (S.newF hn)
      exact ⟨.ref h'.objs.size, _, I2, rfl, o _ _ _ _ h (S.alloc hn) l (.ptup rfl rfl upd_same (r1.mono l))⟩
    · exact h.elim
  · exact h.elim
/-! ## dict(pairs), of a list or of such a tuple -/
def pairsK : List D → Option (List (Key × D))
  | [] => some []
  | .tup [k, v] :: r => match keyD k, pairsK r with
    | some q, some s => some ((q, v) :: s)
    | _, _ => none
  | _ :: _ => none
theorem pairsK_rep {K : Fg} {F : Hp} : ∀ {ds : List D} {vs : List V} {ks : List (Key × D)}, RepL K F ds vs → pairsK ds = some ks → ∃ (ts : List Addr) (kvs : List (Key × V)), vs = ts.map V.ref ∧ Paired (fun t (kv : Key × V) => F t = some (.tup [kV kv.1, kv.2])) ts kvs ∧ kvs.map (·.1) = ks.map (·.1) ∧ RepL K F (ks.map (·.2)) (kvs.map (·.2))
  | [], _, ks, .nil, h => by cases h; exact ⟨[], [], rfl, .nil, rfl, .nil⟩
  | d :: ds, _, ks, .cons (v := v) (vs := vs) r t, h => by
    unfold pairsK at h
    split at h
    · rename_i heq; cases heq
    · rename_i k x r' heq
      cases heq
      split at h
      · rename_i q s' h1 h2
        cases h
        obtain ⟨ts, kvs, e1, e2, e3, e4⟩ := pairsK_rep t h2
        cases r with
        | tup hF rl =>
          obtain ⟨u, w', rfl, ru, rw'⟩ := repL2 rl
          have eu := keyD_rep ru h1
          subst eu
          exact ⟨_ :: ts, (q, w') :: kvs, by rw [List.map_cons, e1], .cons hF e2, by rw [List.map_cons, List.map_cons, e3], .cons rw' e4⟩
      · cases h
    · cases h
def fDict : FO
  | [d], W, P => match view W d with
    | .lst ds => ∃ ks, pairsK ds = some ks ∧ P (.dK (mergeD [] ks))
    | _ => match d with
      | .ptup ds => ∃ ks, pairsK ds = some ks ∧ P (.dK (mergeD [] ks))
      | _ => False
  | _, _, _ => False
theorem Paired.imp' {α β : Type} {R R' : α → β → Prop} (i : ∀ a b, R a b → R' a b) : ∀ {l : List α} {m : List β}, Paired R l m → Paired R' l m
  | _, _, .nil => .nil
  | _, _, .cons h t => .cons (i _ _ h) (Paired.imp' i t)
theorem prs_of {pins : List (Addr × Obj)} {σ : L2.St} {H : Hp} {s : Shared} (I : Inv X pins σ H s) : ∀ {ps : List Addr} {kvs : List (Key × V)}, Paired (fun p (kv : Key × V) => SqT X.K H p [kV kv.1, kv.2]) ps kvs →
    ∃ (prs : List (Key × Value)) (uvs : List (Value × Value)), KV kvs prs ∧ prs.length = ps.length ∧ uvs.length = ps.length ∧ ∀ (j : Nat) (k v : Value), uvs[j]? = some (k, v) → ∃ (b : Addr) (q : Key), ps[j]? = some b ∧ IsTup s.heap b #[k, v] ∧ prs[j]? = some (q, v) ∧ keyIs q k = true
  | _, _, .nil => ⟨[], [], .nil, rfl, rfl, fun j k v e => by simp at e⟩
  | _, _, .cons (a := p) (b := kv) h t => by
    obtain ⟨prs, uvs, r, hl, hl2, hp⟩ := prs_of I t
    obtain ⟨its, rv, ht, _⟩ := I.tuple h
    obtain ⟨u, y, ei, ru, ry⟩ := vals2 rv
    subst ei
    refine ⟨(kv.1, y) :: prs, (u, y) :: uvs, .cons ⟨rfl, ry⟩ r, by rw [List.length_cons, List.length_cons, hl], by rw [List.length_cons, List.length_cons, hl2], fun j k v e => ?_⟩
    cases j with
    | zero =>
      have e' : (u, y) = (k, v) := Option.some.inj e
      cases e'
      exact ⟨p, kv.1, rfl, ht, rfl, kV_is (P := X.prog) (w := X.w) ru⟩
    | succ j =>
      obtain ⟨b, q, e1, e2, e3, e4⟩ := hp j k v (by simpa using e)
      exact ⟨b, q, by simpa using e1, e2, by simpa using e3, e4⟩
theorem refs_back' : ∀ {ts : List Addr} {its : List Value}, Vals (ts.map V.ref) its → its = ts.map Value.ref
  | [], _, r => by rw [List.map_nil] at r; cases r; rfl
  | t :: ts, _, r => by
    rw [List.map_cons] at r
    cases r with
    | cons h q => cases h; rw [List.map_cons, ← refs_back' q]
theorem c_dict (hcalm : X.calm = true) : CallR X (.type "dict") (rDO X.K B fDict) := by
  intro pins s σ H xs us Q I r ⟨F, W, ds, P, S, rl, h, o⟩
  unfold fDict at h
  split at h
  · obtain ⟨v, rfl, rv⟩ := repL1 rl
    split at h
    · rename_i ds hv
      obtain ⟨ks, hk, p⟩ := h
      obtain ⟨a, vs, rfl, hs, r1⟩ := view_lst S rv hv
      obtain ⟨ts, kvs, e1, e2, e3, e4⟩ := pairsK_rep r1 hk
      subst e1
      obtain ⟨m1, m2⟩ := merge_rep (K := X.K) (F := F) e3 e4 (acc := []) (accD := []) rfl .nil
      exact call_dictP hcalm pins s σ H _ us Q I r ⟨a, ts, kvs, rfl, hs, Paired.imp' (fun t kv q => .inl (.inl (S.sub _ _ q))) e2, fun l hl => o _ l _ p hl (.dK m1 m2)⟩
    · split at h
      · rename_i ds _
        obtain ⟨ks, hk, p⟩ := h
        cases rv with
        | ptup hcl hdc hF r1 =>
          rename_i a ot vs
          obtain ⟨ts, kvs, e1, e2, e3, e4⟩ := pairsK_rep r1 hk
          subst e1
          obtain ⟨m1, m2⟩ := merge_rep (K := X.K) (F := F) e3 e4 (acc := []) (accD := []) rfl .nil
          obtain ⟨u, rfl, rx⟩ := vals1 r
          cases rx
          obtain ⟨ho, hz, its, rv', ⟨o', ho', hc', n, hd'⟩⟩ := (show ObjOk X.prog X.w H s.heap a (.frz ot (.tup (ts.map V.ref))) from I.hok a _ (S.sub _ _ hF))
          have eo : o' = ot := Option.some.inj (ho'.symm.trans ho)
          subst eo
          have ei := refs_back' rv'
          subst ei
          rw [List.length_map] at hz
          obtain ⟨prs, uvs, rel, hl, hl2, hpr⟩ := prs_of I (Paired.imp' (fun t kv q => .inl (.inl (S.sub _ _ q))) e2)
          have tsAt : ∀ (j : Nat) (b : Addr), ts[j]? = some b → (ts[j]?).getD 0 = b := fun j b e => by rw [e]; rfl
          refine PySem.call_dict_pairs (knd := mixKind X.prog X.w) (kvs := prs) (PySem.PairArg.tuple a (ts.map Value.ref).toArray (fun j => (ts[j]?).getD 0) uvs) (I.ok.hd hcalm) ⟨⟨o', n, ho, hcl, hdc, hd'⟩, by simp [hl2], fun j k v e => ?_⟩ ⟨by rw [hl, hl2], fun i key v e => ?_⟩ (by rw [hl2]; exact hz) fun h' tk hd'' hk' => ?_
          · obtain ⟨b, q, g1, g2, g3, g4⟩ := hpr j k v e
            refine ⟨by simp [g1], ?_⟩
            show PairAt s.heap ((ts[j]?).getD 0) k v
            rw [tsAt j b g1]
            exact .inl g2
          · obtain ⟨b, q, g1, g2, g3, g4⟩ := hpr i key v e
            exact ⟨q, g3, g4⟩
          · have hm : (s.heap.objs.size == sysModules) = false := beq_eq_false_iff_ne.mpr (Nat.ne_of_gt I.big)
            have hlen : (mergeK [] kvs).length ≤ sizeLine := by
              refine Nat.le_trans (length_mergeK kvs []) ?_
              rw [List.length_nil, Nat.zero_add, rel.length, hl]
              exact hz
            exact ⟨.ref s.heap.objs.size, upd H s.heap.objs.size (.dK (mergeK [] kvs)), I.laid (t' := tk) (fun b o e => hk' b o (by simp) e) (Nat.le_refl _) (show ObjOk X.prog X.w _ _ _ (.dK (mergeK [] kvs)) from ⟨hlen, hm, merged [] prs, KV.merge rel .nil, hd''⟩), rfl, o _ _ _ p (I.hok.fresh (Nat.le_refl _)) (.dK m1 m2)⟩
      · exact h.elim
  · exact h.elim
end
end DL

set_option maxRecDepth 100000
set_option maxHeartbeats 4000000
set_option linter.all false
namespace DL
open PySem PySem.Spec PyProof.Rows L2
/-! ## short rules: what must be seen of the text is seen by rfl -/
structure Sit (X : Cx) (E : XK) (k : Nat) : Prop where
  rg : RG k X.A
  nd : X.N.Nodup
  hc : X.calm = true
  ps : Passes (L2.CX X.prog X.w) X E
  tk : Takes X fun cls d _ H => E cls d H
theorem Sit.blk {X : Cx} {E : XK} {k : Nat} (T : Sit X E k) {s : Shared} {H : Hp} {scope : Scope} {cenv : Env} {fp : List Addr} : Sit (X.blk s H scope cenv fp) (fun _ _ _ => False) k := ⟨T.rg, T.nd, T.hc, passL, fun u s' ⟨_, _, _, _, _, _, _, _, _, _, _, _, _, _, _, _, w⟩ => w.elim⟩
theorem Sit.hu {X : Cx} {E : XK} {k : Nat} (T : Sit X E k) : X.A.units + 65 < cLine := by have := T.rg.r.un; omega
theorem Sit.hu4 {X : Cx} {E : XK} {k : Nat} (T : Sit X E k) : X.A.units + 64 < cLine := by have := T.rg.r.un; omega
theorem Sit.hu1 {X : Cx} {E : XK} {k : Nat} (T : Sit X E k) : X.A.units + 1 < cLine := by have := T.rg.r.un; omega
/-! a def of the module, a method, a class -/
structure FnG (P : Program) (w : World) (K : Fg) (mg : Str → Option Value) (base : Heap) (k : Nat) (x qual : Str) (st : Stmt) (ps : List Str) (sp : DSp) : Prop where
  ex : ∃ f fd, mg x = some (.ref f) ∧ Fun K x qual st f fd ∧ Binds K fd ps [] ∧ FnD P w K mg base k f fd ps sp
structure MtG (P : Program) (w : World) (K : Fg) (mg : Str → Option Value) (base : Heap) (C : Addr) (k : Nat) (x qual : Str) (st : Stmt) (ps : List Str) (sp : DSp) : Prop where
  ex : ∃ f fd, Meth K C x f ∧ Fun K x qual st f fd ∧ Binds K fd ps [] ∧ FnD P w K mg base k f fd ps sp
structure MkG (P : Program) (w : World) (K : Fg) (mg : Str → Option Value) (base : Heap) (C : Addr) (k : Nat) (qual : Str) (st : Stmt) (ps : List Str) (sp : DSp) : Prop where
  ex : ∃ f fd, Mk K C f ∧ Fun K "__init__" qual st f fd ∧ FnD P w K mg base k f fd ps sp
structure PrG (P : Program) (w : World) (K : Fg) (mg : Str → Option Value) (base : Heap) (C : Addr) (k : Nat) (x : Str) (sp : DSp) : Prop where
  ex : ∃ q f fd ps, PropOf K C x q f ∧ Binds K fd ps [] ∧ FnD P w K mg base k f fd ps sp
structure EqG (P : Program) (w : World) (K : Fg) (mg : Str → Option Value) (base : Heap) (C : Addr) (k : Nat) (sp : DSp) : Prop where
  ex : ∃ f fd ps, PySem.W.findIn K (.ref C) "__eq__" = some (some (.ref f)) ∧ PySem.W.isFn K (.ref f) = true ∧ Binds K fd ps [] ∧ FnD P w K mg base k f fd ps sp
theorem kbd_of {K : Fg} {x qual : Str} {st : Stmt} {f : Addr} {fd : FuncData} {ps ks : List Str} {n : Nat} {pk : List Nat} (F : Fun K x qual st f fd)
    (h : ∀ (kV doc pm : Value) (an : Option Addr) (cdv ct : Value) (us ws : List Value), us.length = n → ws.length = ks.length → bindArgs (PySem.W.fnOf x qual (defArgs st) (defBody st) (defScope st) .none kV doc pm an cdv ct) ⟨us, ks.zip ws⟩ = pure (ps.zip (us ++ pick pk ws))) : KBd K fd ps n ks pk := by
  obtain ⟨oc, od, kV, doc, pm, an, cdv, ct, osl, rfl, lk, hcd⟩ := F.ex
  exact ⟨fun s us ws _ h1 h2 => .of_eq (h kV doc pm an cdv ct us ws h1 h2)⟩
section
variable {X : Cx} {B : Base} {E : XK} {k j n : Nat} {C : Addr} {ps ks : List Str} {sp : DSp} {x m qual : Str} {st : Stmt} {p pos apos cpos tpos : Pos} {a b c d e o : Expr} {es : List Expr} {kws : List Keyword} {ta tb tc : WE} {tr tk : WA} {tt tu : WT}
theorem v_ (i : Nat) (hN : X.N[i]? = some x := by rfl) (hv : Vis X.env.scope x := by first | exact Or.inl rfl | exact Or.inr (Or.inl rfl) | exact Or.inr (Or.inr rfl)) (hd : (x == ("__debug__" : Str)) = false := by decide) (hcd : (x == ("__classdict__" : Str)) = false := by decide) : PE X (.Name x pos) (liftE X.K B E (wVar i)) := s_var hN hv hd hcd
theorem vf_ (i : Nat) (hN : X.N[i]? = some x := by rfl) (hv : Vis X.env.scope x := by first | exact Or.inl rfl | exact Or.inr (Or.inl rfl) | exact Or.inr (Or.inr rfl)) (hd : (x == ("__debug__" : Str)) = false := by decide) (hcd : (x == ("__classdict__" : Str)) = false := by decide) : PE X (.Name x pos) (liftE X.K B E (wFrz i)) := s_frz hN hv hd hcd
theorem ci_ {i : Int} {q : Nat} : PE X (.Constant (.int i) q pos) (liftE X.K B E (wC (.int i))) := s_const pe_int fun _ => .int _
theorem cs_ {z : Str} {q : Nat} : PE X (.Constant (.str z) q pos) (liftE X.K B E (wC (.str z))) := s_const pe_str fun _ => .str _
theorem cn_ {q : Nat} : PE X (.Constant .none q pos) (liftE X.K B E (wC .non)) := s_const pe_non fun _ => .non
theorem cb_ {z : Bool} {q : Nat} : PE X (.Constant (.bool z) q pos) (liftE X.K B E (wC (.bl z))) := s_const pe_bl fun _ => .bl _
theorem add_ (ha : PE X a (liftE X.K B E ta)) (hb : PE X b (liftE X.K B E tb)) : PE X (.BinOp a .Add b pos) (liftE X.K B E (wBin fAdd ta tb)) := s_bin o_add ha hb
theorem sub_ (ha : PE X a (liftE X.K B E ta)) (hb : PE X b (liftE X.K B E tb)) : PE X (.BinOp a .Sub b pos) (liftE X.K B E (wBin fSub ta tb)) := s_bin o_sub ha hb
theorem mul_ (ha : PE X a (liftE X.K B E ta)) (hb : PE X b (liftE X.K B E tb)) : PE X (.BinOp a .Mult b pos) (liftE X.K B E (wBin fMul ta tb)) := s_bin o_mul ha hb
theorem div_ (ha : PE X a (liftE X.K B E ta)) (hb : PE X b (liftE X.K B E tb)) : PE X (.BinOp a .FloorDiv b pos) (liftE X.K B E (wBin fDiv ta tb)) := s_bin o_div ha hb
theorem mod_ (ha : PE X a (liftE X.K B E ta)) (hb : PE X b (liftE X.K B E tb)) : PE X (.BinOp a .Mod b pos) (liftE X.K B E (wBin fMod ta tb)) := s_bin o_mod ha hb
theorem pow_ (ha : PE X a (liftE X.K B E ta)) (hb : PE X b (liftE X.K B E tb)) : PE X (.BinOp a .Pow b pos) (liftE X.K B E (wBin fPow ta tb)) := s_bin o_pow ha hb
theorem cmp_ {op : CmpOp} {f : F2} (ho : OpR X (compareOp op) (rD X.K B f)) (ha : PE X a (liftE X.K B E ta)) (hb : PE X b (liftE X.K B E tb)) (hm : behindInMarks op b = false := by rfl) : PE X (.Compare a [op] [b] pos) (liftE X.K B E (wBin f ta tb)) := s_cmp ho ha hb hm
theorem tcmp_ {op : CmpOp} {f : F2} (ho : OpR X (compareOp op) (rD X.K B f)) (ha : PE X a (liftE X.K B E ta)) (hb : PE X b (liftE X.K B E tb)) (hm : behindInMarks op b = false := by rfl) : PT X (.Compare a [op] [b] pos) (liftT X.K B E (wB (wBin f ta tb))) := t_cmp ho ha hb hm
theorem ch_ {op op' : CmpOp} {f g : F2} (ho : OpR X (compareOp op) (rD X.K B f)) (ho' : OpR X (compareOp op') (rD X.K B g)) (ha : PE X a (liftE X.K B E ta)) (hb : PE X b (liftE X.K B E tb)) (hc : PE X c (liftE X.K B E tc)) (hm : lastMarks [op, op'] [b, c] = false := by with_unfolding_all rfl) :
    PE X (.Compare a [op, op'] [b, c] pos) (liftE X.K B E (wChain f g ta tb tc)) := peW (pe_chain ho ho' ha hb hc hm) fun σ H Q h => chain_go h
theorem tch_ {op op' : CmpOp} {f g : F2} (ho : OpR X (compareOp op) (rD X.K B f)) (ho' : OpR X (compareOp op') (rD X.K B g)) (ha : PE X a (liftE X.K B E ta)) (hb : PE X b (liftE X.K B E tb)) (hc : PE X c (liftE X.K B E tc)) (hm : lastMarks [op, op'] [b, c] = false := by with_unfolding_all rfl) :
    PT X (.Compare a [op, op'] [b, c] pos) (liftT X.K B E (wB (wChain f g ta tb tc))) := ptW (pt_chain ho ho' ha hb hc hm) fun σ H Q ⟨F, env, W, P, PX, S, hE, h, hX, hQ⟩ =>
      chain_go (Q := fun x H' => ∃ k, x = .bl k ∧ Q k H') ⟨F, env, W, _, PX, S, hE, h, hX, fun d env1 W1 F1 H1 v ⟨b, e, p⟩ S1 l1 e1 r => by subst e; cases r; exact ⟨b, rfl, hQ b env1 W1 F1 H1 p S1 l1 e1⟩⟩
theorem ca_ (h : PE X e (liftE X.K B E ta)) (hr : PA X es (liftA X.K B E tr)) (hs : starEach (e :: es) X.env = (false, eval e X.env) :: starEach es X.env := by rfl) : PA X (e :: es) (liftA X.K B E (wCons ta tr)) := s_cons h hr hs
theorem na_ : PA X [] (liftA X.K B E wNil) := s_nil
theorem get_ (T : Sit X E k) (ha : PE X a (liftE X.K B E ta)) (hb : PE X b (liftE X.K B E tb)) (hs : PlainIx b := by intro _ _; rfl) : PE X (.Subscript a b pos) (liftE X.K B E (wBin fGet ta tb)) := s_get T.hu1 ha hb hs
theorem get2_ (T : Sit X E k) (ho : PE X o (liftE X.K B E ta)) (he : PE X a (liftE X.K B E tb)) (hf : PE X b (liftE X.K B E tc)) (m : M2 X o "get" apos a b cpos := by exact ⟨rfl, rfl, rfl, rfl⟩) : PE X (.Call (.Attribute o "get" apos) [a, b] [] cpos) (liftE X.K B E (wGet2 ta tb tc)) := s_get2 T.hu1 ho he hf m
theorem fld_ (cl : Cls X.K C) (n : NoAttr X.K C m) (ho : PE X o (liftE X.K B E ta)) (hb : attributeBase o m X.env (eval o X.env) = eval o X.env := by rfl) : PE X (.Attribute o m pos) (liftE X.K B E (wFld C m ta)) := s_fld cl n ho hb
theorem prop_ (T : Sit X E k) (cl : Cls X.K C) (G : PrG X.prog X.w X.K X.mg X.base C j m sp) (hl : j + 1 ≤ k) (ho : PE X o (liftE X.K B E ta)) (hb : attributeBase o m X.env (eval o X.env) = eval o X.env := by rfl) : PE X (.Attribute o m pos) (liftE X.K B E (wProp C sp ta)) := by
  obtain ⟨q, f, fd, ps, h1, h2, h3⟩ := G.ex
  exact s_prop cl h1 h3 (T.rg.mono hl) h2 ho hb
theorem call_ (T : Sit X E k) (G : FnG X.prog X.w X.K X.mg X.base j x qual st ps sp) (hl : j ≤ k) (ha : PA X (e :: es) (liftA X.K B E tr)) (hg : Gl X x := by rfl) (hdb : (x == ("__debug__" : Str)) = false := by decide)
    (hs : starEach (e :: es) X.env = (false, eval e X.env) :: starEach es X.env := by rfl) (hpl : (backTo pos (starEach es X.env)).any (·.1) = false := by rfl) : PE X (.Call (.Name x p) (e :: es) [] pos) (liftE X.K B E (wCall sp tr)) := by
  obtain ⟨f, fd, h1, h2, h3, h4⟩ := G.ex
  exact s_call h4 (T.rg.mono hl) hg h1 h2.kp h3 T.ps ha hdb hs hpl
theorem callK0_ {pk : List Nat} (T : Sit X E k) (G : FnG X.prog X.w X.K X.mg X.base j x qual st ps sp) (hl : j ≤ k)
    (hb : ∀ (kV doc pm : Value) (an : Option Addr) (cdv ct : Value) (us ws : List Value), us.length = 0 → ws.length = ks.length → bindArgs (PySem.W.fnOf x qual (defArgs st) (defBody st) (defScope st) .none kV doc pm an cdv ct) ⟨us, ks.zip ws⟩ = pure (ps.zip (us ++ pick pk ws)))
    (hkw : PK X kws (liftA X.K B E tk)) (hg : Gl X x := by rfl) (hall : (backToKw pos (keywordEach kws X.env)).all (·.1.isSome) = true := by rfl) (hks : (backToKw pos (keywordEach kws X.env)).filterMap (·.1) = ks := by rfl) (hdb : (x == ("__debug__" : Str)) = false := by decide)
    (hpl : ((backTo pos (starEach [] X.env)).any (·.1) || (backToKw pos (keywordEach kws X.env)).any (·.1.isNone)) = false := by rfl) : PE X (.Call (.Name x p) [] kws pos) (liftE X.K B E (wCallK sp 0 ks.length pk wNil tk)) := by
  obtain ⟨f, fd, h1, h2, h3, h4⟩ := G.ex
  exact s_callK0 h4 (T.rg.mono hl) hg h1 h2.kp (kbd_of h2 hb) T.ps hkw hall hks hdb hpl
theorem make_ (T : Sit X E k) (G : MkG X.prog X.w X.K X.mg X.base C j qual st ps sp) (hl : j + 1 ≤ k) (hm : X.mg x = some (.ref C))
    (hb : ∀ (kV doc pm : Value) (an : Option Addr) (cdv ct : Value) (us ws : List Value), us.length = n + 1 → ws.length = ([] : List Str).length → bindArgs (PySem.W.fnOf "__init__" qual (defArgs st) (defBody st) (defScope st) .none kV doc pm an cdv ct) ⟨us, ([] : List Str).zip ws⟩ = pure (ps.zip (us ++ pick [] ws)))
    (ha : PA X (e :: es) (liftA X.K B E tr)) (hg : Gl X x := by rfl) (hdb : (x == ("__debug__" : Str)) = false := by decide)
    (he : starEach (e :: es) X.env = (false, eval e X.env) :: starEach es X.env := by rfl) (hpl : ((backTo pos (starEach (e :: es) X.env)).any (·.1) || (backToKw pos (keywordEach [] X.env)).any (·.1.isNone)) = false := by rfl) :
    PE X (.Call (.Name x p) (e :: es) [] pos) (liftE X.K B E (wMakeK C sp n 0 [] tr wNil)) := by
  obtain ⟨f, fd, h1, h2, h4⟩ := G.ex
  exact s_make h1 h4 (T.rg.mono hl) hg hm (kbd_of h2 hb) T.ps ha s_pknil rfl rfl hdb he hpl
theorem makeK0_ {pk : List Nat} (T : Sit X E k) (G : MkG X.prog X.w X.K X.mg X.base C j qual st ps sp) (hl : j + 1 ≤ k) (hm : X.mg x = some (.ref C))
    (hb : ∀ (kV doc pm : Value) (an : Option Addr) (cdv ct : Value) (us ws : List Value), us.length = 0 + 1 → ws.length = ks.length → bindArgs (PySem.W.fnOf "__init__" qual (defArgs st) (defBody st) (defScope st) .none kV doc pm an cdv ct) ⟨us, ks.zip ws⟩ = pure (ps.zip (us ++ pick pk ws)))
    (hkw : PK X kws (liftA X.K B E tk)) (hg : Gl X x := by rfl) (hall : (backToKw pos (keywordEach kws X.env)).all (·.1.isSome) = true := by rfl) (hks : (backToKw pos (keywordEach kws X.env)).filterMap (·.1) = ks := by rfl) (hdb : (x == ("__debug__" : Str)) = false := by decide)
    (hpl : ((backTo pos (starEach [] X.env)).any (·.1) || (backToKw pos (keywordEach kws X.env)).any (·.1.isNone)) = false := by rfl) :
    PE X (.Call (.Name x p) [] kws pos) (liftE X.K B E (wMakeK C sp 0 ks.length pk wNil tk)) := by
  obtain ⟨f, fd, h1, h2, h4⟩ := G.ex
  exact s_makeK0 h1 h4 (T.rg.mono hl) hg hm (kbd_of h2 hb) T.ps hkw hall hks hdb hpl
theorem meth_ {pl : Sem Bool} (T : Sit X E k) (cl : Cls X.K C) (G : MtG X.prog X.w X.K X.mg X.base C j m qual st ps sp) (hl : j ≤ k) (ho : PE X o (liftE X.K B E ta)) (ha : PA X (e :: es) (liftA X.K B E tr))
    (hs : starEach (e :: es) X.env = (false, eval e X.env) :: starEach es X.env := by rfl) (hpl : (backTo pos (starEach es X.env)).any (·.1) = false := by rfl)
    (ht : eval (.Call (.Attribute o m apos) (e :: es) [] pos) X.env = (do
      let ov ← eval o X.env
      standAt apos.atName
      let (f, first) ← holding [ov] (getMethod ov m pl)
      callWith pos f first (backTo pos (starEach (e :: es) X.env)) (backToKw pos (keywordEach [] X.env))) := by rfl) : PE X (.Call (.Attribute o m apos) (e :: es) [] pos) (liftE X.K B E (wMeth C m sp ta tr)) := by
  obtain ⟨f, fd, h1, h2, h3, h4⟩ := G.ex
  exact s_meth cl h1 h4 (T.rg.mono hl) h3 T.ps ho ha hs hpl ht
theorem meth0_ {pl : Sem Bool} (T : Sit X E k) (cl : Cls X.K C) (G : MtG X.prog X.w X.K X.mg X.base C j m qual st ps sp) (hl : j ≤ k) (ho : PE X o (liftE X.K B E ta))
    (ht : eval (.Call (.Attribute o m apos) [] [] pos) X.env = (do
      let ov ← eval o X.env
      standAt apos.atName
      let (f, first) ← holding [ov] (getMethod ov m pl)
      callWith pos f first (backTo pos (starEach [] X.env)) (backToKw pos (keywordEach [] X.env))) := by rfl) : PE X (.Call (.Attribute o m apos) [] [] pos) (liftE X.K B E (wMeth C m sp ta wNil)) := by
  obtain ⟨f, fd, h1, h2, h3, h4⟩ := G.ex
  exact s_meth0 cl h1 h4 (T.rg.mono hl) h3 T.ps ho ht
theorem methK_ {pl : Sem Bool} {pk : List Nat} (T : Sit X E k) (cl : Cls X.K C) (G : MtG X.prog X.w X.K X.mg X.base C j m qual st ps sp) (hl : j ≤ k)
    (hb : ∀ (kV doc pm : Value) (an : Option Addr) (cdv ct : Value) (us ws : List Value), us.length = 1 → ws.length = ks.length → bindArgs (PySem.W.fnOf m qual (defArgs st) (defBody st) (defScope st) .none kV doc pm an cdv ct) ⟨us, ks.zip ws⟩ = pure (ps.zip (us ++ pick pk ws)))
    (ho : PE X o (liftE X.K B E ta)) (hkw : PK X kws (liftA X.K B E tk)) (hall : (backToKw pos (keywordEach kws X.env)).all (·.1.isSome) = true := by rfl) (hks : (backToKw pos (keywordEach kws X.env)).filterMap (·.1) = ks := by rfl)
    (hpl : ((backTo pos (starEach [] X.env)).any (·.1) || (backToKw pos (keywordEach kws X.env)).any (·.1.isNone)) = false := by rfl)
    (ht : eval (.Call (.Attribute o m apos) [] kws pos) X.env = (do
      let ov ← eval o X.env
      standAt apos.atName
      let (f, first) ← holding [ov] (getMethod ov m pl)
      callWith pos f first (backTo pos (starEach [] X.env)) (backToKw pos (keywordEach kws X.env))) := by rfl) : PE X (.Call (.Attribute o m apos) [] kws pos) (liftE X.K B E (wMethK C m sp ks.length pk ta tk)) := by
  obtain ⟨f, fd, h1, h2, h3, h4⟩ := G.ex
  exact s_methK cl h1 h4 (T.rg.mono hl) (kbd_of h2 hb) T.ps ho hkw hall hks hpl ht
theorem own_ (T : Sit X E k) (G : EqG X.prog X.w X.K X.mg X.base C j sp) (hl : j ≤ k) (ha : PE X a (liftE X.K B E ta)) (hb : PE X b (liftE X.K B E tb)) : PE X (.Compare a [.Eq] [b] pos) (liftE X.K B E (wOwn C sp ta tb)) := by
  obtain ⟨f, fd, ps, h1, h2, h3, h4⟩ := G.ex
  exact s_own h4 (T.rg.mono hl) h1 h2 h3 ha hb (nomark _)
theorem bi_ {f : FL} {id : String} (hc : CallR X (.builtin id) (rDL X.K B f)) (hm : X.mg x = none) (ha : PA X (e :: es) (liftA X.K B E tr)) (hg : Gl X x := by rfl) (hv : bootBuiltins x = some (.builtin id) := by decide +kernel) (hn : x ≠ "__name__" := by decide) (hdb : (x == ("__debug__" : Str)) = false := by decide)
    (he : starEach (e :: es) X.env = (false, eval e X.env) :: starEach es X.env := by rfl) (hpl : (backTo pos (starEach es X.env)).any (·.1) = false := by rfl) : PE X (.Call (.Name x p) (e :: es) [] pos) (liftE X.K B E (wApp f tr)) := s_bi hc hg hm hv ha hn hdb he hpl
theorem biT_ {f : FL} {Tn : String} (hc : CallR X (.type Tn) (rDL X.K B f)) (hm : X.mg x = none) (ha : PA X (e :: es) (liftA X.K B E tr)) (hg : Gl X x := by rfl) (hv : bootBuiltins x = some (.type Tn) := by decide +kernel) (hn : x ≠ "__name__" := by decide) (hdb : (x == ("__debug__" : Str)) = false := by decide)
    (he : starEach (e :: es) X.env = (false, eval e X.env) :: starEach es X.env := by rfl) (hpl : (backTo pos (starEach es X.env)).any (·.1) = false := by rfl) : PE X (.Call (.Name x p) (e :: es) [] pos) (liftE X.K B E (wApp f tr)) := s_biT hc hg hm hv ha hn hdb he hpl
theorem biF_ {f : FO} {id : String} (hc : CallR X (.builtin id) (rDO X.K B f)) (hm : X.mg x = none) (ha : PA X (e :: es) (liftA X.K B E tr)) (hg : Gl X x := by rfl) (hv : bootBuiltins x = some (.builtin id) := by decide +kernel) (hn : x ≠ "__name__" := by decide) (hdb : (x == ("__debug__" : Str)) = false := by decide)
    (he : starEach (e :: es) X.env = (false, eval e X.env) :: starEach es X.env := by rfl) (hpl : (backTo pos (starEach es X.env)).any (·.1) = false := by rfl) : PE X (.Call (.Name x p) (e :: es) [] pos) (liftF X.K B E (wAppF f tr)) := s_biF hc hg hm hv ha hn hdb he hpl
theorem biTF_ {f : FO} {Tn : String} (hc : CallR X (.type Tn) (rDO X.K B f)) (hm : X.mg x = none) (ha : PA X (e :: es) (liftA X.K B E tr)) (hg : Gl X x := by rfl) (hv : bootBuiltins x = some (.type Tn) := by decide +kernel) (hn : x ≠ "__name__" := by decide) (hdb : (x == ("__debug__" : Str)) = false := by decide)
    (he : starEach (e :: es) X.env = (false, eval e X.env) :: starEach es X.env := by rfl) (hpl : (backTo pos (starEach es X.env)).any (·.1) = false := by rfl) : PE X (.Call (.Name x p) (e :: es) [] pos) (liftF X.K B E (wAppF f tr)) := s_biTF hc hg hm hv ha hn hdb he hpl
theorem sortIt_ (T : Sit X E k) (hm : X.mg "sorted" = none) (he : PE X e (liftE X.K B E ta)) (hg : Gl X "sorted" := by rfl) (hv : bootBuiltins "sorted" = some (.builtin "sorted") := by decide +kernel) (hb : attributeBase e "items" X.env (eval e X.env) = eval e X.env := by rfl) (hl : (apos.endLine == cpos.line) = true := by rfl)
    (hs : starEach [.Call (.Attribute e "items" apos) [] [] cpos] X.env = (false, eval (.Call (.Attribute e "items" apos) [] [] cpos) X.env) :: starEach [] X.env := by rfl) (hpl : (backTo pos (starEach [] X.env)).any (·.1) = false := by rfl) :
    PE X (.Call (.Name "sorted" p) [.Call (.Attribute e "items" apos) [] [] cpos] [] pos) (liftF X.K B E (wSortIt ta)) := s_sortIt T.hc he hg hm hv hb hl hs hpl
theorem disp_ {keys : List (Option Expr)} {values : List Expr} {pr : List (WE × WE)} (h : PPs X pos keys values (pr.map (trX X.K E))) (hall : keys.all (·.isSome) = true := by rfl) (hl : keys.length = values.length := by rfl) (h0 : keys ≠ [] := by exact List.cons_ne_nil _ _)
    (h15 : keys.length ≤ 15 := by decide) : PE X (.Dict keys values pos) (liftF X.K B E (wDisp pr)) := s_disp h hall hl h0 h15
theorem pp0_ {pos : Pos} : PPs X pos [] [] (([] : List (WE × WE)).map (trX X.K E)) := pps_nil
/-! tests -/
theorem tru_ (ha : PE X a (liftE X.K B E ta)) (he : ∀ whole, isTrue a X.env whole = (do let v ← whole; standAt a.pos; holding [v] (truthy v)) := by intro _; rfl) : PT X a (liftT X.K B E (wTru ta)) := t_tru ha he
theorem town_ (T : Sit X E k) (G : EqG X.prog X.w X.K X.mg X.base C j sp) (hl : j ≤ k) (ha : PE X a (liftE X.K B E ta)) (hb : PE X b (liftE X.K B E tb)) : PT X (.Compare a [.Eq] [b] pos) (liftT X.K B E (wB (wOwn C sp ta tb))) := by
  obtain ⟨f, fd, ps, h1, h2, h3, h4⟩ := G.ex
  exact ptW (pt_cmpR (o_own h4 (T.rg.mono hl) h1 h2 h3) ha hb (nomark _)) fun σ H Q ⟨F, env, W, P, PX, S, hE, h, hX, hQ⟩ => by
    refine ⟨F, env, W, _, PX, S, hE, h, hX, fun d1 env1 W1 F1 H1 v1 p1 S1 l1 e1 r1 => ?_⟩
    refine ⟨F1, env1, W1, _, PX, S1, e1, p1, hX.mono l1, fun d2 env2 W2 F2 H2 v2 p2 S2 l2 e2 r2 => ?_⟩
    refine ⟨F2, W2, d1, d2, _, S2, r1.mono l2, r2, p2, fun d v W3 F3 H3 ⟨b, eb, p3⟩ S3 l3 r3 => ?_⟩
    subst eb
    cases r3
    exact ⟨b, rfl, hQ b env2 W3 F3 H3 p3 S3 ((l1.trans l2).trans l3) (e2.mono l3)⟩
theorem andW_ {rest : List Expr} {q1 : Pos} (ha : PT X a (liftT X.K B E tt)) (hb : PW X (.BoolOp .And (b :: rest) q1) (liftT X.K B E tu)) : PW X (.BoolOp .And (a :: b :: rest) q1) (liftT X.K B E (wAnd tt tu)) := t_and ha hb
theorem orW_ {rest : List Expr} {q1 : Pos} (ha : PT X a (liftT X.K B E tt)) (hb : PW X (.BoolOp .Or (b :: rest) q1) (liftT X.K B E tu)) : PW X (.BoolOp .Or (a :: b :: rest) q1) (liftT X.K B E (wOr tt tu)) := t_or ha hb
theorem and1_ {q1 : Pos} (ha : PT X a (liftT X.K B E tt)) : PW X (.BoolOp .And [a] q1) (liftT X.K B E tt) := pw_and1 ha
theorem or1_ {q1 : Pos} (ha : PT X a (liftT X.K B E tt)) : PW X (.BoolOp .Or [a] q1) (liftT X.K B E tt) := pw_or1 ha
/-! targets, statements -/
theorem gn_ (T : Sit X E k) (i : Nat) (hi : X.N[i]? = some x := by rfl) (hx : Loc X.env.scope x := by first | exact Or.inl rfl | exact Or.inr rfl) (hf : X.fn x = true ∨ X.env.scope.names.lookup x = some .local := by first | exact Or.inl rfl | exact Or.inr rfl) : PG X (.Name x pos) (liftG X.K B (.nm i)) := g_nm T.nd hi hx hf
theorem gc_ {l r : Tg} (h1 : PG X e (liftG X.K B l)) (h2 : PGs X es (liftGs X.K B r)) (hs : (assignEach (e :: es) X.env).map (·.2) = assign e X.env :: (assignEach es X.env).map (·.2) := by rfl) : PGs X (e :: es) (liftGs X.K B (.tp l r)) := g_cons h1 h2 hs
theorem gz_ : PGs X [] (liftGs X.K B .nl) := g_nil
theorem gt2_ {q : Nat} {l r : Tg} (T : Sit X E k) (h : PGs X [a, b] (liftGs X.K B (.tp l (.tp r .nl)))) (hn : (assignEach [a, b] X.env).length = 2 := by rfl) (hst : (assignEach [a, b] X.env).findIdx? (·.1) = none := by rfl) : PG X (.Tuple [a, b] q pos) (liftG X.K B (.tu (.tp l (.tp r .nl)))) :=
  g_tup T.hc h (n := 2) (fun ds env P h => by
    cases ds with
    | nil => exact False.elim h
    | cons d1 ds =>
      have key : ∀ (g : Tg) (d : D) (env : DEnv) (P : DEnv → Prop), bindG g d env P → ∃ env', P env' := by
        intro g
        induction g with
        | nm i => intro d env P h; exact ⟨_, h⟩
        | nl => intro d env P h; unfold bindG at h; split at h <;> first | exact ⟨_, h⟩ | exact h.elim
        | tu l ih => intro d env P h; unfold bindG at h; split at h <;> first | exact ih _ _ _ h | exact h.elim
        | tp l r ihl ihr => intro d env P h; unfold bindG at h; split at h <;> first | (obtain ⟨e', h'⟩ := ihl _ _ _ h; exact ihr _ _ _ h') | exact h.elim
      have h' : bindG l d1 env fun env1 => bindG (.tp r .nl) (.lst ds) env1 P := h
      obtain ⟨env1, h2⟩ := key _ _ _ _ h'
      cases ds with
      | nil => exact False.elim h2
      | cons d2 ds =>
        have h2' : bindG r d2 env1 fun env2 => bindG .nl (.lst ds) env2 P := h2
        obtain ⟨env2, h3⟩ := key _ _ _ _ h2'
        cases ds with
        | nil => rfl
        | cons _ _ => exact False.elim h3) hn hst
theorem asg_ {tg : Expr} {g : Tg} (he : PE X e (liftE X.K B E ta)) (hg : PG X tg (liftG X.K B g)) (hs : swapsWithSole [tg] e pos.line X.env = pure false := by rfl) (hw : swappedStores [tg] e X.env = pure none := by rfl) (h1 : (assignEach [tg] X.env).map (·.2) = [assign tg X.env] := by rfl) :
    PS X (.Assign [tg] e pos) (liftS X.K B E (wAsg ta g)) := S_asg he hg hs hw h1
theorem par2_ {y : Str} {px py pt pt2 : Pos} {kt k2 : Nat} (T : Sit X E k) (i j : Nat) (ha : PA X [a, b] (liftA X.K B E tr)) (hi : X.N[i]? = some x := by rfl) (hj : X.N[j]? = some y := by rfl) (hij : i ≠ j := by decide)
    (hx : X.env.scope.names.lookup x = some .local := by rfl) (hy : X.env.scope.names.lookup y = some .local := by rfl) (hw : swappedStores [.Tuple [.Name x px, .Name y py] kt pt] (.Tuple [a, b] k2 pt2) X.env = pure (some [x, y]) := by rfl)
    (hs : swapsWithSole [.Tuple [.Name x px, .Name y py] kt pt] (.Tuple [a, b] k2 pt2) pos.line X.env = pure false := by rfl) : PS X (.Assign [.Tuple [.Name x px, .Name y py] kt pt] (.Tuple [a, b] k2 pt2) pos) (liftS X.K B E (wPar2 i j tr)) := S_par T.hc T.nd hi hj hij hx hy ha hw hs
theorem par3_ {y z : Str} {px py pz pt pt2 : Pos} {kt k2 : Nat} (T : Sit X E k) (i j l : Nat) (ha : PA X [a, b, c] (liftA X.K B E tr)) (hi : X.N[i]? = some x := by rfl) (hj : X.N[j]? = some y := by rfl) (hl : X.N[l]? = some z := by rfl) (hij : i ≠ j := by decide) (hil : i ≠ l := by decide) (hjl : j ≠ l := by decide)
    (hx : X.env.scope.names.lookup x = some .local := by rfl) (hy : X.env.scope.names.lookup y = some .local := by rfl) (hz : X.env.scope.names.lookup z = some .local := by rfl) (hw : swappedStores [.Tuple [.Name x px, .Name y py, .Name z pz] kt pt] (.Tuple [a, b, c] k2 pt2) X.env = pure (some [x, y, z]) := by rfl)
    (hs : swapsWithSole [.Tuple [.Name x px, .Name y py, .Name z pz] kt pt] (.Tuple [a, b, c] k2 pt2) pos.line X.env = pure false := by rfl) : PS X (.Assign [.Tuple [.Name x px, .Name y py, .Name z pz] kt pt] (.Tuple [a, b, c] k2 pt2) pos) (liftS X.K B E (wPar3 i j l tr)) := S_par3 T.hc T.nd hi hj hl hij hil hjl hx hy hz ha hw hs
theorem drop_ (he : PE X e (liftE X.K B E ta)) (hs : swapsWith e none pos.line X.env = pure false := by rfl) : PS X (.Expr e pos) (liftS X.K B E (wDrop ta)) := S_drop he hs
theorem setIx_ (T : Sit X E k) (he : PE X e (liftE X.K B E ta)) (ho : PE X o (liftE X.K B E tb)) (hi : PE X a (liftE X.K B E tc))
    (ha : ∀ v, assign (.Subscript o a tpos) X.env v = (do
      let ov ← holding [v] (eval o X.env)
      let iv ← holding [v, ov] (eval a X.env)
      standAt tpos
      holding [v, ov, iv] (setItem ov iv v)
      release [v, ov, iv] []) := by intro _; rfl)
    (hs : swapsWithSole [.Subscript o a tpos] e pos.line X.env = pure false := by rfl) (hw : swappedStores [.Subscript o a tpos] e X.env = pure none := by rfl) (h1 : (assignEach [.Subscript o a tpos] X.env).map (·.2) = [assign (.Subscript o a tpos) X.env] := by rfl) :
    PS X (.Assign [.Subscript o a tpos] e pos) (liftS X.K B E (wSetIx ta tb tc)) := S_setIx T.hu1 he ho hi ha hs hw h1
theorem setFld_ (cl : Cls X.K C) (n : NoAttr X.K C m) (he : PE X e (liftE X.K B E ta)) (ho : PE X o (liftE X.K B E tb)) (hs : swapsWith e (some (.Attribute o m tpos)) pos.line X.env = pure false := by rfl) : PS X (.Assign [.Attribute o m tpos] e pos) (liftS X.K B E (wSetFld C m ta tb)) := S_setFld cl n he ho hs
theorem mu_ {f : FM} {id : String} (hm : MtR X id (rMu X.K B f)) (slot : Slot "list" m id) (hty : typeOf (.builtin id) = pure (.type "method_descriptor")) (ho : PE X o (liftE X.K B E ta)) (ha : PA X (e :: es) (liftA X.K B E tr))
    (hbase : attributeBase o m X.env (eval o X.env) = eval o X.env := by rfl)
    (hfew : ((backTo cpos (starEach (e :: es) X.env)).all (fun x => !x.1) && (backToKw cpos (keywordEach [] X.env)).all (fun x => x.1.isSome)
      && decide ((e :: es).length + ([] : List Keyword).length + (if ([] : List Keyword).isEmpty then 0 else 1) < 30)) = true := by rfl)
    (hline : (apos.endLine == cpos.line) = true := by rfl) (hs : starEach (e :: es) X.env = (false, eval e X.env) :: starEach es X.env := by rfl) (hpl : (backTo cpos (starEach es X.env)).any (·.1) = false := by rfl) :
    PE X (.Call (.Attribute o m apos) (e :: es) [] cpos) (liftE X.K B E (wMu f ta tr)) := s_mu PySem.F.plainAttrs_list slot hty hm ho ha hbase hfew hline hs hpl
theorem mu0_ {f : FM} {id : String} (hm : MtR X id (rMu X.K B f)) (slot : Slot "list" m id) (hty : typeOf (.builtin id) = pure (.type "method_descriptor")) (ho : PE X o (liftE X.K B E ta))
    (hbase : attributeBase o m X.env (eval o X.env) = eval o X.env := by rfl) (hline : (apos.endLine == cpos.line) = true := by rfl) :
    PE X (.Call (.Attribute o m apos) [] [] cpos) (liftE X.K B E (wMu f ta wNil)) := s_mu0 PySem.F.plainAttrs_list slot hty hm ho hbase hline
theorem append_ (ho : PE X o (liftE X.K B E ta)) (ha : PA X (e :: es) (liftA X.K B E tr))
    (hbase : attributeBase o "append" X.env (eval o X.env) = eval o X.env := by rfl)
    (hfew : ((backTo cpos (starEach (e :: es) X.env)).all (fun x => !x.1) && (backToKw cpos (keywordEach [] X.env)).all (fun x => x.1.isSome)
      && decide ((e :: es).length + ([] : List Keyword).length + (if ([] : List Keyword).isEmpty then 0 else 1) < 30)) = true := by rfl)
    (hline : (apos.endLine == cpos.line) = true := by rfl) (hs : starEach (e :: es) X.env = (false, eval e X.env) :: starEach es X.env := by rfl) (hpl : (backTo cpos (starEach es X.env)).any (·.1) = false := by rfl) :
    PE X (.Call (.Attribute o "append" apos) (e :: es) [] cpos) (liftE X.K B E (wMu mAppend ta tr)) := s_mu PySem.F.plainAttrs_list PySem.F.slot_list_append PySem.F.type_list_append m_append ho ha hbase hfew hline hs hpl
theorem insert_ (ho : PE X o (liftE X.K B E ta)) (ha : PA X (e :: es) (liftA X.K B E tr))
    (hbase : attributeBase o "insert" X.env (eval o X.env) = eval o X.env := by rfl)
    (hfew : ((backTo cpos (starEach (e :: es) X.env)).all (fun x => !x.1) && (backToKw cpos (keywordEach [] X.env)).all (fun x => x.1.isSome)
      && decide ((e :: es).length + ([] : List Keyword).length + (if ([] : List Keyword).isEmpty then 0 else 1) < 30)) = true := by rfl)
    (hline : (apos.endLine == cpos.line) = true := by rfl) (hs : starEach (e :: es) X.env = (false, eval e X.env) :: starEach es X.env := by rfl) (hpl : (backTo cpos (starEach es X.env)).any (·.1) = false := by rfl) :
    PE X (.Call (.Attribute o "insert" apos) (e :: es) [] cpos) (liftE X.K B E (wMu mInsert ta tr)) := s_mu PySem.F.plainAttrs_list PySem.F.slot_list_insert PySem.F.type_list_insert m_insert ho ha hbase hfew hline hs hpl
end
end DL

set_option maxRecDepth 100000
set_option maxHeartbeats 4000000
set_option linter.all false
namespace DL
open PySem PySem.Spec PyProof.Rows L2
/-! ## constants of the module; a def from its reading -/
structure ConT (K : Fg) (mg : Str → Option Value) (x : Str) (ns : List Int) : Prop where
  ex : ∃ a, mg x = some (.ref a) ∧ SqT K (fun _ => none) a (ns.map V.int)
theorem con_ {X : Cx} {B : Base} {E : XK} {x : Str} {p : Pos} {ns : List Int} (h : ConT X.K X.mg x ns) (hg : Gl X x := by rfl) (hdb : (x == ("__debug__" : Str)) = false := by decide) : PE X (.Name x p) (liftE X.K B E (wC (.ktup (ns.map D.int)))) := by
  obtain ⟨a, h1, h2⟩ := h.ex
  exact s_const (pe_glob (v := .ref a) hg h1 rfl hdb) fun F => .ktup h2 (RepL.of_ints ns)
def env0 (N : List Str) (ds : List D) : DEnv := ds.map some ++ List.replicate (N.length - ds.length) none
theorem repL_get {K : Fg} {F : Hp} {n : Nat} : ∀ {ds : List D} {vs : List V}, RepL K F ds vs → ∀ (i : Nat) (d : D), (ds.map some ++ List.replicate n none)[i]? = some (some d) → ∃ v, (vs.map some ++ List.replicate n none)[i]? = some (some v) ∧ Rep K F d v
  | _, _, .nil, i, d, h => by
    rw [List.map_nil, List.nil_append, List.getElem?_replicate] at h
    split at h <;> cases h
  | _, _, .cons (v := v) r t, 0, d, h => by
    rw [List.map_cons, List.cons_append, List.getElem?_cons_zero] at h
    cases h
    exact ⟨v, rfl, r⟩
  | _, _, .cons r t, i + 1, d, h => by
    rw [List.map_cons, List.cons_append, List.getElem?_cons_succ] at h ⊢
    exact repL_get t i d h
section
variable {P : Program} {w : World} {K : Fg} {mg : Str → Option Value} {base : Heap} {k : Nat} {f : Addr} {fd : FuncData} {ps : List Str} {sp : DSp}
theorem fnD_go {x qual : Str} {st : Stmt} {N : List Str} {t : WStm} (F : Fun K x qual st f fd) (S : FnScope N ps (defScope st))
    (hb : ∀ (cdv : Value) (A : Around) (outer : List Env) (s : Shared) (H : Hp) (E : XK), Sit (cxOf (L2.CX P w) P w K mg base N qual (defScope st) f cdv A outer s H E) E k →
      ∀ B, PSs (cxOf (L2.CX P w) P w K mg base N qual (defScope st) f cdv A outer s H E) (defBody st) (liftS K B E t))
    (law : ∀ ds W Q PX, sp ds W Q PX → ds.length = ps.length ∧ t PX { nx := fun _ W' => Q .non W', rt := Q } (env0 N ds) W) : FnD P w K mg base (k + 1) f fd ps sp :=
  fnD_of F S (fun ds W Q PX h => (law ds W Q PX h).1) fun cdv A outer s H vs Q E hr ⟨F0, W, ds, PP, PX, S0, rl, h, hQ, hX⟩ => by
    refine ⟨_, hb cdv A outer s H E ⟨hr, S.nd, rfl, passes_call (takes_of rfl rfl rfl rfl) fun _ _ _ _ h => h, takes_of rfl rfl rfl rfl⟩ ⟨H, W, F0⟩, ?_⟩
    have hl := rl.length
    refine ⟨F0, env0 N ds, W, _, PX, S0, ⟨?_, ?_⟩, (law ds W PP PX h).2, hX, ?_, ?_, ?_, ?_⟩
    · unfold env0 L2.start
      rw [List.length_append, List.length_append, List.length_map, List.length_map, List.length_replicate, List.length_replicate, hl]
    · intro i d e
      unfold L2.start
      rw [← hl]
      exact repL_get rl i d e
    · exact fun env' W' F' H' σ' p T l e => hQ _ W' F' H' _ p T .non
    · exact fun d W' F' H' v p T l r => hQ d W' F' H' v p T r
    · exact fun env' W' F' H' σ' p T l e => p.elim
    · exact fun env' W' F' H' σ' p T l e => p.elim
end
end DL

set_option maxRecDepth 100000
set_option maxHeartbeats 4000000
set_option linter.all false
namespace DL
open PySem PySem.Spec PyProof.Rows L2
/-! ## the law's own call -/
section
variable {P : Program} {w : World} {K : Fg} {mg mb : Str → Option Value} {k : Nat} {fa la : Addr} {fd : FuncData} {x : Str} {sp : DSp} {t : Shared} {us : List Value} {is : List Int}
/-- what the law's end is to be -/
abbrev LawEnd (t : Shared) (r : Result) (t' : Shared) : Prop := r = .ok (.ret (.bool true)) ∧ OldK t.heap t'.heap ∧ t'.os = t.os ∧ AllBare t'.gens
theorem caller_rg (hr : Room k callerA) : RG k callerA := ⟨hr, rfl⟩
theorem law_from {U : Hp} (only : Only U) (seq : SqL K U la (is.map V.int)) (held : HOk P w U t.heap) (alone : ∀ b, U b ≠ none → b = la) (out : U la ≠ none → K.lookup la = none)
    (kin : K.In t.heap) (hg : t.heap.Ns mainGlobals mg) (hb : t.heap.Ns builtinsNs mb) (hbb : ∀ y : Str, y ≠ "__name__" → mb y = bootBuiltins y) (lim : t.heap.NoLimit) (gens : t.gens = #[])
    (hl : t.heap.get? la = some { cls := .type "list", data := .seq us.toArray }) (hr : Room k callerA) (F : ∀ base : Heap, K.In base → base.Ns mainGlobals mg → FnD P w K mg base k fa fd [x] sp) (bind : ∀ (s : Shared) (u : Value), BindsTo s fd ⟨[u], []⟩ [(x, u)])
    (h : ∀ W : WS, sp [.klst (is.map D.int)] W (fun d _ => d = .bl true) noX) : codeAny (model P w) callerA (.call (.ref fa) ⟨[.ref la], []⟩) (LawEnd t) t := by
  have off : ∀ {b : Addr} {o : Obj}, t.heap.get? b = some o → b ≠ la ∨ U la = none → (hidT t.heap U).get? b = some o := fun {b o} e q => hidT_get e (by
    cases z : U b with
    | none => rfl
    | some u =>
      have eb := alone b (by rw [z]; exact fun c => nomatch c)
      rcases q with q | q
      · exact absurd eb q
      · rw [eb, q] at z; cases z)
  have nsOf : ∀ {b : Addr} {m : Str → Option Value}, t.heap.Ns b m → (hidT t.heap U).Ns b m := fun {b m} ⟨o, es, ep, e, d, r⟩ => ⟨o, es, ep, off e (by
    refine .inl fun c => ?_
    subst c
    rw [hl] at e
    have e' := Option.some.inj e
    subst e'
    cases (show Data.seq us.toArray _ = Data.dict es ep from d)), d, r⟩
  have kinU : K.In (hidT t.heap U) := fun b o e => off (kin b o e) (by
    by_cases c : b = la
    · subst c
      refine .inr ?_
      cases z : U b with
      | none => rfl
      | some u =>
        have := out (by rw [z]; exact fun c => nomatch c)
        rw [this] at e
        cases e
    · exact .inl c)
  obtain ⟨mc, l1, l2⟩ := lim
  have env0 : Env0 P w K mg (hidT t.heap U) callerA [] t U := ⟨rfl, ⟨kinU, nsOf hg, ⟨mb, nsOf hb, hbb⟩, ⟨mc, nsOf l1, l2⟩⟩, fun _ _ e => of_hidT e, Nat.le_of_eq (hidT_size _ _), trivial, (fun _ z => nomatch z), held, .of_eq gens⟩
  have hsp : spD K sp [.ref la] U (fun v _ => v = .bl true) fun _ _ _ => False := by
    refine ⟨U, fun _ => none, [.klst (is.map D.int)], _, _, ⟨fun _ _ e => e, (fun _ _ e => nomatch e), fun a o e _ => ⟨rfl, e, id⟩, fun _ e => e, Le.refl _⟩, .cons (.klst seq (RepL.of_ints is)) .nil, h _, fun d W' F' H' v e _ r => ?_, noX_ok⟩
    subst e
    cases r
    rfl
  refine codeAny_mono ((F _ kinU (nsOf hg)).run callerA [] t U ⟨[.ref la], []⟩ [.ref la] [.ref la] _ _ (caller_rg hr) env0 (bind t (.ref la)) (.cons rfl .nil) hsp) fun r t' z => ?_
  cases r with
  | error e => obtain ⟨_, _, _, _, _, _, _, _, _, _, _, _, z⟩ := z; exact z.elim
  | ok fl => cases fl with
    | ret u =>
      obtain ⟨v, U', os, bare, un, held', rv, q⟩ := z
      have ev : v = .bl true := q
      subst ev
      obtain rfl : u = Value.bool true := rv
      refine ⟨rfl, OldK.of_keep fun b o e => ?_, os, bare⟩
      rcases only b with z | ⟨ob, ys, z⟩
      · exact un.keep b o e z (fun c => nomatch c) (fun c => nomatch c)
      · have e1 := (held b _ z).1
        have e2 := (held' b _ (un.frzs b ob _ z)).1
        rw [e] at e1
        cases e1
        exact e2
    | _ => exact False.elim z
theorem law_callD (kin : K.In t.heap) (hg : t.heap.Ns mainGlobals mg) (hb : t.heap.Ns builtinsNs mb) (hbb : ∀ y : Str, y ≠ "__name__" → mb y = bootBuiltins y) (lim : t.heap.NoLimit) (gens : t.gens = #[])
    (hl : t.heap.get? la = some { cls := .type "list", data := .seq us.toArray }) (hi : IntsAre us is) (hz : is.length ≤ sizeLine) (hr : Room k callerA) (F : ∀ base : Heap, K.In base → base.Ns mainGlobals mg → FnD P w K mg base k fa fd [x] sp) (bind : ∀ (s : Shared) (u : Value), BindsTo s fd ⟨[u], []⟩ [(x, u)])
    (h : ∀ W : WS, sp [.klst (is.map D.int)] W (fun d _ => d = .bl true) noX) : codeAny (model P w) callerA (.call (.ref fa) ⟨[.ref la], []⟩) (LawEnd t) t := by
  have rv := vals_ints hi
  have hlen := hi.length
  by_cases hk : ∃ o, K.lookup la = some o
  · obtain ⟨o, hk⟩ := hk
    have e := kin la o hk
    rw [hl] at e
    cases e
    exact law_from (U := fun _ => none) (fun _ => .inl rfl) (.inr ⟨_, us.toArray, _, hk, rfl, rfl, rfl, by rw [List.size_toArray, hlen]; exact hz, by simpa using rv⟩) (fun _ _ z => nomatch z) (fun _ z => absurd rfl z) (fun z => absurd rfl z) kin hg hb hbb lim gens hl hr F bind h
  · have hk' : K.lookup la = none := by
      cases z : K.lookup la with
      | none => rfl
      | some o => exact absurd ⟨o, z⟩ hk
    let U : Hp := upd (fun _ => none) la (.frz { cls := .type "list", data := .seq us.toArray } (.lst (is.map V.int)))
    have at_ : ∀ b u, U b = some u → b = la ∧ u = .frz { cls := .type "list", data := .seq us.toArray } (.lst (is.map V.int)) := fun b u e => by
      by_cases c : b = la
      · subst c
        have e' : upd (fun _ => none) b _ b = some u := e
        rw [upd_same] at e'
        exact ⟨rfl, (Option.some.inj e').symm⟩
      · have e' : upd (fun _ => none) la _ b = some u := e
        rw [upd_ne c] at e'
        cases e'
    refine law_from (U := U) (fun b => ?_) (.inl (.inr ⟨_, upd_same⟩)) (fun b u e => ?_) (fun b z => ?_) (fun _ => hk') kin hg hb hbb lim gens hl hr F bind h
    · cases z : U b with
      | none => exact .inl rfl
      | some u => exact .inr ⟨_, _, congrArg some (at_ b u z).2⟩
    · obtain ⟨e1, e2⟩ := at_ b u e
      subst e1 e2
      exact ⟨hl, by rw [List.length_map]; exact hz, us, _, rv, hl⟩
    · cases q : U b with
      | none => exact absurd q z
      | some u => exact (at_ b u q).1
end
theorem walk_ofD {l : PySem.W.OpenLaw} {n k : Nat} {q : Program} {loose : List Str} {XP : (Str → Option Value) → Heap → Prop} {YP : World → Heap → Prop} {d : DefRec} {K : Params → PySem.W.Frag} {sp : Addr → DSp}
    (hn : l.most = some n) (hz : n ≤ sizeLine) (hdf : d.params.defaults = []) (hr : Room k callerA) (hY : ∀ (w : World) (h : Heap), YP w h → (K w.params).In h)
    (F : ∀ (w : World) (mg : Str → Option Value) (fa : Addr) (h : Heap), (K w.params).In h → h.Ns mainGlobals mg → mg d.name = some (.ref fa) →
      ∃ (C : Addr) (fd : FuncData), (∀ (s : Shared) (u : Value), BindsTo s fd ⟨[u], []⟩ [("script", u)]) ∧ ∀ base : Heap, (K w.params).In base → base.Ns mainGlobals mg → FnD l.prog w (K w.params) mg base k fa fd ["script"] (sp C))
    (hsp : ∀ (C : Addr) (is : List Int) (W : WS), is.length ≤ n → sp C [.klst (is.map D.int)] W (fun d _ => d = .bl true) noX) : PySem.W.WalkO q loose XP YP l.row.toRowW d [] (fun f vs => PySem.call f vs) := by
  refine Att.attach_call hn hdf fun w s₀ t mg mb fa o pm cd doc la us is G Y ho hd hcd hmg hl hi hlen gens => ?_
  have kin := hY w _ Y
  obtain ⟨C, fd, bind, hF⟩ := F w mg fa _ kin G.T.g hmg
  exact law_callD kin G.T.g G.T.b G.T.builtins G.T.nolimit gens hl hi (Nat.le_trans hlen hz) hr hF bind fun W => hsp C is W hlen
/-! ## texts that are compared -/
def fEqS (neg : Bool) : F2
  | .str x, .str y, _, P => P (.bl (if neg then !decide (x = y) else decide (x = y)))
  | _, _, _, _ => False
section
variable {X : Cx} {K : Fg} {B : Base}
theorem o_eqS : OpR X (compareOp .Eq) (rD K B (fEqS false)) := by
  intro pins s σ H x y v u Q I rx ry ⟨F, W, d1, d2, P, S, r1, r2, h, o⟩
  unfold fEqS at h
  split at h
  · cases r1
    cases r2
    rename_i a b
    refine op_eq pins s σ H _ _ v u Q I rx ry ⟨rfl, ?_⟩
    have e : decide (V.str a = V.str b) = decide (a = b) := by simp
    rw [e]
    exact out0 S o h (.bl _)
  · exact h.elim
theorem o_neS : OpR X (compareOp .NotEq) (rD K B (fEqS true)) := by
  intro pins s σ H x y v u Q I rx ry ⟨F, W, d1, d2, P, S, r1, r2, h, o⟩
  unfold fEqS at h
  split at h
  · cases r1
    cases r2
    rename_i a b
    refine op_ne pins s σ H _ _ v u Q I rx ry ⟨rfl, ?_⟩
    have e : decide (V.str a = V.str b) = decide (a = b) := by simp
    rw [e]
    exact out0 S o h (.bl _)
  · exact h.elim
end
end DL

set_option maxRecDepth 100000
set_option maxHeartbeats 4000000
set_option linter.all false
namespace DL
open PySem PySem.Spec PyProof.Rows L2
/-! ## while -/
def whileW (t : WT) (b : WStm) (PX : XP) (P : WEnds) : Nat → DEnv → WS → Prop
  | 0, _, _ => False
  | n + 1, env, W => t PX env W fun c env1 W1 => match c with
    | true => b PX { P with nx := whileW t b PX P n, ct := whileW t b PX P n, bk := P.nx } env1 W1
    | false => P.nx env1 W1
def wWhile (t : WT) (b : WStm) : WStm := fun PX P env W => ∃ n, whileW t b PX P n env W
section
variable {X : Cx} {B : Base} {E : XK} {K : Fg}
theorem S_while {c : Expr} {body : List Stmt} {t : WT} {b : WStm} {pos : Pos} (hp : PassesOwn (model X.prog X.w) X.A X.env X.xe) (hc : PT X c (liftT K B E t)) (hb : PSs X body (liftS K B E b)) : PS X (.While c body [] pos) (liftS K B E (wWhile t b)) :=
  psW (ps_while hp hc hb) fun D σ H ⟨F, env, W, P, PX, S, hE, ⟨n, h⟩, hX, h1, h2, h3, h4⟩ => by
    refine ⟨fun m σ1 H1 => ∃ F1 env1 W1, Stt K B F1 W1 H1 ∧ EnvOk K F1 σ1 env1 ∧ Le F F1 ∧ whileW t b PX P m env1 W1, ⟨n, F, env, W, S, hE, Le.refl _, h⟩, ?_⟩
    rintro m σ1 H1 ⟨F1, env1, W1, S1, e1, l1, w1⟩
    cases m with
    | zero => exact False.elim w1
    | succ m =>
      refine ⟨F1, env1, W1, _, PX, S1, e1, w1, hX.mono l1, fun c env2 W2 F2 H2 p2 S2 l2 e2 => ?_⟩
      cases c with
      | false => exact iteF (h1 env2 W2 F2 H2 σ1 p2 S2 (l1.trans l2) e2)
      | true =>
        refine iteT ⟨fun σ' H' => ∃ F3 env3 W3, Stt K B F3 W3 H' ∧ EnvOk K F3 σ' env3 ∧ Le F F3 ∧ whileW t b PX P m env3 W3, fun σ' H' h => ⟨m, Nat.lt_succ_self m, h⟩, ?_⟩
        refine ⟨F2, env2, W2, _, PX, S2, e2, p2, hX.mono (l1.trans l2), fun env3 W3 F3 H3 σ3 p3 S3 l3 e3 => ?_, fun d W3 F3 H3 v p3 S3 l3 r3 => h2 d W3 F3 H3 v p3 S3 ((l1.trans l2).trans l3) r3, fun env3 W3 F3 H3 σ3 p3 S3 l3 e3 => ?_, fun env3 W3 F3 H3 σ3 p3 S3 l3 e3 => ?_⟩
        · exact ⟨F3, env3, W3, S3, e3, (l1.trans l2).trans l3, p3⟩
        · exact h1 env3 W3 F3 H3 σ3 p3 S3 ((l1.trans l2).trans l3) e3
        · exact ⟨F3, env3, W3, S3, e3, (l1.trans l2).trans l3, p3⟩
/-! ## x op= e, whole numbers -/
def wAug (i : Nat) (f : F2) (te : WE) : WStm := fun PX P env W => ∃ d, env[i]? = some (some d) ∧ te PX env W fun e env1 W1 => f d e W1 fun r => P.nx (env1.set i (some r)) W1
theorem S_aug {i : Nat} {x : Str} {e : Expr} {te : WE} {op : Operator} {f : F2} {p' pos : Pos} (ho : PIp X op (rD K B f)) (hN : X.N.Nodup) (hi : X.N[i]? = some x) (hx : Loc X.env.scope x) (he : PE X e (liftE K B E te)) (hf : X.fn x = true ∨ X.env.scope.names.lookup x = some .local) :
    PS X (.AugAssign (.Name x p') op e pos) (liftS K B E (wAug i f te)) :=
  psW (ps_aug hN hi hx he ho hf) fun D σ H ⟨F, env, W, P, PX, S, hE, ⟨d, hd, h⟩, hX, h1, h2, h3, h4⟩ => by
    obtain ⟨v, hv, rv⟩ := hE.at_ i d hd
    refine ⟨v, hv, F, env, W, _, PX, S, hE, h, hX, fun e1 env1 W1 F1 H1 u p1 S1 l1 ee1 r1 => ?_⟩
    exact ⟨F1, W1, d, e1, _, S1, rv.mono l1, r1, p1, fun r z F2 H2 p2 S2 l2 r2 => h1 _ W1 F2 H2 _ p2 S2 (l1.trans l2) ((ee1.mono l2).set r2)⟩
theorem io_add : PIp X .Add (rD K B fAdd) := by
  intro pins s σ H x y v u Q I rx ry ⟨F, W, d1, d2, P, S, r1, r2, h, o⟩
  unfold fAdd at h
  split at h
  · cases r1; cases r2
    exact iop_add pins s σ H _ _ v u Q I rx ry ⟨_, _, rfl, rfl, out0 S o h (.int _)⟩
  · cases r1; cases r2
    exact iop_add_str pins s σ H _ _ v u Q I rx ry ⟨_, _, rfl, rfl, h.1, out0 S o h.2 (.str _)⟩
  · exact h.elim
theorem io_sub : PIp X .Sub (rD K B fSub) := by
  intro pins s σ H x y v u Q I rx ry ⟨F, W, d1, d2, P, S, r1, r2, h, o⟩
  unfold fSub at h
  split at h
  · cases r1; cases r2
    exact iop_sub pins s σ H _ _ v u Q I rx ry ⟨_, _, rfl, rfl, out0 S o h (.int _)⟩
  · exact h.elim
theorem io_div : PIp X .FloorDiv (rD K B fDiv) := by
  intro pins s σ H x y v u Q I rx ry ⟨F, W, d1, d2, P, S, r1, r2, h, o⟩
  unfold fDiv at h
  split at h
  · cases r1; cases r2
    exact iop_fdivW pins s σ H _ _ v u Q I rx ry ⟨_, _, rfl, rfl, h.1, out0 S o h.2 (.int _)⟩
  · exact h.elim
/-- a product of whole numbers that together have less than a million bits -/
theorem io_mul : PIp X .Mult (rD K B fMul) := by
  intro pins s σ H x y v u Q I rx ry ⟨F, W, d1, d2, P, S, r1, r2, h, o⟩
  unfold fMul at h
  split at h
  · rename_i i j _ _
    cases r1; cases r2
    obtain ⟨t, rfl⟩ := rx
    obtain ⟨t', rfl⟩ := ry
    exact imul_int ⟨.int _, H, I.tok _, ⟨_, rfl⟩, out0 S o h.2 (.int _)⟩ h.1.ok
  · exact h.elim
theorem aug_ {k : Nat} {x : Str} {e : Expr} {te : WE} {op : Operator} {f : F2} {p' pos : Pos} (T : Sit X E k) (ho : PIp X op (rD X.K B f)) (i : Nat) (he : PE X e (liftE X.K B E te)) (hi : X.N[i]? = some x := by rfl) (hx : Loc X.env.scope x := by first | exact Or.inl rfl | exact Or.inr rfl) (hf : X.fn x = true ∨ X.env.scope.names.lookup x = some .local := by first | exact Or.inl rfl | exact Or.inr rfl) :
    PS X (.AugAssign (.Name x p') op e pos) (liftS X.K B E (wAug i f te)) := S_aug ho T.nd hi hx he hf
end
/-! ## a list of the store walked: it must stand as it is at each turn -/
def ItOn (K : Fg) (B : Base) (J : It) (ds : List D) (F0 : Hp) (φ : WS → Prop) : Prop := ∀ (i : Nat) (F : Hp) (W : WS) (H : Hp), Le F0 F → Stt K B F W H → φ W →
  (∀ d, ds[i]? = some d → J.go i H ∧ ∀ x H', J.yld i H x H' → ∃ F', Stt K ⟨H, W, F⟩ F' W H' ∧ Rep K F' d x) ∧ (ds[i]? = none → J.stop i H)
def forO (φ : WS → Prop) (g : Tg) (b : WStm) (PX : XP) (P : WEnds) : List D → DEnv → WS → Prop
  | [], env, W => φ W ∧ P.nx env W
  | d :: ds, env, W => φ W ∧ bindG g d env fun env1 => b PX { P with nx := forO φ g b PX P ds, ct := forO φ g b PX P ds, bk := P.nx } env1 W
section
variable {X : Cx} {B : Base} {E : XK} {K : Fg}
theorem itOn_obj {a : Addr} {ds : List D} {F0 : Hp} : ItOn K B (Itl K a) ds F0 (fun W => W a = some (.lst ds)) := fun i F W H l S hw => by
  obtain ⟨vs, ha, r⟩ := obj_lst S hw
  have hs : SqL K H a vs := SqL.of ha
  refine ⟨fun d hd => ?_, fun hd => ⟨vs, hs, by rw [← r.length]; exact List.getElem?_eq_none_iff.mp hd⟩⟩
  obtain ⟨v, hv, rv⟩ := r.get hd
  refine ⟨⟨vs, v, hs, hv⟩, fun x H' y => ?_⟩
  obtain ⟨e, y⟩ := y
  subst e
  have := y vs hs
  rw [hv] at this
  cases this
  exact ⟨F, S.self, rv⟩
theorem forO_go {J : It} {ds : List D} {F : Hp} {φ : WS → Prop} (hJ : ItOn K B J ds F φ) {g : Tg} {b : WStm} {PX : XP} {P : WEnds} {D : Ends} {σ : L2.St} {H1 : Hp} {env : DEnv} {W : WS} (S : Stt K B F W H1) (hE : EnvOk K F σ env) (hX : XOk K B E F PX) (hw : forO φ g b PX P ds env W) (hD : EndsOk K B F P D) :
    ∃ Wv : Nat → Nat → L2.St → Hp → Prop, (∃ m, Wv 0 m σ H1) ∧ ∀ i m σ H, Wv i m σ H → (J.stop i H ∧ D.nx σ H) ∨ (J.go i H ∧ ∃ N : L2.St → Hp → Prop, (∀ σ' H', N σ' H' → ∃ m', m' < m ∧ Wv (i + 1) m' σ' H') ∧
      ∀ x H', J.yld i H x H' → liftG K B g x σ H' fun σ2 H2 => liftS K B E b { D with nx := N, ct := N, bk := D.nx } σ2 H2) := by
  refine ⟨fun i m σ H => i ≤ ds.length ∧ m = ds.length - i ∧ ∃ F1 env1 W1, Stt K B F1 W1 H ∧ EnvOk K F1 σ env1 ∧ Le F F1 ∧ forO φ g b PX P (ds.drop i) env1 W1, ⟨ds.length, Nat.zero_le _, by simp, F, env, W, S, hE, Le.refl _, hw⟩, ?_⟩
  rintro i m σ H ⟨hi, rfl, F1, env1, W1, S1, e1, l1, hw1⟩
  cases hd : ds[i]? with
  | none =>
    have : ds.drop i = [] := List.drop_eq_nil_of_le (List.getElem?_eq_none_iff.mp hd)
    rw [this] at hw1
    obtain ⟨hφ, hw1⟩ := hw1
    exact .inl ⟨(hJ i F1 W1 H l1 S1 hφ).2 hd, hD.nx env1 W1 F1 H σ hw1 S1 l1 e1⟩
  | some d =>
    have hlt : i < ds.length := (List.getElem?_eq_some_iff.mp hd).1
    rw [drop_get hd] at hw1
    obtain ⟨hφ, hw1⟩ := hw1
    obtain ⟨g1, g2⟩ := (hJ i F1 W1 H l1 S1 hφ).1 d hd
    refine .inr ⟨g1, fun σ' H' => ∃ F2 env2 W2, Stt K B F2 W2 H' ∧ EnvOk K F2 σ' env2 ∧ Le F F2 ∧ forO φ g b PX P (ds.drop (i + 1)) env2 W2, fun σ' H' ⟨F2, env2, W2, S2, e2, l2, w2⟩ => ⟨ds.length - (i + 1), by omega, hlt, rfl, F2, env2, W2, S2, e2, l2, w2⟩, fun x H' y => ?_⟩
    obtain ⟨F2, T2, r2⟩ := g2 x H' y
    have l2 := T2.base
    have S2 := S1.trans T2
    refine ⟨F2, env1, W1, d, _, S2, e1.mono l2, r2, hw1, fun env3 σ3 p3 e3 _ => ?_⟩
    refine ⟨F2, env3, W1, _, PX, S2, e3, p3, hX.mono (l1.trans l2), fun env4 W4 F4 H4 σ4 p4 S4 l4 e4 => ?_, fun d W4 F4 H4 v p4 S4 l4 r4 => hD.rt d W4 F4 H4 v p4 S4 ((l1.trans l2).trans l4) r4, fun env4 W4 F4 H4 σ4 p4 S4 l4 e4 => ?_, fun env4 W4 F4 H4 σ4 p4 S4 l4 e4 => ?_⟩
    · exact ⟨F4, env4, W4, S4, e4, (l1.trans l2).trans l4, p4⟩
    · exact hD.nx env4 W4 F4 H4 σ4 p4 S4 ((l1.trans l2).trans l4) e4
    · exact ⟨F4, env4, W4, S4, e4, (l1.trans l2).trans l4, p4⟩
/-- for .. in a list of the store -/
def wForO (t : WE) (g : Tg) (b : WStm) : WStm := fun PX P env W => t PX env W fun d env1 W1 => ∃ a ds, d = .obj a ∧ W1 a = some (.lst ds) ∧ forO (fun W => W a = some (.lst ds)) g b PX P ds env1 W1
theorem S_forO {tg e : Expr} {body : List Stmt} {t : WE} {g : Tg} {b : WStm} {pos : Pos} (hp : PassesOwn (model X.prog X.w) X.A X.env X.xe) (hc : X.calm = true) (he : PE X e (liftE X.K B E t)) (hg : PG X tg (liftG X.K B g)) (hb : PSs X body (liftS X.K B E b))
    (hs : ∀ x, foldedSetIterable e X.env x = pure x) : PS X (.For tg e body [] pos) (liftS X.K B E (wForO t g b)) :=
  psW (ps_for hp hc (pi_any he) hg hb hs) fun D σ H ⟨F, env, W, P, PX, S, hE, h, hX, h1, h2, h3, h4⟩ => by
    refine ⟨F, env, W, _, PX, S, hE, h, hX, fun d env1 W1 F1 H1 v ⟨a, ds, ed, hw, p1⟩ S1 l1 e1 r1 => ?_⟩
    subst ed
    cases r1
    obtain ⟨vs, ha, rl⟩ := obj_lst S1 hw
    exact ⟨a, rfl, .inl ⟨vs, SqL.of ha, forO_go itOn_obj S1 e1 (hX.mono l1) p1
      ⟨fun env2 W2 F2 H2 σ2 p2 S2 l2 e2 => h1 env2 W2 F2 H2 σ2 p2 S2 (l1.trans l2) e2, fun d W2 F2 H2 v p2 S2 l2 r2 => h2 d W2 F2 H2 v p2 S2 (l1.trans l2) r2,
       fun env2 W2 F2 H2 σ2 p2 S2 l2 e2 => h3 env2 W2 F2 H2 σ2 p2 S2 (l1.trans l2) e2, fun env2 W2 F2 H2 σ2 p2 S2 l2 e2 => h4 env2 W2 F2 H2 σ2 p2 S2 (l1.trans l2) e2⟩⟩⟩
end
end DL

set_option maxRecDepth 100000
set_option maxHeartbeats 4000000
set_option linter.all false
namespace DL
open PySem PySem.Spec PyProof.Rows L2
/-! ## a list compared with the empty list: whatever its things are -/
section
variable {X : Cx}
def rEqE (K : PySem.W.Frag) (neg : Bool) : R2 := fun x y H Q => ∃ a b xs, x = .ref a ∧ y = .ref b ∧ SqL K H a xs ∧ SqL K H b [] ∧ Q (.bl (if neg then !xs.isEmpty else xs.isEmpty)) H
theorem op_eqE (hu : X.A.units + 64 < cLine) : OpR X (compareOp .Eq) (rEqE X.K false) := by
  intro pins s σ H x y v u Q I rx ry h
  obtain ⟨a, b, xs, rfl, rfl, ha, hb, q⟩ := h
  cases xs with
  | nil => exact op_eqD hu pins s σ H _ _ v u Q I rx ry ⟨.list [], .list [], .lst ha .nil, .lst hb .nil, rfl, rfl, q⟩
  | cons z zs =>
    cases rx; cases ry
    obtain ⟨us, r1, p1, _⟩ := I.list ha
    obtain ⟨ws, r2, p2, _⟩ := I.list hb
    cases r2
    have hz : (us.toArray.size != (#[] : Array Value).size) = true := by
      have := r1.length
      rw [List.size_toArray, ← this]; rfl
    exact SeqAt.RcAt.lists_lengths p1.isList p2.isList hz (by omega) X.prog X.w _ _ ⟨.bl false, H, I, rfl, q⟩
theorem op_neE (hu : X.A.units + 64 < cLine) : OpR X (compareOp .NotEq) (rEqE X.K true) := by
  intro pins s σ H x y v u Q I rx ry h
  obtain ⟨a, b, xs, rfl, rfl, ha, hb, q⟩ := h
  cases xs with
  | nil => exact op_neD hu pins s σ H _ _ v u Q I rx ry ⟨.list [], .list [], .lst ha .nil, .lst hb .nil, rfl, rfl, q⟩
  | cons z zs =>
    cases rx; cases ry
    obtain ⟨us, r1, p1, _⟩ := I.list ha
    obtain ⟨ws, r2, p2, _⟩ := I.list hb
    cases r2
    have hz : (us.toArray.size != (#[] : Array Value).size) = true := by
      have := r1.length
      rw [List.size_toArray, ← this]; rfl
    exact SeqAt.RcNeAt.lists_lengths p1.isList p2.isList hz (by omega) X.prog X.w _ _ ⟨.bl true, H, I, rfl, q⟩
def fEqE (neg : Bool) : F2 := fun d1 d2 W P => ∃ ds, view W d1 = .lst ds ∧ view W d2 = .lst [] ∧ P (.bl (if neg then !ds.isEmpty else ds.isEmpty))
theorem o_eqE {B : Base} (hu : X.A.units + 64 < cLine) : OpR X (compareOp .Eq) (rD X.K B (fEqE false)) := by
  intro pins s σ H x y v u Q I rx ry ⟨F, W, d1, d2, P, S, r1, r2, ⟨ds, h1, h2, h⟩, o⟩
  obtain ⟨a, xs, rfl, ha, la⟩ := view_lst S r1 h1
  obtain ⟨b, ys, rfl, hb, lb⟩ := view_lst S r2 h2
  cases lb
  refine op_eqE hu pins s σ H _ _ v u Q I rx ry ⟨a, b, xs, rfl, rfl, ha, hb, out0 S o h ?_⟩
  have : xs.isEmpty = ds.isEmpty := by cases la <;> rfl
  rw [this]; exact .bl _
theorem o_neE {B : Base} (hu : X.A.units + 64 < cLine) : OpR X (compareOp .NotEq) (rD X.K B (fEqE true)) := by
  intro pins s σ H x y v u Q I rx ry ⟨F, W, d1, d2, P, S, r1, r2, ⟨ds, h1, h2, h⟩, o⟩
  obtain ⟨a, xs, rfl, ha, la⟩ := view_lst S r1 h1
  obtain ⟨b, ys, rfl, hb, lb⟩ := view_lst S r2 h2
  cases lb
  refine op_neE hu pins s σ H _ _ v u Q I rx ry ⟨a, b, xs, rfl, rfl, ha, hb, out0 S o h ?_⟩
  have : xs.isEmpty = ds.isEmpty := by cases la <;> rfl
  rw [this]; exact .bl _
end
end DL

set_option maxRecDepth 100000
set_option maxHeartbeats 4000000
set_option linter.all false
namespace DL
open PySem PySem.Spec PyProof.Rows L2
/-! ## list(d): the keys -/
section
variable {X : Cx} {K : Fg} {B : Base}
def fListK : FO
  | [d], W, P => ∃ ds, view W d = .dK ds ∧ P (.lst (keysOf ds))
  | _, _, _ => False
theorem repL_keys {F : Hp} : ∀ {kvs : List (Key × V)} {ds : List (Key × D)}, kvs.map (·.1) = ds.map (·.1) → RepL K F (keysOf ds) (kvs.map fun kv => kV kv.1)
  | [], [], _ => .nil
  | [], _ :: _, h => by cases h
  | _ :: _, [], h => by cases h
  | p :: kvs, q :: ds, h => by
    injection h with h1 h2
    exact .cons (by have h1 : p.1 = q.1 := h1; show Rep K F (kD q.1) (kV p.1); rw [← h1]; exact kD_rep p.1) (repL_keys h2)
theorem c_listK (hc : X.calm = true) : CallR X (.type "list") (rDO X.K B fListK) := by
  intro pins s σ H xs us Q I r ⟨F, W, ds, P, S, rl, h, o⟩
  unfold fListK at h
  split at h
  · obtain ⟨v, rfl, rv⟩ := repL1 rl
    obtain ⟨es, hv, p⟩ := h
    obtain ⟨a, kvs, rfl, hd, hk, rr⟩ := view_dK S rv hv
    exact call_listD hc pins s σ H _ us Q I r ⟨a, kvs, rfl, hd, fun l hl => o _ l _ p hl (.lst (repL_keys hk))⟩
  · exact h.elim
end
end DL

set_option maxRecDepth 100000
set_option maxHeartbeats 4000000
set_option linter.all false
namespace DL
open PySem PySem.Spec PyProof.Rows L2
/-! ## sorted(d): the keys of a dict of ints, ascending -/
section
variable {X : Cx} {K : Fg} {B : Base}
def fSortedK : FO
  | [d], W, P => ∃ ps : List (Int × Int), view W d = .dK (mkI ps) ∧ ps.length < 64 ∧ ∀ ms : List Int, ms.Perm (ps.map (·.1)) → ms.Pairwise (· ≤ ·) → P (.lst (ms.map D.int))
  | _, _, _ => False
theorem c_sortedK (hc : X.calm = true) : CallR X (.builtin "sorted") (rDO X.K B fSortedK) := by
  intro pins s σ H xs us Q I r ⟨F, W, ds, P, S, rl, h, o⟩
  unfold fSortedK at h
  split at h
  · obtain ⟨v, rfl, rv⟩ := repL1 rl
    obtain ⟨ps, hv, hl, p⟩ := h
    obtain ⟨a, kvs, rfl, hd, hk, rr⟩ := view_dK S rv hv
    refine call_sortedDI hc pins s σ H _ us Q I r ⟨a, kvs, ps.map (·.1), rfl, hd, ?_, by rw [List.length_map]; exact hl, fun ys q h1 h2 hq => o _ q _ (p ys h1 h2) hq (.lst (RepL.of_ints ys))⟩
    rw [hk]; unfold mkI; rw [List.map_map, List.map_map]; rfl
  · exact h.elim
end
end DL

set_option maxRecDepth 100000
set_option maxHeartbeats 4000000
set_option linter.all false
namespace DL
open PySem PySem.Spec PyProof.Rows L2
/-! ## data seen through the store at any depth -/
mutual
inductive PlV (W : WS) : D → PyData → Prop
  | non : PlV W .non .none
  | bl (b : Bool) : PlV W (.bl b) (.bool b)
  | int (i : Int) : PlV W (.int i) (.int i)
  | str (x : Str) : PlV W (.str x) (.str x)
  | lst {ds : List D} {ps : List PyData} : PlVs W ds ps → PlV W (.lst ds) (.list ps)
  | klst {ds : List D} {ps : List PyData} : PlVs W ds ps → PlV W (.klst ds) (.list ps)
  | tup {ds : List D} {ps : List PyData} : PlVs W ds ps → PlV W (.tup ds) (.tuple ps)
  | ktup {ds : List D} {ps : List PyData} : PlVs W ds ps → PlV W (.ktup ds) (.tuple ps)
  | ptup {ds : List D} {ps : List PyData} : PlVs W ds ps → PlV W (.ptup ds) (.tuple ps)
  | obj {a : Addr} {ds : List D} {ps : List PyData} : W a = some (.lst ds) → PlVs W ds ps → PlV W (.obj a) (.list ps)
inductive PlVs (W : WS) : List D → List PyData → Prop
  | nil : PlVs W [] []
  | cons {d : D} {p : PyData} {ds : List D} {ps : List PyData} : PlV W d p → PlVs W ds ps → PlVs W (d :: ds) (p :: ps)
end
section
variable {K : Fg} {B : Base}
mutual
theorem plv_dp {F H : Hp} {W : WS} (S : Stt K B F W H) : ∀ {d : D} {p : PyData}, PlV W d p → ∀ {v : V}, Rep K F d v → Dp K H v p
  | _, _, .non, _, r => by cases r; exact .non
  | _, _, .bl b, _, r => by cases r; exact .bl b
  | _, _, .int i, _, r => by cases r; exact .int i
  | _, _, .str x, _, r => by cases r; exact .str x
  | _, _, .lst h, _, r => by
    cases r with
    | lst hs r => exact .lst (.inl (.inl (S.sub _ _ hs))) (plvs_dp S h r)
  | _, _, .klst h, _, r => by
    cases r with
    | klst hs r => exact .lst (S.sqL hs) (plvs_dp S h r)
  | _, _, .tup h, _, r => by
    cases r with
    | tup hs r => exact .tup (.inl (.inl (S.sub _ _ hs))) (plvs_dp S h r)
  | _, _, .ktup h, _, r => by
    cases r with
    | ktup hs r => exact .tup (hs.elim (fun z => z.elim (fun q => nomatch q) fun ⟨_, q⟩ => nomatch q) .inr) (plvs_dp S h r)
  | _, _, .ptup h, _, r => by
    cases r with
    | ptup _ _ hs r => exact .tup (.inl (.inr ⟨_, S.sub _ _ hs⟩)) (plvs_dp S h r)
  | _, _, .obj hw h, _, r => by
    cases r
    obtain ⟨_, o, ho, ro⟩ := S.obj _ _ hw
    cases ro with
    | lst r => exact .lst (.inl (.inl ho)) (plvs_dp S h r)
theorem plvs_dp {F H : Hp} {W : WS} (S : Stt K B F W H) : ∀ {ds : List D} {ps : List PyData}, PlVs W ds ps → ∀ {vs : List V}, RepL K F ds vs → DpAll K H vs ps
  | _, _, .nil, _, r => by cases r; exact .nil
  | _, _, .cons h t, _, r => by
    cases r with
    | cons r1 r2 => exact .cons (plv_dp S h r1) (plvs_dp S t r2)
end
end
section
variable {X : Cx} {B : Base}
def fEqV (neg : Bool) : F2 := fun d1 d2 W P => ∃ p q, PlV W d1 p ∧ PlV W d2 q ∧ SeqAt.shaped p = true ∧ SeqAt.shaped q = true ∧ P (.bl (if neg then !PyData.eqv p q else PyData.eqv p q))
theorem o_eqV (hu : X.A.units + 64 < cLine) : OpR X (compareOp .Eq) (rD X.K B (fEqV false)) := by
  intro pins s σ H x y v u Q I rx ry ⟨F, W, d1, d2, P, S, r1, r2, ⟨p, q, h1, h2, h3, h4, h⟩, o⟩
  exact op_eqD hu pins s σ H _ _ v u Q I rx ry ⟨_, _, plv_dp S h1 r1, plv_dp S h2 r2, h3, h4, out0 S o h (.bl _)⟩
theorem o_neV (hu : X.A.units + 64 < cLine) : OpR X (compareOp .NotEq) (rD X.K B (fEqV true)) := by
  intro pins s σ H x y v u Q I rx ry ⟨F, W, d1, d2, P, S, r1, r2, ⟨p, q, h1, h2, h3, h4, h⟩, o⟩
  exact op_neD hu pins s σ H _ _ v u Q I rx ry ⟨_, _, plv_dp S h1 r1, plv_dp S h2 r2, h3, h4, out0 S o h (.bl _)⟩
/-- repr(x) of data seen through the store -/
def fReprV : FL
  | [d], W, P => ∃ p, PlV W d p ∧ p.hasDict = false ∧ p.showable = true ∧ p.depth ≤ 60 ∧ p.shown.length ≤ sizeLine ∧ P (.str p.shown)
  | _, _, _ => False
theorem c_reprV (hg : X.A.guards = some []) (hu : X.A.units + 64 < cLine) : CallR X (.builtin "repr") (rDL X.K B fReprV) := by
  intro pins s σ H xs us Q I r ⟨F, W, ds, P, S, rl, h, o⟩
  unfold fReprV at h
  split at h
  · rename_i d
    obtain ⟨v, rfl, rv⟩ := repL1 rl
    obtain ⟨p, h1, h0, h2, h3, h4, pp⟩ := h
    have hd := plv_dp S h1 rv
    obtain ⟨u, rfl, ru⟩ := vals1 r
    obtain ⟨as, rd⟩ := Dp.reads I _ _ u hd ru
    have fin : ∀ h' tk t, (∀ b o, s.heap.get? b = some o → h'.get? b = some o) → EP X pins σ Q (.str p.shown t) { s with heap := h', toks := tk } := fun h' tk t hk =>
      ⟨.str _, H, I.kept hk, ⟨t, rfl⟩, out0 S o pp (.str _)⟩
    have viaRef : ∀ a, v = .ref a → wpAny (model X.prog X.w) X.A (call (.builtin "repr") [u]) (EP X pins σ Q) X.xe s := fun a e => by
      subst e
      obtain rfl : u = Value.ref a := ru
      exact repr_of_reads' rd h2 (fun e => by rw [h0] at e; cases e) hg (by omega) (fun _ _ q => q) (fun h' t tk hk => fin h' tk t hk) h4
    cases h1 with
    | int i =>
      cases rv
      obtain ⟨t, rfl⟩ := ru
      have h2' : i.natAbs.log2 < 1920 := by simpa only [PyData.showable, decide_eq_true_eq] using h2
      have e : (PyData.shown (.int i)) = (toString i : Str) := by simp only [PyData.shown]
      exact PySem.P.repr_of_int h2' (by rw [← e]; exact fin _ _ _ fun _ _ q => q)
    | bl b =>
      cases rv
      obtain rfl : u = Value.bool b := ru
      have e : (PyData.shown (.bool b)) = (if b then "True" else "False" : Str) := by simp only [PyData.shown]
      exact PySem.P.repr_of_bool (by rw [← e]; exact fin _ _ _ fun _ _ q => q)
    | non =>
      cases rv
      obtain rfl : u = Value.none := ru
      have e : (PyData.shown .none) = ("None" : Str) := by simp only [PyData.shown]
      exact PySem.P.repr_of_none (by rw [← e]; exact fin _ _ _ fun _ _ q => q)
    | str x =>
      cases rv
      obtain ⟨t, rfl⟩ := ru
      have e : (PyData.shown (.str x)) = reprText x := by simp only [PyData.shown]
      exact PySem.P.repr_of_str (by rw [← e]; exact fin _ _ _ fun _ _ q => q) (by rw [← e]; exact h4)
    | lst _ => cases rv; exact viaRef _ rfl
    | klst _ => cases rv; exact viaRef _ rfl
    | tup _ => cases rv; exact viaRef _ rfl
    | ktup _ => cases rv; exact viaRef _ rfl
    | ptup _ => cases rv; exact viaRef _ rfl
    | obj _ _ => cases rv; exact viaRef _ rfl
  · exact h.elim
end
/-! ## small data -/
mutual
def okP : PyData → Bool
  | .none | .bool _ => true
  | .int i => decide (i.natAbs < 10 ^ 40)
  | .str x => PyData.strOk x && ((x.cps.toList.all fun c => decide (c < 16 ^ 8)) && decide (x.cps.size ≤ 130))
  | .list xs | .tuple xs => okPs xs
  | .dict _ => false
def okPs : List PyData → Bool
  | [] => true
  | x :: r => okP x && okPs r
end
mutual
def szP : PyData → Nat
  | .list xs | .tuple xs => 1 + szPs xs
  | _ => 1
def szPs : List PyData → Nat
  | [] => 0
  | x :: r => szP x + szPs r
end
theorem wInt {i : Int} {k : Nat} (h : i.natAbs < 2 ^ k) : PyData.weight (.int i) ≤ k := by
  simp only [PyData.weight]
  split
  · omega
  · rename_i c
    have c' : i.natAbs ≠ 0 := by
      intro e
      have : i = 0 := by omega
      exact c (by rw [this]; rfl)
    have := (Nat.log2_lt c').mpr h
    omega
theorem lInt {i : Int} (h : i.natAbs < 10 ^ 40) : (PyData.shown (.int i)).length ≤ 41 := by
  have e := int_text_length_le10 (k := 40) (by decide) h
  show (Str.ofString (toString i)).length ≤ 41
  rw [PySem.ofString_length]; exact e
mutual
theorem okP_all : ∀ p : PyData, okP p = true → p.hasDict = false ∧ p.showable = true ∧ p.leavesShort 41 = true ∧ p.weight + 1 ≤ 141 * szP p ∧ p.canLay0 = true ∧ PyData.eqv p p = true
  | .none, _ => by refine ⟨rfl, rfl, rfl, ?_, rfl, rfl⟩; simp only [PyData.weight, szP]; omega
  | .bool b, _ => by refine ⟨rfl, rfl, rfl, ?_, rfl, ?_⟩ <;> simp [PyData.weight, PyData.eqv, szP]
  | .int i, h => by
    have h : i.natAbs < 10 ^ 40 := by simpa only [okP, decide_eq_true_eq] using h
    have h2 : i.natAbs < 2 ^ 134 := by omega
    refine ⟨rfl, ?_, ?_, ?_, rfl, ?_⟩
    · simp only [PyData.showable, decide_eq_true_eq]
      by_cases c : i.natAbs = 0
      · rw [c]; decide
      · have := (Nat.log2_lt c).mpr h2; omega
    · simp only [PyData.leavesShort, decide_eq_true_eq]; exact lInt h
    · have := wInt h2
      simp only [szP]; omega
    · simp only [PyData.eqv, beq_self_eq_true]
  | .str x, h => by
    obtain ⟨h0, h'⟩ : PyData.strOk x = true ∧ (x.cps.toList.all fun c => decide (c < 16 ^ 8)) = true ∧ x.cps.size ≤ 130 := by simpa only [okP, Bool.and_eq_true, decide_eq_true_eq] using h
    refine ⟨rfl, rfl, ?_, ?_, by simp only [PyData.canLay0]; exact h0, ?_⟩
    · simp only [PyData.leavesShort]; exact h'.1
    · simp only [PyData.weight, szP]; omega
    · simp only [PyData.eqv, beq_self_eq_true]
  | .list xs, h => by
    obtain ⟨a, b, c, d, e, f⟩ := okPs_all xs (by simpa only [okP] using h)
    refine ⟨by simp only [PyData.hasDict, a], by simp only [PyData.showable, b], by simp only [PyData.leavesShort, c], ?_, by simp only [PyData.canLay0, e], by simp only [PyData.eqv, f]⟩
    simp only [PyData.weight, szP]; omega
  | .tuple xs, h => by
    obtain ⟨a, b, c, d, e, f⟩ := okPs_all xs (by simpa only [okP] using h)
    refine ⟨by simp only [PyData.hasDict, a], by simp only [PyData.showable, b], by simp only [PyData.leavesShort, c], ?_, by simp only [PyData.canLay0, e], by simp only [PyData.eqv, f]⟩
    simp only [PyData.weight, szP]; omega
  | .dict _, h => by simp only [okP] at h; cases h
theorem okPs_all : ∀ ps : List PyData, okPs ps = true → PyData.hasDictAll ps = false ∧ PyData.showableAll ps = true ∧ PyData.leavesShortAll 41 ps = true ∧ PyData.weightAll ps ≤ 141 * szPs ps ∧ PyData.canLayAll0 ps = true ∧ PyData.eqvAll ps ps = true
  | [], _ => by refine ⟨rfl, rfl, rfl, ?_, rfl, rfl⟩; simp only [PyData.weightAll]; omega
  | x :: r, h => by
    have h' : okP x = true ∧ okPs r = true := by simpa only [okPs, Bool.and_eq_true] using h
    obtain ⟨a, b, c, d, e, f⟩ := okP_all x h'.1
    obtain ⟨a2, b2, c2, d2, e2, f2⟩ := okPs_all r h'.2
    refine ⟨by simp only [PyData.hasDictAll, a, a2, Bool.or_self], by simp only [PyData.showableAll, b, b2, Bool.and_self], by simp only [PyData.leavesShortAll, c, c2, Bool.and_self], ?_, by simp only [PyData.canLayAll0, e, e2, Bool.and_self], by simp only [PyData.eqvAll, f, f2, Bool.and_self]⟩
    have hs : 1 ≤ szP x := by cases x <;> simp only [szP] <;> omega
    simp only [PyData.weightAll, szPs]; omega
end
theorem reprV_ok {W : WS} {d : D} {p : PyData} {P : D → Prop} (h : PlV W d p) (hk : okP p = true) (hs : szP p ≤ 2500) (hd : p.depth ≤ 60) (hp : P (.str p.shown)) : fReprV [d] W P := by
  obtain ⟨a, b, c, e, _, _⟩ := okP_all p hk
  refine ⟨p, h, a, b, hd, ?_, hp⟩
  have s := PyData.shown_le 41 (by decide) p c
  rw [sizeLine_eq]
  omega
theorem shaped_ok {p : PyData} (hk : okP p = true) (hd : p.depth ≤ 60) : SeqAt.shaped p = true := by
  obtain ⟨_, _, _, _, e, _⟩ := okP_all p hk
  simp only [SeqAt.shaped, e, Bool.true_and]
  exact decide_eq_true (by omega)
theorem eqV_same {neg : Bool} {W : WS} {d e : D} {p : PyData} {P : D → Prop} (h1 : PlV W d p) (h2 : PlV W e p) (hk : okP p = true) (hd : p.depth ≤ 60) (h : P (.bl (!neg))) : fEqV neg d e W P := by
  obtain ⟨_, _, _, _, _, f⟩ := okP_all p hk
  refine ⟨p, p, h1, h2, shaped_ok hk hd, shaped_ok hk hd, ?_⟩
  rw [f]
  cases neg <;> exact h
/-! rows -/
def pPr (q : Int × Int) : PyData := .tuple [.int q.1, .int q.2]
theorem plv_pr (W : WS) (q : Int × Int) : PlV W (prD q) (pPr q) := .tup (.cons (.int _) (.cons (.int _) .nil))
theorem plvs_prs (W : WS) : ∀ ps : List (Int × Int), PlVs W (ps.map prD) (ps.map pPr)
  | [] => .nil
  | q :: r => .cons (plv_pr W q) (plvs_prs W r)
def pRow (ps : List (Int × Int)) : PyData := .list (ps.map pPr)
theorem plv_row (W : WS) (ps : List (Int × Int)) : PlV W (.lst (ps.map prD)) (pRow ps) := .lst (plvs_prs W ps)
theorem plv_rowO {W : WS} {a : Addr} {ps : List (Int × Int)} (h : W a = some (.lst (ps.map prD))) : PlV W (.obj a) (pRow ps) := .obj h (plvs_prs W ps)
def okR (ps : List (Int × Int)) : Prop := ∀ q ∈ ps, q.1.natAbs < 10 ^ 40 ∧ q.2.natAbs < 10 ^ 40
theorem ok_prs : ∀ {ps : List (Int × Int)}, okR ps → okPs (ps.map pPr) = true
  | [], _ => by simp only [List.map_nil, okPs]
  | q :: r, h => by
    have h1 := h q List.mem_cons_self
    simp only [List.map_cons, okPs, okP, pPr, decide_eq_true h1.1, decide_eq_true h1.2, ok_prs (ps := r) fun z hz => h z (List.mem_cons_of_mem _ hz), Bool.and_self]
theorem ok_row {ps : List (Int × Int)} (h : okR ps) : okP (pRow ps) = true := by
  unfold pRow
  simp only [okP]; exact ok_prs h
theorem sz_prs : ∀ ps : List (Int × Int), szPs (ps.map pPr) = 3 * ps.length
  | [] => by simp only [List.map_nil, szPs, List.length_nil]
  | q :: r => by
    have e : szP (pPr q) = 3 := by simp only [pPr, szP, szPs]
    simp only [List.map_cons, szPs, sz_prs r, List.length_cons, e]; omega
theorem sz_row (ps : List (Int × Int)) : szP (pRow ps) = 1 + 3 * ps.length := by
  unfold pRow
  simp only [szP, sz_prs]
theorem dp_prs : ∀ ps : List (Int × Int), PyData.depthAll (ps.map pPr) ≤ 1
  | [] => by simp only [List.map_nil, PyData.depthAll]; omega
  | q :: r => by
    have ih := dp_prs r
    have e : PyData.depth (pPr q) = 1 := by simp only [pPr, PyData.depth, PyData.depthAll]; rfl
    simp only [List.map_cons, PyData.depthAll, e]; omega
theorem dp_row (ps : List (Int × Int)) : (pRow ps).depth ≤ 2 := by
  have := dp_prs ps
  unfold pRow
  simp only [PyData.depth]; omega
end DL

set_option maxRecDepth 100000
set_option maxHeartbeats 4000000
set_option linter.all false
namespace DL
open PySem PySem.Spec PyProof.Rows L2
/-! ## d.pop(k), min(d), d == {} -/
section
variable {κ : Type} [DecidableEq κ] {K : Fg} {F : Hp}
theorem drop_rep {k : κ} : ∀ {fs : List (κ × V)} {ds : List (κ × D)}, fs.map (·.1) = ds.map (·.1) → RepL K F (ds.map (·.2)) (fs.map (·.2)) →
    (dropK fs k).map (·.1) = (dropKD ds k).map (·.1) ∧ RepL K F ((dropKD ds k).map (·.2)) ((dropK fs k).map (·.2))
  | [], [], _, _ => ⟨rfl, .nil⟩
  | [], _ :: _, h, _ => by cases h
  | (g, v) :: fs, ds, h, r => by
    obtain ⟨d, rs, rfl, h2⟩ := keys_cons h
    rw [List.map_cons, List.map_cons] at r
    cases r with
    | cons r1 r2 =>
      obtain ⟨i1, i2⟩ := drop_rep (k := k) h2 r2
      unfold dropK dropKD at *
      by_cases c : g = k
      · rw [List.filter_cons_of_neg (by simp [c]), List.filter_cons_of_neg (by simp [c])]
        exact ⟨i1, i2⟩
      · rw [List.filter_cons_of_pos (by simpa using c), List.filter_cons_of_pos (by simpa using c)]
        exact ⟨by rw [List.map_cons, List.map_cons, i1], .cons r1 i2⟩
end
section
variable {X : Cx} {B : Base} {E : XK} {k : Nat}
def wPopD (to ta : WE) : WE := fun PX env W P => to PX env W fun d env1 W1 => ∃ a ds0, d = .obj a ∧ W1 a = some (.dK ds0) ∧ ta PX env1 W1 fun kk env2 W2 => ∃ ds q y, W2 a = some (.dK ds) ∧ keyD kk = some q ∧ getKD q ds = some y ∧ P y env2 (W2.put a (.dK (dropKD ds q)))
theorem s_popD {o e : Expr} {to ta : WE} {apos cpos : Pos} (ho : PE X o (liftE X.K B E to)) (he : PE X e (liftE X.K B E ta)) (m : M1 X o "pop" apos e cpos) :
    PE X (.Call (.Attribute o "pop" apos) [e] [] cpos) (liftE X.K B E (wPopD to ta)) :=
  peW (pe_dpop1 ho he m) fun σ H Q ⟨F, env, W, P, PX, S, hE, h, hX, hQ⟩ => by
    refine ⟨F, env, W, _, PX, S, hE, h, hX, fun d env1 W1 F1 H1 v ⟨a, ds0, ed, hw, p1⟩ S1 l1 e1 r1 => ?_⟩
    subst ed
    cases r1
    obtain ⟨kvs0, ha, _⟩ := obj_dK S1 hw
    refine ⟨a, rfl, .inl ⟨kvs0, .inl ha⟩, F1, env1, W1, _, PX, S1, e1, p1, hX.mono l1, fun kk env2 W2 F2 H2 y ⟨ds, q, z, hw2, hk, hg, p2⟩ S2 l2 e2 r2 => ?_⟩
    obtain ⟨kvs, ha2, ke, rl⟩ := obj_dK S2 hw2
    have ek := keyD_rep r2 hk
    subst ek
    obtain ⟨z', hv, rz⟩ := (val_rep (k := q) ke rl).1 z hg
    obtain ⟨d1, d2⟩ := drop_rep (k := q) ke rl
    exact ⟨kvs, q, z', ha2, rfl, hv, hQ _ env2 _ F2 _ _ p2 (S2.write hw2 (.dK d1 d2)) (l1.trans l2) e2 rz⟩
theorem popD_ {o e : Expr} {to ta : WE} {apos cpos : Pos} (ho : PE X o (liftE X.K B E to)) (he : PE X e (liftE X.K B E ta)) (m : M1 X o "pop" apos e cpos := by exact ⟨rfl, rfl, rfl, rfl⟩) :
    PE X (.Call (.Attribute o "pop" apos) [e] [] cpos) (liftE X.K B E (wPopD to ta)) := s_popD ho he m
/-- min(d) of an object of the store, keys are ints -/
def fMinK : FL
  | [.obj a], W, P => ∃ ps : List (Int × Int), W a = some (.dK (mkI ps)) ∧ ps ≠ [] ∧ ∀ m, m ∈ ps.map (·.1) → (∀ j ∈ ps.map (·.1), m ≤ j) → P (.int m)
  | _, _, _ => False
theorem c_minK (hc : X.calm = true) : CallR X (.builtin "min") (rDL X.K B fMinK) := by
  intro pins s σ H xs us Q I r ⟨F, W, ds, P, S, rl, h, o⟩
  unfold fMinK at h
  split at h
  · rename_i a
    obtain ⟨v, rfl, rv⟩ := repL1 rl
    obtain ⟨ps, hw, hne, p⟩ := h
    cases rv
    obtain ⟨kvs, ha, ke, rr⟩ := obj_dK S hw
    refine cr_minK hc pins s σ H _ us Q I r ⟨a, kvs, ps.map (·.1), rfl, ha, ?_, ?_, fun m h1 h2 => out0 S o (p m h1 h2) (.int _)⟩
    · rw [ke]; unfold mkI; rw [List.map_map, List.map_map]; rfl
    · intro e
      exact hne (List.map_eq_nil_iff.mp e)
  · exact h.elim
/-- a dict compared with the empty one -/
def fEqD (neg : Bool) : F2 := fun d1 d2 W P => ∃ ds, view W d1 = .dK ds ∧ view W d2 = .dK [] ∧ P (.bl (if neg then !ds.isEmpty else ds.isEmpty))
theorem o_eqDE (hu : X.A.units + 64 < cLine) : OpR X (compareOp .Eq) (rD X.K B (fEqD false)) := by
  intro pins s σ H x y v u Q I rx ry ⟨F, W, d1, d2, P, S, r1, r2, ⟨ds, h1, h2, h⟩, o⟩
  obtain ⟨a, xs, rfl, ha, ka, la⟩ := view_dK S r1 h1
  obtain ⟨b, ys, rfl, hb, kb, lb⟩ := view_dK S r2 h2
  obtain rfl : v = Value.ref a := rx
  obtain rfl : u = Value.ref b := ry
  obtain ⟨_, ya, va, ra, da⟩ := dk_rd I.hok ha
  obtain ⟨_, yb, vb, rb, db⟩ := dk_rd I.hok hb
  have eb : ys = [] := by cases ys with
    | nil => rfl
    | cons _ _ => cases kb
  subst eb
  have evb : vb = [] := by cases rb; rfl
  subst evb
  refine PySem.W.keq_eq (knd := mixKind X.prog X.w) (r := true) ya yb da db (by omega) (fun hl => ?_) (fin_bl I (out0 S o h (.bl _)) ?_)
  · have : va = [] := List.eq_nil_of_length_eq_zero hl
    subst this
    have : xs = [] := by cases ra; rfl
    subst this
    exact hits_all rb ra (fun _ hp => by cases hp)
  · cases ra with
    | nil =>
      cases ds with
      | nil => rfl
      | cons _ _ => cases ka
    | cons _ _ =>
      cases ds with
      | nil => cases ka
      | cons _ _ => rfl
theorem o_neDE (hu : X.A.units + 64 < cLine) : OpR X (compareOp .NotEq) (rD X.K B (fEqD true)) := by
  intro pins s σ H x y v u Q I rx ry ⟨F, W, d1, d2, P, S, r1, r2, ⟨ds, h1, h2, h⟩, o⟩
  obtain ⟨a, xs, rfl, ha, ka, la⟩ := view_dK S r1 h1
  obtain ⟨b, ys, rfl, hb, kb, lb⟩ := view_dK S r2 h2
  obtain rfl : v = Value.ref a := rx
  obtain rfl : u = Value.ref b := ry
  obtain ⟨_, ya, va, ra, da⟩ := dk_rd I.hok ha
  obtain ⟨_, yb, vb, rb, db⟩ := dk_rd I.hok hb
  have eb : ys = [] := by cases ys with
    | nil => rfl
    | cons _ _ => cases kb
  subst eb
  have evb : vb = [] := by cases rb; rfl
  subst evb
  refine PySem.W.keq_ne (knd := mixKind X.prog X.w) (r := true) ya yb da db (by omega) (fun hl => ?_) (fin_bl I (out0 S o h (.bl _)) ?_)
  · have : va = [] := List.eq_nil_of_length_eq_zero hl
    subst this
    have : xs = [] := by cases ra; rfl
    subst this
    exact hits_all rb ra (fun _ hp => by cases hp)
  · cases ra with
    | nil =>
      cases ds with
      | nil => rfl
      | cons _ _ => cases ka
    | cons _ _ =>
      cases ds with
      | nil => cases ka
      | cons _ _ => rfl
end
end DL

set_option maxRecDepth 100000
set_option maxHeartbeats 4000000
set_option linter.all false
namespace DL
open PySem PySem.Spec PyProof.Rows L2
section
variable {X : Cx} {B : Base} {E : XK} {K : Fg}
/-- xs * n -/
def wRep (ta tb : WE) : WF := fun PX env W P => ta PX env W fun d1 env1 W1 => tb PX env1 W1 fun d2 env2 W2 => ∃ xs i, exL W2 d1 = some xs ∧ d2 = .int i ∧ -(2 ^ 63) ≤ i ∧ i < 2 ^ 63 ∧ xs.length * i.toNat ≤ sizeLine ∧ P (.lst (List.replicate i.toNat xs).flatten) env2 W2
theorem RepL.rep {F : Hp} {ds : List D} {vs : List V} (r : RepL K F ds vs) : ∀ n, RepL K F (List.replicate n ds).flatten (List.replicate n vs).flatten
  | 0 => .nil
  | n + 1 => by
    rw [List.replicate_succ, List.replicate_succ, List.flatten_cons, List.flatten_cons]
    exact r.append (RepL.rep r n)
theorem s_rep {a b : Expr} {ta tb : WE} {pos : Pos} (ha : PE X a (liftE X.K B E ta)) (hb : PE X b (liftE X.K B E tb)) : PE X (.BinOp a .Mult b pos) (liftF X.K B E (wRep ta tb)) :=
  peW (pe_op op_rep ha hb) fun σ H Q ⟨F, env, W, P, PX, S, hE, h, hX, hQ⟩ => by
    refine ⟨F, env, W, _, PX, S, hE, h, hX, fun d1 env1 W1 F1 H1 v1 p1 S1 l1 e1 r1 => ?_⟩
    refine ⟨F1, env1, W1, _, PX, S1, e1, p1, hX.mono l1, fun d2 env2 W2 F2 H2 v2 ⟨xs, i, h1, h2, hl1, hl2, hl3, p⟩ S2 l2 e2 r2 => ?_⟩
    obtain ⟨a1, vs1, rfl, g1, q1⟩ := exL_rep S2 (r1.mono l2) h1
    subst h2
    cases r2
    refine ⟨a1, i, vs1, rfl, rfl, g1, hl1, hl2, by rw [← q1.length]; exact hl3, fun q hq => ?_⟩
    obtain ⟨z1, z2, z3, z4⟩ := laidF (o := .lst (List.replicate i.toNat vs1).flatten) S2 hq
    exact hQ _ env2 W2 F2 _ q _ p z1 (l1.trans l2) e2 upd_same z2 z3 z4 (.lst (q1.rep _))
/-- what a call has made is fixed, if it is an object of the store -/
def wSealQ (t : WE) : WE := fun PX env W P => t PX env W fun d env1 W1 => match d with
  | .obj a => ∃ ob, W1 a = some ob ∧ P ob.toD env1 (W1.del a)
  | d => P d env1 W1
theorem s_sealQ {e : Expr} {t : WE} (h : PE X e (liftE K B E t)) : PE X e (liftE K B E (wSealQ t)) := peW h fun σ H Q ⟨F, env, W, P, PX, S, hE, h, hX, hQ⟩ => by
  refine ⟨F, env, W, _, PX, S, hE, h, hX, fun d env1 W1 F1 H1 v p1 S1 l1 e1 r1 => ?_⟩
  cases d with
  | obj a =>
    obtain ⟨ob, hw, p⟩ := p1
    cases r1
    obtain ⟨hF, o, ho, ro⟩ := S1.obj a ob hw
    have l := Le.upd (o := o) hF
    exact hQ _ _ _ _ H1 _ p (S1.unbox hw ho) (l1.trans l) (e1.mono l) ((ro.mono l).toRep upd_same)
  | _ => exact hQ _ _ _ _ _ _ p1 S1 l1 e1 r1
/-- enumerate of a list, fixed or of the store -/
theorem itOn_enum {a : Addr} {ds : List D} {F0 : Hp} {φ : WS → Prop} (h : ∀ (F : Hp) (W : WS) (H : Hp), Le F0 F → Stt K B F W H → φ W → ∃ vs, SqL K H a vs ∧ RepL K F ds vs) : ItOn K B (Ite K a) (enumD 0 ds) F0 φ := fun i F W H l S hw => by
  obtain ⟨vs, hs, r⟩ := h F W H l S hw
  rw [enumD_get]
  refine ⟨fun d hd => ?_, fun hd => ⟨vs, hs, ?_⟩⟩
  · cases e : ds[i]? with
    | none => rw [e] at hd; cases hd
    | some d0 =>
      rw [e] at hd
      cases hd
      obtain ⟨v, hv, rv⟩ := r.get e
      refine ⟨⟨vs, v, hs, hv⟩, fun x H' y => ?_⟩
      obtain ⟨T, z, e1, hT, e2, y⟩ := y
      subst e1 e2
      have := y vs hs
      rw [hv] at this
      cases this
      have l2 := Le.upd (o := .tup [.int (i : Nat), v]) (S.newF hT)
      refine ⟨_, S.self.alloc hT, .tup upd_same (.cons ?_ (.cons (rv.mono l2) .nil))⟩
      rw [Nat.zero_add]
      exact .int _
  · cases e : ds[i]? with
    | none => rw [← r.length]; exact List.getElem?_eq_none_iff.mp e
    | some d0 => rw [e] at hd; cases hd
def stays (d : D) (ds : List D) : WS → Prop := fun W => match d with
  | .obj a => W a = some (.lst ds)
  | _ => True
def wForEn (t : WA) (g : Tg) (b : WStm) : WStm := fun PX P env W => t PX env W fun es env1 W1 => ∃ d ds, es = [d] ∧ (lstD d = some ds ∨ ∃ a, d = .obj a ∧ W1 a = some (.lst ds)) ∧ forO (stays d ds) g b PX P (enumD 0 ds) env1 W1
theorem S_forEn {elts : List Expr} {kk : Nat} {tpos : Pos} {e : Expr} {body : List Stmt} {t : WA} {g : Tg} {b : WStm} {p pos pos2 : Pos} (hp : PassesOwn (model X.prog X.w) X.A X.env X.xe) (hc : X.calm = true) (hg : Gl X "enumerate") (hm : X.mg "enumerate" = none) (ha : PA X [e] (liftA X.K B E t)) (hs : starEach [e] X.env = [(false, eval e X.env)])
    (htg : PG X (.Tuple elts kk tpos) (liftG X.K B g)) (hb : PSs X body (liftS X.K B E b)) (hsf : ∀ x, foldedSetIterable (.Call (.Name "enumerate" p) [e] [] pos) X.env x = pure x) : PS X (.For (.Tuple elts kk tpos) (.Call (.Name "enumerate" p) [e] [] pos) body [] pos2) (liftS X.K B E (wForEn t g b)) :=
  psW (ps_for hp hc (pi_enum hg hm ha hs) htg hb hsf) fun D σ H ⟨F, env, W, P, PX, S, hE, h, hX, h1, h2, h3, h4⟩ => by
    refine ⟨F, env, W, _, PX, S, hE, h, hX, fun es env1 W1 F1 H1 vs ⟨d, ds, ee, hd, p1⟩ S1 l1 e1 r1 => ?_⟩
    subst ee
    obtain ⟨v, rfl, rv⟩ := repL1 r1
    have ends : EndsOk X.K B F1 P D := ⟨fun env2 W2 F2 H2 σ2 p2 S2 l2 e2 => h1 env2 W2 F2 H2 σ2 p2 S2 (l1.trans l2) e2, fun d W2 F2 H2 v p2 S2 l2 r2 => h2 d W2 F2 H2 v p2 S2 (l1.trans l2) r2,
       fun env2 W2 F2 H2 σ2 p2 S2 l2 e2 => h3 env2 W2 F2 H2 σ2 p2 S2 (l1.trans l2) e2, fun env2 W2 F2 H2 σ2 p2 S2 l2 e2 => h4 env2 W2 F2 H2 σ2 p2 S2 (l1.trans l2) e2⟩
    rcases hd with hd | ⟨a, rfl, hw⟩
    · obtain ⟨a, us, rfl, hsq, rl⟩ := lstD_rep rv hd
      exact ⟨a, us, rfl, S1.sqL hsq, forO_go (itOn_enum fun F2 W2 H2 l2 S2 _ => ⟨us, S2.sqL (l2.sqL hsq), rl.mono l2⟩) S1 e1 (hX.mono l1) p1 ends⟩
    · cases rv
      obtain ⟨us, hus, rl⟩ := obj_lst S1 hw
      refine ⟨a, us, rfl, SqL.of hus, forO_go (φ := stays (.obj a) ds) (itOn_enum fun F2 W2 H2 l2 S2 hφ => ?_) S1 e1 (hX.mono l1) p1 ends⟩
      obtain ⟨us2, hus2, rl2⟩ := obj_lst S2 (show W2 a = some (.lst ds) from hφ)
      exact ⟨us2, SqL.of hus2, rl2⟩
theorem forO_of {φ : WS → Prop} (hφ : ∀ W, φ W) {g : Tg} {b : WStm} {PX : XP} {P : WEnds} : ∀ (ds : List D) (env : DEnv) (W : WS), forW g b PX P ds env W → forO φ g b PX P ds env W := fun ds => by
  have : forO φ g b PX P ds = forW g b PX P ds := by
    induction ds with
    | nil => funext env W; exact propext ⟨fun h => h.2, fun h => ⟨hφ W, h⟩⟩
    | cons d ds ih =>
      funext env W
      show (φ W ∧ bindG g d env fun env1 => b PX { P with nx := forO φ g b PX P ds, ct := forO φ g b PX P ds, bk := P.nx } env1 W) = bindG g d env fun env1 => b PX { P with nx := forW g b PX P ds, ct := forW g b PX P ds, bk := P.nx } env1 W
      rw [ih]
      exact propext ⟨fun h => h.2, fun h => ⟨hφ W, h⟩⟩
  intro env W h
  rw [this]; exact h
end
end DL

set_option maxRecDepth 100000
set_option maxHeartbeats 4000000
set_option linter.all false
namespace DL
open PySem PySem.Spec PyProof.Rows L2
section
variable {X : Cx} {B : Base} {E : XK} {k : Nat}
/-! ## tuple targets of any length -/
def tgLen : Tg → Nat
  | .tp _ r => tgLen r + 1
  | _ => 0
def isTp : Tg → Bool
  | .tp _ r => isTp r
  | .nl => true
  | _ => false
theorem tg_env : ∀ (g : Tg) (d : D) (env : DEnv) (P : DEnv → Prop), bindG g d env P → ∃ env', P env' := by
  intro g
  induction g with
  | nm i => intro d env P h; exact ⟨_, h⟩
  | nl => intro d env P h; unfold bindG at h; split at h <;> first | exact ⟨_, h⟩ | exact h.elim
  | tu l ih => intro d env P h; unfold bindG at h; split at h <;> first | exact ih _ _ _ h | exact h.elim
  | tp l r ihl ihr => intro d env P h; unfold bindG at h; split at h <;> first | (obtain ⟨e', h'⟩ := ihl _ _ _ h; exact ihr _ _ _ h') | exact h.elim
theorem tg_len : ∀ (g : Tg), isTp g = true → ∀ (ds : List D) (env : DEnv) (P : DEnv → Prop), bindG g (.lst ds) env P → ds.length = tgLen g
  | .nl, _, ds, env, P, h => by
    cases ds with
    | nil => rfl
    | cons _ _ => exact False.elim h
  | .tp l r, hi, ds, env, P, h => by
    cases ds with
    | nil => exact False.elim h
    | cons d ds =>
      have h' : bindG l d env fun env1 => bindG r (.lst ds) env1 P := h
      obtain ⟨env1, h2⟩ := tg_env _ _ _ _ h'
      have := tg_len r hi ds env1 P h2
      rw [List.length_cons, this]; rfl
theorem gtN_ {q : Nat} {l : Tg} {es : List Expr} {pos : Pos} (T : Sit X E k) (h : PGs X es (liftGs X.K B l)) (hi : isTp l = true := by rfl) (hn : (assignEach es X.env).length = tgLen l := by rfl) (hst : (assignEach es X.env).findIdx? (·.1) = none := by rfl) : PG X (.Tuple es q pos) (liftG X.K B (.tu l)) :=
  g_tup T.hc h (n := tgLen l) (tg_len l hi) hn hst
/-! ## list(range(n)), list(range(i, j)) -/
def wLRg1 (ta : WE) : WF := fun PX env W P => ta PX env W fun d env1 W1 => ∃ n, d = .int n ∧ RgOk 0 n ∧ P (.lst (rngD 0 n.toNat)) env1 W1
def wLRg2 (ta tb : WE) : WF := fun PX env W P => ta PX env W fun d env1 W1 => tb PX env1 W1 fun e env2 W2 => ∃ i j, d = .int i ∧ e = .int j ∧ RgOk i j ∧ P (.lst (rngD i (j - i).toNat)) env2 W2
theorem rg_rep {K : Fg} {F : Hp} (a b : Int) : RepL K F (rngD a (b - a).toNat) (rgV a b) := by
  have key : ∀ (n : Nat) (a : Int), RepL K F (rngD a n) ((List.range n).map fun (i : Nat) => V.int (a + (i : Nat))) := fun n a => by
    unfold rngD
    induction (List.range n) with
    | nil => exact .nil
    | cons x r ih => exact .cons (.int _) ih
  exact key _ _
theorem s_lrg1 {a : Expr} {ta : WE} {p p2 pos pos2 : Pos} (T : Sit X E k) (hg : Gl X "list") (hm : X.mg "list" = none) (hg2 : Gl X "range") (hm2 : X.mg "range" = none) (ha : PE X a (liftE X.K B E ta)) (na : starEach [a] X.env = (false, eval a X.env) :: starEach [] X.env := by rfl) : PE X (.Call (.Name "list" p) [.Call (.Name "range" p2) [a] [] pos2] [] pos) (liftF X.K B E (wLRg1 ta)) :=
  peW (pe_listRg T.hc hg hm (prg_1 hg2 hm2 ha na)) fun σ H Q ⟨F, env, W, P, PX, S, hE, h, hX, hQ⟩ => by
    refine ⟨F, env, W, _, PX, S, hE, h, hX, fun d env1 W1 F1 H1 v ⟨n, ed, hr, p1⟩ S1 l1 e1 r1 => ?_⟩
    subst ed
    cases r1
    refine ⟨n, rfl, hr, fun q hq => ?_⟩
    obtain ⟨z1, z2, z3, z4⟩ := laidF (o := .lst (rgV 0 n)) S1 hq
    refine hQ _ env1 W1 F1 _ q _ p1 z1 l1 e1 upd_same z2 z3 z4 (.lst ?_)
    have := rg_rep (K := X.K) (F := F1) 0 n
    rw [Int.sub_zero] at this
    exact this
theorem s_lrg2 {a b : Expr} {ta tb : WE} {p p2 pos pos2 : Pos} (T : Sit X E k) (hg : Gl X "list") (hm : X.mg "list" = none) (hg2 : Gl X "range") (hm2 : X.mg "range" = none) (ha : PE X a (liftE X.K B E ta)) (hb : PE X b (liftE X.K B E tb)) (na : starEach [a, b] X.env = (false, eval a X.env) :: starEach [b] X.env := by rfl) (nb : starEach [b] X.env = (false, eval b X.env) :: starEach [] X.env := by rfl) (hp : (backTo pos2 (starEach [b] X.env)).any (·.1) = false := by rfl) : PE X (.Call (.Name "list" p) [.Call (.Name "range" p2) [a, b] [] pos2] [] pos) (liftF X.K B E (wLRg2 ta tb)) :=
  peW (pe_listRg T.hc hg hm (prg_2 hg2 hm2 ha hb na nb hp)) fun σ H Q ⟨F, env, W, P, PX, S, hE, h, hX, hQ⟩ => by
    refine ⟨F, env, W, _, PX, S, hE, h, hX, fun d env1 W1 F1 H1 v p1 S1 l1 e1 r1 => ?_⟩
    refine ⟨F1, env1, W1, _, PX, S1, e1, p1, hX.mono l1, fun d2 env2 W2 F2 H2 v2 ⟨i, j, ed, ee, hr, p2⟩ S2 l2 e2 r2 => ?_⟩
    subst ed ee
    cases r1; cases r2
    refine ⟨i, j, rfl, rfl, hr, fun q hq => ?_⟩
    obtain ⟨z1, z2, z3, z4⟩ := laidF (o := .lst (rgV i j)) S2 hq
    exact hQ _ env2 W2 F2 _ q _ p2 z1 (l1.trans l2) e2 upd_same z2 z3 z4 (.lst (rg_rep i j))
end
/-! ## xs.extend(ys) -/
def mExtend : FM
  | .lst xs, [.lst zs], P => xs.length + zs.length ≤ sizeLine ∧ P .non (.lst (xs ++ zs))
  | _, _, _ => False
section
variable {X : Cx} {B : Base} {E : XK} {o e : Expr} {es : List Expr} {apos cpos : Pos} {ta : WE} {tr : WA}
theorem m_extend : MtM X "list.extend" (rMu X.K B mExtend) := by
  intro pins s σ H x xs v us Q I rx rv ⟨F, W, a, ob, ds, P, S, ea, hw, rl, h, hQ⟩
  unfold mExtend at h
  split at h
  · obtain ⟨vs, ha, rl'⟩ := obj_lst S hw
    obtain ⟨y, rfl, ry⟩ := repL1 rl
    obtain ⟨b, ws, rfl, hb, rb⟩ := exL_rep S ry rfl
    exact mt_extend pins s σ H x _ v us Q I rx rv ⟨a, b, vs, ws, ea, rfl, ha, hb, by rw [← rl'.length, ← rb.length]; exact h.1, hQ _ _ _ _ h.2 (S.write hw (.lst (rl'.append rb))) .non⟩
  · exact h.elim
theorem extend_ (ho : PE X o (liftE X.K B E ta)) (ha : PA X (e :: es) (liftA X.K B E tr))
    (hbase : attributeBase o "extend" X.env (eval o X.env) = eval o X.env := by rfl)
    (hfew : ((backTo cpos (starEach (e :: es) X.env)).all (fun x => !x.1) && (backToKw cpos (keywordEach [] X.env)).all (fun x => x.1.isSome)
      && decide ((e :: es).length + ([] : List Keyword).length + (if ([] : List Keyword).isEmpty then 0 else 1) < 30)) = true := by rfl)
    (hline : (apos.endLine == cpos.line) = true := by rfl) (hs : starEach (e :: es) X.env = (false, eval e X.env) :: starEach es X.env := by rfl) (hpl : (backTo cpos (starEach es X.env)).any (·.1) = false := by rfl) :
    PE X (.Call (.Attribute o "extend" apos) (e :: es) [] cpos) (liftE X.K B E (wMu mExtend ta tr)) := s_mu PySem.F.plainAttrs_list PySem.F.slot_list_extend PySem.F.type_list_extend m_extend ho ha hbase hfew hline hs hpl
end
end DL

set_option maxRecDepth 100000
set_option maxHeartbeats 4000000
set_option linter.all false
namespace DL
open PySem PySem.Spec PyProof.Rows L2
/-! ## range(a, b) of any size of its ends -/
theorem turn_lrange {P : Program} {w : World} {K : PySem.W.Frag} {tg : Expr} (it : Addr) (lo : Int) (n : Nat) : Turn P w K tg (Itr lo n) [it] it (fun i h => IsLongIter h it (lo + (i : Nat) * 1) ((n : Int) - (i : Nat)) 1) where
  mem := by simp
  obj := fun i h st b hb => by
    have e : b = it := by simpa using hb
    subst e
    exact ⟨_, st, fun v z => by
      have z' : Data.fields _ = Data.cell v := z
      cases z'⟩
  keep := fun i h h' st k => k it (by simp) _ st
  item := by
    intro X hP hw hK hc i pins s σ H E I hf st hg
    subst hP hw hK
    obtain ⟨f0, f1, f2, f3, f4, f5⟩ := hf it (by simp)
    have W := Walks.longrange (prog := X.prog) (w := X.w) (I.ok.hd hc) it lo 1 n
    refine W.item i s _ _ hg st fun v h' tk hv st' kk => ?_
    obtain ⟨t, rfl⟩ := hv
    have I1 : Inv X pins σ H { s with heap := h', toks := tk } := I.turned (fun b o hb e => kk b o (by simpa using hb) e) f0 f1 f3 f4 f5
    refine ⟨_, rfl, go_of (s := { s with heap := h', toks := tk }) (n := "longrange_iterator") st' rfl rfl (by decide) ⟨.int (lo + i), H, I1, ⟨t, ?_⟩, ⟨rfl, rfl⟩, st', fun b hb => (hf b hb).1⟩⟩
    rw [Int.mul_one]
  done := by
    intro X hP hw hK hc i pins s σ H E I hf st hg
    subst hP hw hK
    obtain ⟨f0, f1, f2, f3, f4, f5⟩ := hf it (by simp)
    exact wpAny_pyNext_long_end (I.ok.hd hc) st (by have : n ≤ i := hg; omega) fun h' eb => ⟨rfl, I.turned (t' := s.toks) (fun b o hb e => eb b o hb e) f0 f1 f3 f4 f5⟩
  self := fun _ _ _ _ _ st h => wpAny_pyIter_longiter st h
section
variable {X : Cx} {tg : Expr}
theorem range_itB {pins : List (Addr × Obj)} {σ : L2.St} {H : Hp} {s : Shared} {R : It → Hp → Prop} {E : Value → Shared → Prop} {lo hi : Int} {t u v : Tok} {tk : Nat} (I : Inv X pins σ H s)
    (q : R (Itr lo (hi - lo).toNat) H) : wpAny (model X.prog X.w) X.A (pyIter (.ref s.heap.objs.size)) (PIE X pins σ tg R) E { s with heap := s.heap.push { cls := .type "range", data := .fields #[.int lo t, .int hi u, .int 1 v] }, toks := tk } := by
  have I1 : Inv X pins σ H { s with heap := s.heap.push { cls := .type "range", data := .fields #[.int lo t, .int hi u, .int 1 v] }, toks := tk } := I.kept fun b o e => Heap.get?_push_of_some _ e
  have e1 : lo + ((0 : Nat) : Int) * 1 = lo := by simp
  have e2 : (((hi - lo).toNat : Nat) : Int) - ((0 : Nat) : Int) = Builtin.Range.rangeSize lo hi 1 := by rw [rangeSize_one]; split <;> omega
  have fp : ∀ b ∈ [(s.heap.push { cls := .type "range", data := .fields #[.int lo t, .int hi u, .int 1 v] }).objs.size], FpOk X pins H b := fun b hb => by
    have e : b = (s.heap.push { cls := .type "range", data := .fields #[.int lo t, .int hi u, .int 1 v] }).objs.size := by simpa using hb
    subst e
    exact I1.fpOk (Nat.le_refl _) (I1.hok.fresh (Nat.le_refl _))
  cases hs : Builtin.Range.small lo hi 1 with
  | true =>
    refine wpAny_pyIter_range (IsRange.new ..) hs ?_
    refine ⟨(s.heap.push { cls := .type "range", data := .fields #[.int lo t, .int hi u, .int 1 v] }).objs.size, [(s.heap.push { cls := .type "range", data := .fields #[.int lo t, .int hi u, .int 1 v] }).objs.size], _, _, H, rfl,
      I1.kept (t' := tk) fun b o e => Heap.get?_push_of_some _ e, turn_range _ lo (hi - lo).toNat, ?_, fp, q⟩
    show IsRangeIter _ _ (lo + ((0 : Nat) : Int) * 1) ((((hi - lo).toNat : Nat) : Int) - ((0 : Nat) : Int)) 1
    rw [e1, e2]
    exact Heap.get?_push_size _ rfl
  | false =>
    refine wpAny_pyIter_longrange (IsRange.new ..) hs ?_
    refine ⟨(s.heap.push { cls := .type "range", data := .fields #[.int lo t, .int hi u, .int 1 v] }).objs.size, [(s.heap.push { cls := .type "range", data := .fields #[.int lo t, .int hi u, .int 1 v] }).objs.size], _, _, H, rfl,
      I1.kept (t' := tk) fun b o e => Heap.get?_push_of_some _ e, turn_lrange _ lo (hi - lo).toNat, ?_, fp, q⟩
    show IsLongIter _ _ (lo + ((0 : Nat) : Int) * 1) ((((hi - lo).toNat : Nat) : Int) - ((0 : Nat) : Int)) 1
    rw [e1, e2]
    exact Heap.get?_push_size _ rfl
def iRngB (ta : TA) : TI := fun σ H R => ta σ H fun vs H1 => ∃ i j : Int, vs = [.int i, .int j] ∧ R (Itr i (j - i).toNat) H1
theorem pi_rangeB {a b : Expr} {ta : TA} {p pos : Pos} (hg : Gl X "range") (hm : X.mg "range" = none) (ha : PA X [a, b] ta) (hs : starEach [a, b] X.env = [(false, eval a X.env), (false, eval b X.env)] := by rfl) (hs2 : starEach [b] X.env = [(false, eval b X.env)] := by rfl) :
    PI X tg (.Call (.Name "range" p) [a, b] [] pos) (iRngB ta) := by
  refine ⟨fun pins s σ H R I h => ?_⟩
  refine Call_ (ld_blt I hg hm boot_range (PyProof.Rows.callWith_type1 (thn (ha.run pos pins s σ H _ I h) fun us s1 ⟨vs, H1, I1, r1, q1⟩ => ?_) (by rw [hs, hs2]) (by rw [hs2]; rfl)))
  obtain ⟨i, j, e, q⟩ := q1
  subst e
  cases r1 with
  | cons r rr =>
    cases rr with
    | cons r' rr =>
      cases rr
      obtain ⟨t, rfl⟩ := r
      obtain ⟨t', rfl⟩ := r'
      exact call_range_2 (range_itB I1 q)
end
section
variable {X : Cx} {B : Base} {E : XK}
def wRngB (ta : WA) : WI := fun PX env W P => ta PX env W fun ds env1 W1 => match ds with
  | [.int i, .int j] => P (rngD i (j - i).toNat) env1 W1
  | _ => False
theorem i_rngB {tg a b : Expr} {t : WA} {p pos : Pos} (hg : Gl X "range") (hm : X.mg "range" = none) (ha : PA X [a, b] (liftA X.K B E t)) (hs : starEach [a, b] X.env = [(false, eval a X.env), (false, eval b X.env)]) (hs2 : starEach [b] X.env = [(false, eval b X.env)]) :
    PI X tg (.Call (.Name "range" p) [a, b] [] pos) (liftI X.K B E (wRngB t)) :=
  piW (pi_rangeB hg hm ha hs hs2) fun σ H R ⟨F, env, W, P, PX, S, hE, h, hX, hQ⟩ =>
    ⟨F, env, W, _, PX, S, hE, h, hX, fun ds env1 W1 F1 H1 vs p1 S1 l1 e1 r1 => by
      split at p1
      · obtain ⟨v, w', rfl, rv, rw'⟩ := repL2 r1
        cases rv; cases rw'
        exact ⟨_, _, rfl, hQ _ env1 W1 F1 H1 _ p1 S1 l1 e1 itok_rng⟩
      · exact p1.elim⟩
end
/-! ## x = [.. for k in d ..] on one line, d is frozen before -/
section
variable {X : Cx} {B : Base} {E : XK}
def wSetVL (t : WF) (i : Nat) : WStm := wSetV t i
theorem S_setLcLk {i : Nat} {y : Str} {py spos : Pos} {elt tg iter e : Expr} {J : JLk} {el : List (Key × D) → List D} {ifs : List Expr} {scope : Scope} {own : List (Str × Nat)} {pos : Pos} {te : WE} {g : Tg} {c : WT} {t : WE} (k : Wk X tg iter e J el) (hc : X.calm = true) (hN : X.N.Nodup)
    (hy : X.N[i]? = some y) (hyl : X.env.scope.names.lookup y = some .local) (hsw : swapsWith (.ListComp elt [⟨tg, iter, ifs, 0⟩] scope pos) (some (.Name y py)) spos.line X.env = pure true)
    (hi : PE X e (liftE X.K B E te)) (ok : BlkOk X.N X.env.scope scope own)
    (hg : blkA X scope fun Y => ∀ B, PG Y tg (liftG X.K B g)) (ht : blkA X scope fun Y => ∀ B, PTs Y ifs (liftT X.K B (fun _ _ _ => False) c)) (he : blkA X scope fun Y => ∀ B, PE Y elt (liftE X.K B (fun _ _ _ => False) t))
    (hs : ∀ x, foldedSetIterable iter X.env x = pure x) (ho : ∀ i ∈ g.slots, i ∈ own.map (·.2)) : PS X (.Assign [.Name y py] (.ListComp elt [⟨tg, iter, ifs, 0⟩] scope pos) spos) (liftS X.K B E (wSetV (wLcLk el te g c t (own.map (·.2))) i)) :=
  psW (psUlk (ps_setLc hc hN hy hyl hsw (k.pi (tLkE X (liftE X.K B E te)) (fun σ H Q Q' i h => lk_mono i h) (pe_lk hi)) ok (fun s H C cl fp => pgX (hg s H C cl fp)) (fun s H C cl fp => ptsX (ht s H C cl fp)) (fun s H C cl fp => peX (he s H C cl fp)) hs)) fun D σ H ⟨F, env, W, P, PX, S, hE, h, hX, h1, h2, h3, h4⟩ => by
    refine ⟨F, env, W, _, PX, S, hE, h, hX, fun x env1 W1 F1 H1 v ⟨ds, hd, p1⟩ S1 l1 e1 r1 => ?_⟩
    have hQ : ∀ ob env1 W1 F1 H1 a o, P.nx (env1.set i (some ob.toD)) W1 → Stt X.K B F1 W1 H1 → Le F F1 → EnvOk X.K F1 σ env1 → H1 a = some o → F1 a = none → W1 a = none → B.H0 a = none → RepO X.K F1 ob o → D.nx (σ.set i (some (.ref a))) H1 := fun ob env1 W1 F1 H1 a o p S1 l1 e1 ha hF hW hB ro => by
      have l := Le.upd (o := o) hF
      exact h1 _ _ _ H1 _ p (S1.froze ha hF hW hB) (l1.trans l) ((e1.mono l).set ((ro.mono l).toRep upd_same))
    obtain ⟨a, kvs, rfl, hF, hk, rl⟩ := dk_rep r1 hd
    have hw1 : W1 a = none := by
      cases q : W1 a with
      | none => rfl
      | some ob => rcases hF with hF | ⟨o, hF⟩ <;> rw [(S1.obj a ob q).1] at hF <;> cases hF
    rcases hF with hF | ⟨o, hF⟩
    · refine ⟨a, rfl, .inr ⟨kvs, S1.sub _ _ hF, fun od hn => ?_⟩⟩
      refine ⟨a, od, kvs, rfl, upd_same, fun q hq => ?_⟩
      have hqa : q ≠ a := fun c => by subst c; rw [upd_same] at hq; cases hq
      have hq1 : H1 q = none := by rw [upd_ne hqa] at hq; exact hq
      refine lc_go (Q := fun v H' => Ulk X (D.nx (σ.set i (some v))) H') (B := ⟨upd H1 a (.frz od (.dK kvs)), W1, upd F1 a (.frz od (.dK kvs))⟩) (k.ok _ _ a od kvs ds _ upd_same hw1 hk (rl.mono (Le.lock hF))) ho (S1.lock hF) (wipe_ok (e1.mono (Le.lock hF)) _) p1 hq hq fun acc W2 F2 H2 va p2 T2 l2 kp rl => ?_
      obtain ⟨u1, u2, u3, u4⟩ := S1.unlock hF T2
      exact .inr ⟨a, od, _, u1, hn, hQ _ env1 W2 _ _ q _ p2 u4 (l1.trans u3) ((e1.mono (Le.lock hF)).mono (l2.trans (Le.unlock u2))) (by rw [upd_ne hqa]; exact kp.h) (by rw [upd_ne hqa]; exact kp.f) kp.w (S1.dom q hq1) (.lst (rl.mono (Le.unlock u2)))⟩
    · have ha := S1.sub _ _ hF
      refine ⟨a, rfl, .inl ⟨o, kvs, ha, ?_⟩⟩
      refine ⟨a, o, kvs, rfl, ha, fun q hq => ?_⟩
      exact lc_go (Q := fun v H' => Ulk X (D.nx (σ.set i (some v))) H') (B := ⟨H1, W1, F1⟩) (k.ok _ _ a o kvs ds _ ha hw1 hk rl) ho S1.self (wipe_ok e1 _) p1 hq hq fun acc W2 F2 H2 va p2 T2 l2 kp rl =>
        .inl (hQ _ env1 W2 F2 H2 q _ p2 (S1.trans T2) (l1.trans T2.base) (e1.mono l2) kp.h kp.f kp.w (S1.dom q hq) (.lst rl))
end
end DL

set_option maxRecDepth 100000
set_option maxHeartbeats 4000000
set_option linter.all false
namespace DL
open PySem PySem.Spec PyProof.Rows L2
/-! ## dicts of the store whose keys are nested tuples of numbers -/
mutual
def nkD : D → Option NestedKey
  | .int i => some (.num i)
  | .tup ds => (nksD ds).map .tup
  | .ptup ds => (nksD ds).map .tup
  | _ => none
def nksD : List D → Option (List NestedKey)
  | [] => some []
  | d :: ds => match nkD d, nksD ds with
    | some k, some ks => some (k :: ks)
    | _, _ => none
end
mutual
theorem nk_rep {K : Fg} {F : Hp} : ∀ (d : D) (v : V) (k : NestedKey), Rep K F d v → nkD d = some k → NV F k v
  | .int i, _, _, r, h => by
    cases r
    simp only [nkD, Option.some.injEq] at h
    subst h; exact .num i
  | .tup ds, _, _, r, h => by
    cases r with
    | tup hf rl =>
      simp only [nkD] at h
      obtain ⟨ks, h1, rfl⟩ := Option.map_eq_some_iff.mp h
      exact .tup (.inl hf) (nks_rep ds _ ks rl h1)
  | .ptup ds, _, _, r, h => by
    cases r with
    | ptup _ _ hf rl =>
      simp only [nkD] at h
      obtain ⟨ks, h1, rfl⟩ := Option.map_eq_some_iff.mp h
      exact .tup (.inr ⟨_, hf⟩) (nks_rep ds _ ks rl h1)
  | .non, _, _, _, h => by simp only [nkD] at h; cases h
  | .bl _, _, _, _, h => by simp only [nkD] at h; cases h
  | .str _, _, _, _, h => by simp only [nkD] at h; cases h
  | .ty _, _, _, _, h => by simp only [nkD] at h; cases h
  | .lst _, _, _, _, h => by simp only [nkD] at h; cases h
  | .ktup _, _, _, _, h => by simp only [nkD] at h; cases h
  | .klst _, _, _, _, h => by simp only [nkD] at h; cases h
  | .dK _, _, _, _, h => by simp only [nkD] at h; cases h
  | .dT _, _, _, _, h => by simp only [nkD] at h; cases h
  | .ins _ _, _, _, _, h => by simp only [nkD] at h; cases h
  | .obj _, _, _, _, h => by simp only [nkD] at h; cases h
  | .raw, _, _, _, h => by simp only [nkD] at h; cases h
theorem nks_rep {K : Fg} {F : Hp} : ∀ (ds : List D) (vs : List V) (ks : List NestedKey), RepL K F ds vs → nksD ds = some ks → NVs F ks vs
  | [], _, _, r, h => by
    cases r
    simp only [nksD, Option.some.injEq] at h
    subst h; exact .nil
  | d :: ds, _, _, r, h => by
    cases r with
    | cons r1 r2 =>
      simp only [nksD] at h
      cases e1 : nkD d with
      | none => rw [e1] at h; cases h
      | some k =>
        cases e2 : nksD ds with
        | none => rw [e1, e2] at h; cases h
        | some ks =>
          rw [e1, e2] at h
          cases h
          exact .cons (nk_rep d _ k r1 e1) (nks_rep ds _ ks r2 e2)
end
section
variable {K : Fg} {F : Hp}
theorem nrel_get {k : NestedKey} {kvs : List (NestedKey × D)} {xs : List (NestedKey × Addr × Value)} (r : NRel K F kvs xs) :
    (∀ d, getKD k kvs = some d → ∃ p v, atKey xs k = some p ∧ Rep K F d v ∧ RelV v p.2) ∧ (getKD k kvs = none → atKey xs k = none) := by
  unfold NRel at r
  induction r with
  | nil => exact ⟨(fun d h => by cases h), fun _ => rfl⟩
  | @cons p q ps qs h t ih =>
    obtain ⟨h1, _, _, v, h4, h5⟩ := h
    obtain ⟨g, d⟩ := p
    dsimp only at h1 h4
    by_cases e : g = k
    · have e' : q.1 = k := h1.symm.trans e
      have b : atKey (q :: qs) k = some q.2 := by simp [atKey, List.find?_cons, e']
      have c : getKD k ((g, d) :: ps) = some d := if_pos e
      rw [b, c]
      exact ⟨(fun d' h' => by cases h'; exact ⟨_, v, rfl, h4, h5⟩), (fun h' => by cases h')⟩
    · have e' : ¬ q.1 = k := fun z => e (h1.trans z)
      have b : atKey (q :: qs) k = atKey qs k := by simp [atKey, List.find?_cons, e']
      have c : getKD k ((g, d) :: ps) = getKD k ps := if_neg e
      rw [b, c]
      exact ih
theorem nrel_has {k : NestedKey} {kvs : List (NestedKey × D)} {xs : List (NestedKey × Addr × Value)} (r : NRel K F kvs xs) : (atKey xs k).isSome = hasKD k kvs := by
  unfold NRel at r
  induction r with
  | nil => rfl
  | @cons p q ps qs h t ih =>
    obtain ⟨h1, _⟩ := h
    obtain ⟨g, d⟩ := p
    dsimp only at h1
    show _ = if g = k then true else hasKD k ps
    by_cases e : g = k
    · have e' : q.1 = k := h1.symm.trans e
      have b : atKey (q :: qs) k = some q.2 := by simp [atKey, List.find?_cons, e']
      rw [b, if_pos e]; rfl
    · have e' : ¬ q.1 = k := fun z => e (h1.trans z)
      have b : atKey (q :: qs) k = atKey qs k := by simp [atKey, List.find?_cons, e']
      rw [b, if_neg e, ih]
theorem nrel_set {k : NestedKey} {d : D} {v : V} {u : Value} (rd : Rep K F d v) (ru : RelV v u) {kvs : List (NestedKey × D)} {xs : List (NestedKey × Addr × Value)} (r : NRel K F kvs xs) : NRel K F (setKD k d kvs) (xs.map (putAt k u)) := by
  unfold NRel at r ⊢
  induction r with
  | nil => exact .nil
  | @cons p q ps qs h t ih =>
    obtain ⟨h1, h2, h3, h4⟩ := h
    obtain ⟨g, d'⟩ := p
    dsimp only at h1 h4
    show Paired _ (if g = k then (g, d) :: setKD k d ps else (g, d') :: setKD k d ps) (putAt k u q :: qs.map (putAt k u))
    unfold putAt
    by_cases e : g = k
    · rw [if_pos e, if_pos (h1.symm.trans e)]
      exact .cons ⟨h1, h2, h3, v, rd, ru⟩ ih
    · rw [if_neg e, if_neg (fun z => e (h1.trans z))]
      exact .cons ⟨h1, h2, h3, h4⟩ ih
theorem nrel_put {k : NestedKey} {b : Addr} {d : D} {v : V} {u : Value} (kk : NV F k (.ref b)) (kd : k.depth ≤ 8) (rd : Rep K F d v) (ru : RelV v u) {kvs : List (NestedKey × D)} {xs : List (NestedKey × Addr × Value)} (r : NRel K F kvs xs) : NRel K F (putKD kvs k d) (storedH xs k b u) := by
  unfold putKD storedH
  rw [nrel_has r]
  split
  · exact nrel_set rd ru r
  · exact Paired.snoc r ⟨rfl, kk, kd, v, rd, ru⟩
theorem nrel_keys {B : Base} {W : WS} {H : Hp} (S : Stt K B F W H) {kvs : List (NestedKey × D)} {xs : List (NestedKey × Addr × Value)} (r : NRel K F kvs xs) : NKeys H xs := by
  unfold NRel at r
  induction r with
  | nil => intro x hx; cases hx
  | @cons p q ps qs h t ih =>
    intro x hx
    rcases List.mem_cons.mp hx with rfl | hx
    · exact ⟨NV.mono (fun b vs hb => S.rd hb) _ _ h.2.1, h.2.2.1⟩
    · exact ih x hx
end
section
variable {X : Cx} {B : Base} {E : XK}
theorem obj_dN {pins : List (Addr × Obj)} {σ : L2.St} {s : Shared} {F : Hp} {W : WS} {H : Hp} (I : Inv X pins σ H s) (S : Stt X.K B F W H) {a : Addr} {kvs : List (NestedKey × D)} (h : W a = some (.dN kvs)) : ∃ xs, H a = some (nestO a xs) ∧ NRel X.K F kvs xs := by
  obtain ⟨_, o, ho, ro⟩ := S.obj a _ h
  cases ro with
  | @dN c _ xs r =>
    have := nest_at (I.hok a _ ho)
    subst this
    exact ⟨xs, ho, r⟩
/-- k not in d -/
def fNotInN : F2 := fun d1 d2 W P => ∃ a kvs k, d2 = .obj a ∧ W a = some (.dN kvs) ∧ nkD d1 = some k ∧ k.depth ≤ 8 ∧ (∃ ks, k = .tup ks) ∧ P (.bl (!hasKD k kvs))
theorem nv_ref {F : Hp} {ks : List NestedKey} {v : V} (h : NV F (.tup ks) v) : ∃ b, v = .ref b := by cases h; exact ⟨_, rfl⟩
theorem o_notInN (hu : X.A.units + 9 < cLine) : OpR X (compareOp .NotIn) (rD X.K B fNotInN) := by
  intro pins s σ H x y v u Q I rx ry ⟨F, W, d1, d2, P, S, r1, r2, ⟨a, kvs, k, e2, hw, hk, kd, ⟨ks, ek⟩, h⟩, o⟩
  subst e2
  cases r2
  obtain rfl : u = Value.ref a := ry
  obtain ⟨xs, hx, rel⟩ := obj_dN I S hw
  have kk := nk_rep d1 x k r1 hk
  subst ek
  obtain ⟨b, rfl⟩ := nv_ref kk
  obtain rfl : v = Value.ref b := rx
  refine n_notIn hu I hx (nrel_keys S rel) (NV.mono (fun b vs hb => S.rd hb) _ _ kk) kd fun s' I' => ?_
  rw [nrel_has rel]
  exact ⟨.bl _, H, I', rfl, out0 S o h (.bl _)⟩
/-- d[k], there -/
def fGetN : F2 := fun d1 d2 W P => ∃ a kvs k d, d1 = .obj a ∧ W a = some (.dN kvs) ∧ nkD d2 = some k ∧ k.depth ≤ 8 ∧ (∃ ks, k = .tup ks) ∧ getKD k kvs = some d ∧ P d
/-- d[k] = v -/
def rSetN (K : Fg) (B : Base) : TSet := fun o i v H Q => ∃ F W a kvs k q d, ∃ P : Ob → Prop, Stt K B F W H ∧ o = .ref a ∧ W a = some (.dN kvs) ∧ Rep K F k i ∧ Rep K F d v ∧ nkD k = some q ∧ q.depth ≤ 8 ∧ (∃ ks, q = .tup ks) ∧ kvs.length < sizeLine ∧ P (.dN (putKD kvs q d)) ∧ ∀ ob' H', P ob' → Stt K B F (W.put a ob') H' → Q H'
theorem set_n (hu : X.A.units + 9 < cLine) : PSet X (rSetN X.K B) := by
  intro pins s σ H o i v ov iv u Q I ro ri rv ⟨F, W, a, kvs, k, q, d, P, S, eo, hw, rk, rd, hq, qd, ⟨ks, eq⟩, hl, p, hQ⟩
  subst eo
  obtain rfl : ov = Value.ref a := ro
  obtain ⟨xs, hx, rel⟩ := obj_dN I S hw
  have kk := nk_rep k i q rk hq
  subst eq
  obtain ⟨b, rfl⟩ := nv_ref kk
  obtain rfl : iv = Value.ref b := ri
  refine n_set hu I hx (nrel_keys S rel) (NV.mono (fun b vs hb => S.rd hb) _ _ kk) qd (by rw [← Paired.length rel]; exact hl) fun s' I' => ?_
  exact ⟨_, I', hQ _ _ p (S.write hw (.dN (nrel_put kk qd rd rv rel)))⟩
/-- d[k] = v, d an object of the store with nested keys -/
def wSetIxN (te to ti : WE) : WStm := fun PX D env W => te PX env W fun d env1 W1 => to PX env1 W1 fun x env2 W2 => ti PX env2 W2 fun k env3 W3 => ∃ a kvs q, x = .obj a ∧ W3 a = some (.dN kvs) ∧ nkD k = some q ∧ q.depth ≤ 8 ∧ (∃ ks, q = .tup ks) ∧ kvs.length < sizeLine ∧ D.nx env3 (W3.put a (.dN (putKD kvs q d)))
theorem S_setIxN {o i e : Expr} {te to ti : WE} {tpos pos : Pos} (hu : X.A.units + 9 < cLine) (he : PE X e (liftE X.K B E te)) (ho : PE X o (liftE X.K B E to)) (hi : PE X i (liftE X.K B E ti))
    (ha : ∀ v, assign (.Subscript o i tpos) X.env v = (do
      let ov ← holding [v] (eval o X.env)
      let iv ← holding [v, ov] (eval i X.env)
      standAt tpos
      holding [v, ov, iv] (setItem ov iv v)
      release [v, ov, iv] []))
    (hs : swapsWithSole [.Subscript o i tpos] e pos.line X.env = pure false) (hw : swappedStores [.Subscript o i tpos] e X.env = pure none) (h1 : (assignEach [.Subscript o i tpos] X.env).map (·.2) = [assign (.Subscript o i tpos) X.env]) :
    PS X (.Assign [.Subscript o i tpos] e pos) (liftS X.K B E (wSetIxN te to ti)) :=
  psW (ps_asg he (pg_sub ho hi (set_n hu) ha) hs hw h1) fun D σ H ⟨F, env, W, P, PX, S, hE, h, hX, h1, h2, h3, h4⟩ => by
    refine ⟨F, env, W, _, PX, S, hE, h, hX, fun d env1 W1 F1 H1 v p1 S1 l1 e1 r1 => ?_⟩
    refine ⟨F1, env1, W1, _, PX, S1, e1, p1, hX.mono l1, fun x env2 W2 F2 H2 xv p2 S2 l2 e2 r2 => ?_⟩
    refine ⟨F2, env2, W2, _, PX, S2, e2, p2, hX.mono (l1.trans l2), fun k env3 W3 F3 H3 kv ⟨a, kvs, q, ex, hw, hq, qd, qt, hl, p3⟩ S3 l3 e3 r3 => ?_⟩
    subst ex
    cases r2
    exact ⟨F3, W3, a, kvs, k, q, d, fun ob' => P.nx env3 (W3.put a ob'), S3, rfl, hw, r3, r1.mono (l2.trans l3), hq, qd, qt, hl, p3, fun ob' H' p T => h1 env3 _ F3 H' σ p T ((l1.trans l2).trans l3) e3⟩
/-- {} that becomes a dict with nested keys -/
def wBoxN : WE := fun PX env W P => ∀ a, W a = none → P (.obj a) env (W.put a (.dN []))
theorem upd_upd {H : Hp} {a : Addr} {o u : HO} : upd (upd H a o) a u = upd H a u := by
  funext b
  by_cases c : b = a
  · subst c; rw [upd_same, upd_same]
  · rw [upd_ne c, upd_ne c, upd_ne c]
theorem s_boxN {pos : Pos} : PE X (.Dict [] [] pos) (liftE X.K B E wBoxN) := by
  refine ⟨fun pins s σ H Q I ⟨F, env, W, P, PX, S, hE, hp, hX, hQ⟩ => ?_⟩
  refine thn (pe_dnewK.run pins s σ H (fun v H' => ∃ a, v = .ref a ∧ H a = none ∧ H' = upd H a (.dK [])) I (fun a ha => ⟨a, rfl, ha, rfl⟩)) fun u s' ⟨v, H', I', rv, a, ev, ha, eH⟩ => ?_
  subst ev eH
  refine ⟨.ref a, _, n_recast I' upd_same, rv, ?_⟩
  rw [upd_upd]
  obtain ⟨g1, g2, g3, g4⟩ := laidF (o := nestO a []) S ha
  exact hQ (.obj a) env _ F _ _ (hp a g3) (g1.box upd_same g2 g4 (.dN .nil)) (Le.refl _) hE (.obj a)
theorem i_dictN {value slice : Expr} {pins : List (Addr × Obj)} {s : Shared} {σ : L2.St} {H : Hp} {a b : Addr} {k : NestedKey} {xs : List (NestedKey × Addr × Value)} {p : Addr × Value} {z : V} {Q : VK} (hu : X.A.units + 9 < cLine) (I : Inv X pins σ H s) (e : H a = some (nestO a xs)) (hk : NKeys H xs) (kk : NV H k (.ref b)) (kd : k.depth ≤ 8) (hp : atKey xs k = some p) (rz : RelV z p.2) (q : Q z H)
    (hs : subscripted slice false (.ref a) (.ref b) = operate [.ref a, .ref b] (getItem (.ref a) (.ref b))) : wpAny (model X.prog X.w) X.A (subscriptTail value slice (.ref a) (.ref b)) (EP X pins σ Q) X.xe s := by
  have hT : s.TypeIs (.ref a) "dict" := (nest_of I.hok e hk).2.2.typeIs
  unfold subscriptTail
  refine wpAny_bind ?_
  rw [getitemInPython_of_ne hT.not_modules]
  refine wpAny_bind (wpAny_specialOf hT PySem.F.slot_dict_getitem.lookup ?_)
  have fin : wpAny (model X.prog X.w) X.A (subscripted slice false (.ref a) (.ref b)) (fun r s₃ => wpAny (model X.prog X.w) X.A (letTemporaryGo value (.ref a) r >>= fun _ => pure r) (EP X pins σ Q) X.xe s₃) X.xe s := by
    rw [hs]
    refine wpAny_operating (n_get hu I e hk kk kd hp fun s3 I3 => ?_)
    exact wpAny_bind (wpAny_letTemporaryGo (wpAny_pure ⟨z, H, I3, rz, q⟩))
  first
    | exact wpAny_pure (wpAny_bind fin)
    | exact wpAny_bind (wpAny_pure (wpAny_bind fin))
    | exact wpAny_bind fin
theorem i_getN (hu : X.A.units + 9 < cLine) : IxR X (rD X.K B fGetN) := by
  intro value slice pins s σ H x y v u Q I rx ry ⟨F, W, d1, d2, P, S, r1, r2, ⟨a, kvs, k, d, e1, hw, hk, kd, ⟨ks, ek⟩, hg, p⟩, o⟩ hs'
  subst e1
  cases r1
  obtain rfl : v = Value.ref a := rx
  obtain ⟨xs, hx, rel⟩ := obj_dN I S hw
  have kk := nk_rep d2 y k r2 hk
  subst ek
  obtain ⟨b, rfl⟩ := nv_ref kk
  obtain rfl : u = Value.ref b := ry
  obtain ⟨q, z, h1, h2, h3⟩ := (nrel_get rel).1 d hg
  exact i_dictN hu I hx (nrel_keys S rel) (NV.mono (fun b vs hb => S.rd hb) _ _ kk) kd h1 h3 (out0 S o p h2) hs'
theorem s_getN {a b : Expr} {ta tb : WE} {pos : Pos} (hu : X.A.units + 9 < cLine) (ha : PE X a (liftE X.K B E ta)) (hb : PE X b (liftE X.K B E tb)) (hs : PlainIx b) : PE X (.Subscript a b pos) (liftE X.K B E (wBin fGetN ta tb)) :=
  peW (pe_ix (i_getN hu) ha hb hs) fun σ H Q h => liftE_bin h
theorem Sit.hu9 {k : Nat} (T : Sit X E k) : X.A.units + 9 < cLine := by have := T.hu; omega
section
variable {k : Nat} {a b o e : Expr} {ta tb tc : WE} {pos tpos : Pos}
theorem getN_ (T : Sit X E k) (ha : PE X a (liftE X.K B E ta)) (hb : PE X b (liftE X.K B E tb)) (hs : PlainIx b := by intro _ _; rfl) : PE X (.Subscript a b pos) (liftE X.K B E (wBin fGetN ta tb)) := s_getN T.hu9 ha hb hs
theorem setIxN_ (T : Sit X E k) (he : PE X e (liftE X.K B E ta)) (ho : PE X o (liftE X.K B E tb)) (hi : PE X a (liftE X.K B E tc))
    (ha : ∀ v, assign (.Subscript o a tpos) X.env v = (do
      let ov ← holding [v] (eval o X.env)
      let iv ← holding [v, ov] (eval a X.env)
      standAt tpos
      holding [v, ov, iv] (setItem ov iv v)
      release [v, ov, iv] []) := by intro _; rfl)
    (hs : swapsWithSole [.Subscript o a tpos] e pos.line X.env = pure false := by rfl) (hw : swappedStores [.Subscript o a tpos] e X.env = pure none := by rfl) (h1 : (assignEach [.Subscript o a tpos] X.env).map (·.2) = [assign (.Subscript o a tpos) X.env] := by rfl) :
    PS X (.Assign [.Subscript o a tpos] e pos) (liftS X.K B E (wSetIxN ta tb tc)) := S_setIxN T.hu9 he ho hi ha hs hw h1
end
end
end DL

set_option maxRecDepth 100000
set_option maxHeartbeats 4000000
set_option linter.all false
namespace DL
open PySem PySem.Spec PyProof.Rows L2
/-! ## an own exception over a class over ValueError whose __init__ says super().__init__(value) and keeps the value -/
/-- the text of such an __init__ -/
structure GrowSt (body : List Stmt) : Prop where
  ex : ∃ (p0 p1 p2 p3 p4 p5 p6 p7 p8 p9 : Pos) (pl : Env → Sem Bool), (∀ env : Env, eval (.Call (.Attribute (.Call (.Name "super" p0) [] [] p1) "__init__" p2) [.Name "value" p3] [] p4) env = (do
      let ov ← attributeBase (.Call (.Name "super" p0) [] [] p1) "__init__" env (eval (.Call (.Name "super" p0) [] [] p1) env)
      standAt p2.atName
      let (f, first) ← holding [ov] (getMethod ov "__init__" (pl env))
      callWith p4 f first (backTo p4 (starEach [.Name "value" p3] env)) [])) ∧
    body = [.Expr (.Call (.Attribute (.Call (.Name "super" p0) [] [] p1) "__init__" p2) [.Name "value" p3] [] p4) p5,
    .Assign [.Attribute (.Name "self" p6) "value" p7] (.Name "value" p8) p9]
/-- what is to be seen of its def -/
structure GrowSc (st : Stmt) : Prop where
  par : ((defArgs st).posonlyargs ++ (defArgs st).args).head?.map (·.arg) = some "self"
  body : GrowSt (defBody st)
  nocell : ∀ x ∈ (defScope st).names, x.2 ≠ .cell
  ks : (defScope st).names.lookup ("super" : Str) = some .globalImplicit
  kc : (defScope st).names.lookup ("__class__" : Str) = some .free
  k1 : (defScope st).names.lookup ("self" : Str) = some .local
  k2 : (defScope st).names.lookup ("value" : Str) = some .local
  kind : (defScope st).kind = .function
  co : (defScope st).isCoroutine = false
  gen : (defScope st).isGenerator = false
structure GrowFn (P : Program) (K : Fg) (mg : Str → Option Value) (st : Stmt) (fI D : Addr) : Prop where
  ex : ∃ (qual : Str) (dV kV doc pm ct oc cl ccl : Value) (an od cld cdd : Option Addr) (osl csl ccs : Array (Option Value)) (cda cc : Addr) (vs : Array Value) (file : Str) (tf : Tok),
    K.lookup fI = some ⟨oc, od, .func (PySem.W.ksFn "__init__" qual (defArgs st) (defBody st) (defScope st) dV kV doc pm an (.ref cda) ct cc), osl⟩ ∧
    PySem.W.codeIn K (.ref cda) qual = true ∧ K.lookup cda = some ⟨ccl, cdd, .fields vs, ccs⟩ ∧ vs[2]? = some (.str file tf) ∧ ((P.main.file : Str) == file) = true ∧
    K.lookup cc = some ⟨cl, cld, .cell (some (.ref D)), csl⟩ ∧
    (∀ (s : Shared) (a b : Value), BindsTo s (PySem.W.ksFn "__init__" qual (defArgs st) (defBody st) (defScope st) dV kV doc pm an (.ref cda) ct cc) ⟨[a, b], []⟩ [("self", a), ("value", b)])
  sc : GrowSc st
  top : (P.main.scope.names.lookup ("super" : Str)).isSome = false
  mgs : mg "super" = none
  clD : (PySem.W.clsIn K D).isSome = true
  stat : PySem.W.nsIn K cStatics "thirdparty.any" = some none
/-- what the written part says of one such class -/
structure GrowC (K : Fg) (fI D C : Addr) : Prop where
  T : OexC K C
  iC : PySem.W.findIn K (.ref C) "__init__" = some (some (.ref fI))
  tI : PySem.W.typeIn K (.ref fI) = some (.type "function")
  sub : PySem.W.mroIn K C (.ref D) = some true
  sup : PySem.W.ks_superIn K C D "__init__" = some (some (.builtin "ValueError.__init__"))
  noV : PySem.W.findIn K (.ref C) "value" = some none
  subV : PySem.W.subIn K (.ref C) (.type "ValueError") = some true
section
open PySem.W
variable {prog : Program} {w : World} {A : Around} {E : Value → Shared → Prop} {h : Heap} {g : Array GenState} {d : Drawn} {t : Nat} {os : OsState}
/-- ValueError.__init__, bound to the object, called -/
theorem mw_call {nm q : Str} {C N : Addr} {bs bm : List Value} {hdct : Bool} {sn : List Str} {sub : List Value} {ab : Bool} {col : Option Bool} {dd : Option Addr} {k0 k1 k2 k3 k5 : Option Value} {u x t0 : Addr} {rest : List Value} {Q : Value → Shared → Prop}
    (hC : h.get? C = some (excClassObj nm q C N bs bm hdct sn sub ab col dd k0 k1 k2 k3 k5 "ValueError.__new__")) (he : h.get? x = some (PySem.HandSPX.excO C t0)) (hu : h.get? u = some (kxs_mw "ValueError.__init__" x)) (hrest : rest.length ≤ sizeLine)
    (hq : ∀ h' t1, (∀ b o, b ≠ x → h.get? b = some o → h'.get? b = some o) → h'.get? x = some (PySem.HandSPX.excO C t1) → Q .none ⟨h', g, d, t, os⟩) :
    wpAny (model prog w) A (call (.ref u) rest) Q E ⟨h, g, d, t, os⟩ := by
  refine wpAny_call (codeAny_of_tree ?_)
  show wpAny _ A.in1 (callAny (.ref u) ⟨rest, []⟩) _ _ _
  simp only [callAny]
  refine wpAny_bind (wpAny_load hu ?_)
  simp only [kxs_mw, show (Value.type "method-wrapper" == Value.type "method" || Value.type "method-wrapper" == Value.type "builtin_function_or_method" || Value.type "method-wrapper" == Value.type "method-wrapper") = true by decide, if_true]
  refine KFB.if_so (by decide) ?_
  refine wpAny_bind (check_bound_init F.excBase_ValueError.toExcCallFacts hC he rfl ?_)
  refine wpAny_bind (wpAny_pure (wpAny_pure ?_))
  refine ⟨plainId_quiet F.excBase_ValueError.init.plain _, codeAny_builtin F.excBase_ValueError.initEntry ?_⟩
  exact exc_init_tree (cls := .ref C) (t0 := t0) (dv := none) (c2 := .none) (c3 := .none) (b4 := .bool false) he hrest fun h' k e' t' => hq h' _ k e'
theorem grow_init {K : Fg} {mg : Str → Option Value} {st : Stmt} {fI D C x t0 : Addr} {base : Heap} {R : Result → Shared → Prop} {u : Value}
    (G : GrowFn prog K mg st fI D) (GC : GrowC K fI D C) (M : Mod K mg base) (bk : ∀ b o, base.get? b = some o → h.get? b = some o) (hroom : A.depth < recursionLimit) (hbx : base.get? x = none)
    (hx : h.get? x = some (PySem.HandSPX.excO C t0))
    (hq : ∀ h' t' tk' dx, (∀ b o, b ≠ x → h.get? b = some o → h'.get? b = some o) → h.objs.size ≤ dx → h'.get? x = some { cls := .ref C, dict := some dx, data := .fields #[.ref t', .none, .none, .none, .bool false, .none] } →
      h'.Ns1 dx (fun y => if y = "value" then some u else none) → R (.ok (.ret .none)) ⟨h', g, d, tk', os⟩) :
    codeAny (model prog w) A (.call (.ref fI) ⟨[.ref x, u], []⟩) R ⟨h, g, d, t, os⟩ := by
  obtain ⟨⟨qual, dV, kV, doc, pm, ct, oc, cl, ccl, an, od, cld, cdd, osl, csl, ccs, cda, cc, vs, file, tf, hf, hcd, hcode, hvs, hfile, hcell, hb1⟩, ⟨hpar, ⟨p0, p1, p2, p3, p4, p5, p6, p7, p8, p9, pl, hpl, hbody⟩, hnc, hks, hkc, hk1, hk2, hkind, hco, hgen⟩, htop, hmgs, hclD, hstat⟩ := G
  revert hf hb1
  generalize defBody st = body at hbody ⊢
  intro hf hb1
  subst hbody
  obtain ⟨nm, q, N, bs, bm, sn, sub, ab, col, dd, k0, k1, k2, k3, k5, hC, hbm⟩ := GC.T.cls
  have hcl : clsIn K C = some { name := nm, bases := bs, mro := .ref C :: bm, ns := N, qualname := q, hasDict := true, slotNames := sn, subclasses := sub, abstract := ab, collection := col, hasDel := false } := by unfold clsIn; rw [hC] <;> rfl
  obtain ⟨cdD, hD⟩ := Option.isSome_iff_exists.mp hclD
  obtain ⟨mb, hmb, hbb⟩ := M.blt
  have X0 : K.In h := M.kin.keeps bk
  have xL : x < h.objs.size := Heap.lt_size hx
  refine ks_codeAny_call_defAt (fd := ksFn "__init__" qual (defArgs st) _ (defScope st) dV kV doc pm an (.ref cda) ct cc) hroom (X0 _ _ hf) rfl (M.nolimit.keeps bk) (codeRec_of X0 hcd) rfl (hb1 _ _ _) hnc
    (fun y hy => by
      rcases List.mem_cons.mp hy with e | hy
      · subst e; exact hk1
      · rcases List.mem_cons.mp hy with e | hy
        · subst e; exact hk2
        · cases hy) (fun h1 hns hk1' => ?_) hco hgen hkind
  have bk1 : ∀ b o, base.get? b = some o → h1.get? b = some o := fun b o e => hk1' b o (bk b o e)
  have X1 : K.In h1 := M.kin.keeps bk1
  refine ks_wpAt_execs_cons (ks_wpAt_Expr_any (ks_wpAt_MethodCall ?_ (hpl _)) (by
    unfold interactive
    rw [show (callEnv (ksFn "__init__" qual (defArgs st) _ (defScope st) dV kV doc pm an (.ref cda) ct cc) h.objs.size fI).scope.kind = .function from hkind]
    rfl))
  obtain ⟨oD, hD1, hD2⟩ : ∃ oD, h1.get? D = some oD ∧ oD.data = .cls cdD := by
    unfold clsIn at hD
    split at hD
    · rename_i c d cd' sl ho
      cases hD
      exact ⟨_, X1 _ _ ho, rfl⟩
    · cases hD
  obtain ⟨ar, har, harn⟩ : ∃ ar, ((defArgs st).posonlyargs ++ (defArgs st).args).head? = some ar ∧ ar.arg = "self" := by
    cases e : ((defArgs st).posonlyargs ++ (defArgs st).args).head? with
    | none => rw [e] at hpar; cases hpar
    | some ar => rw [e] at hpar; exact ⟨ar, rfl, Option.some.inj hpar⟩
  have hx1 : h1.get? x = some (PySem.HandSPX.excO C t0) := hk1' _ _ hx
  have xC : x ≠ C := fun e => by
    have z := X0 _ _ hC
    rw [← e, hx] at z
    cases z
  have hboot : bootBuiltins "super" = some (.type "super") := by first | rfl | kernel_rfl
  refine ks_wpAt_super_base (env := ksEnv qual (defScope st) h.objs.size fI (.ref cda) cc) hks hkc rfl rfl (X1 _ _ hf) rfl har rfl (X1 _ _ hcode) rfl hvs hfile htop ?_
  refine ks_loadName_global hkind hks (Calls.loadGlobal_builtin (env := ksEnv qual (defScope st) h.objs.size fI (.ref cda) cc) (M.glob.keeps bk1) hmgs (hmb.keeps bk1) ((hbb _ (by decide)).trans hboot) ⟨rfl, ?_⟩)
  refine wpAny_loadName_free hkind hkc rfl ⟨_, X1 _ _ hcell, rfl⟩ ?_
  rw [harn]
  refine wpAny_loadName_local hkind hk1 hns rfl ?_
  refine ks_wpAny_isType_cls hD1 hD2 ⟨rfl, ?_⟩
  refine ks_wpAny_call_super hD1 hD2 hx1 rfl (fun c e => by cases e) (looks_mroIn X1 GC.sub) (fun h2 e2 k2 => ?_)
  have bk2 : ∀ b o, base.get? b = some o → h2.get? b = some o := fun b o e => k2 b o (bk1 b o e)
  have X2 : K.In h2 := M.kin.keeps bk2
  have hx2 : h2.get? x = some (PySem.HandSPX.excO C t0) := k2 _ _ hx1
  have I2 : InstAt h2 x (PySem.HandSPX.excO C t0) C none := ⟨hx2, rfl, rfl, trivial⟩
  have hsup : alongIn K "__init__" ((({ name := nm, bases := bs, mro := .ref C :: bm, ns := N, qualname := q, hasDict := true, slotNames := sn, subclasses := sub, abstract := ab, collection := col, hasDel := false } : ClassData).mro.dropWhile (· != .ref D)).drop 1) = some (some (.builtin "ValueError.__init__")) := by
    have z := GC.sup
    unfold ks_superIn at z
    rw [hcl] at z
    exact z
  refine kxs_getMethod kxs_ValueError e2 (looks_opaque X2 hstat) (l₀ := .ref C :: bm) (fun A Q E s k q => wpAny_bind ((looks_clsIn X2 hcl) A _ E s k (wpAny_pure q))) rfl X2 hsup (I2.type.andThen (looks_subIn X2 GC.subV)) xC rfl ?_
  have k3 : ∀ b o, h2.get? b = some o → (h2.push (kxs_mw "ValueError.__init__" x)).get? b = some o := fun b o e => Heap.get?_push_of_some _ e
  have hns3 : (h2.push (kxs_mw "ValueError.__init__" x)).Ns h.objs.size (fun y => ([("self", Value.ref x), ("value", u)] : List (Str × Value)).reverse.lookup y) := (hns.keeps k2).keeps k3
  have hmw : (h2.push (kxs_mw "ValueError.__init__" x)).get? h2.objs.size = some (kxs_mw "ValueError.__init__" x) := Heap.get?_push_at rfl rfl
  show wpAny _ _ (callWith p4 (.ref h2.objs.size) [] (backTo p4 (starEach [.Name "value" p3] _)) []) _ _ _
  refine kxs_callWith (i := "ValueError.__init__") (x := x) rfl (Calls.evalArgs_plain ?_)
  show wpAny _ _ (spliced (backTo p4 (starEach [.Name "value" p3] _))) _ _ _
  refine Calls.spliced_cons ?_
  refine wpAny_Name (wpAny_loadName_local hkind hk2 hns3 (v := u) rfl ?_) (by decide)
  refine Calls.spliced_nil ⟨hmw, ?_⟩
  refine mw_call (k3 _ _ (X2 _ _ hC)) (k3 _ _ hx2) hmw (by rw [sizeLine_eq]; show 1 ≤ _; omega) fun h4 t4 k4 hx4 => ?_
  have k04 : ∀ b o, b ≠ x → h1.get? b = some o → h4.get? b = some o := fun b o hb e => k4 b o hb (k3 b o (k2 b o e))
  have bk4 : ∀ b o, base.get? b = some o → h4.get? b = some o := fun b o e => by
    refine k04 b o (fun z => ?_) (bk1 b o e)
    rw [z, hbx] at e
    cases e
  have X4 : K.In h4 := M.kin.keeps bk4
  have hns4 : h4.Ns h.objs.size (fun y => ([("self", Value.ref x), ("value", u)] : List (Str × Value)).reverse.lookup y) := by
    obtain ⟨o, es, ep, z1, z2⟩ := hns
    exact ⟨o, es, ep, k04 _ _ (Nat.ne_of_gt xL) z1, z2⟩
  show _root_.PySem.wpAt _ _ _ (execs [.Assign [.Attribute (.Name "self" p6) "value" p7] (.Name "value" p8) p9] _) _ _ _
  refine ks_wpAt_execs_cons (ks_wpAt_Assign_Attr ?_)
  refine wpAt_of_wpAny (wpAny_Name (wpAny_loadName_local hkind hk2 hns4 (v := u) rfl ?_) (by decide))
  refine wpAny_Name (wpAny_loadName_local hkind hk1 hns4 (v := .ref x) rfl ?_) (by decide)
  refine set_plain X4 (ox := PySem.HandSPX.excO C t4) (od := none) ⟨hx4, rfl, rfl, trivial⟩ GC.T.sa ?_
  refine PySem.HandSPX.exc_osa X4 hx4 hcl (show PySem.HandSPX.refsVE (.ref C :: bm) = true from hbm) rfl GC.noV (fun h5 tk5 dx k5 dn dne hx5 hn5 => ?_)
  refine wpAt_of_wpAny (wpAny_execs_nil ?_)
  exact hq _ _ _ dx (fun b o hb e => k5 b o hb (k04 b o hb (hk1' b o e))) (Nat.le_trans (Nat.le_of_lt hns4.lt) dn) hx5 hn5
end
end DL

set_option maxRecDepth 100000
set_option maxHeartbeats 4000000
set_option linter.all false
namespace DL
open PySem PySem.Spec PyProof.Rows L2
/-- InvalidRow(e), to be raised -/
def tGrow (C : Addr) (ta : TA) : L2.St → Hp → XK → Prop := fun σ H Q => ta σ H fun vs H1 => ∃ v, vs = [v] ∧ ∀ d, H1 d = none → Q (.ref C) (some d) (upd H1 d (.xd [("value", v)]))
section
variable {X : Cx} {pins : List (Addr × Obj)} {σ : L2.St} {e : Expr} {es : List Expr} {ta : TA} {x : Str} {p pos : Pos} {st : Stmt} {fI D C : Addr} {k : Nat}
theorem xd_eq {H1 : Hp} {a d : Addr} {C : Addr} {fs : List (Str × V)} (hn : H1 a = none) (hda : d ≠ a) :
    upd (del (upd (upd (upd H1 a (exo a C none)) d (exd d fs)) a (exo a C (some d))) a) d (.xd fs) = upd H1 d (.xd fs) := by
  funext b
  by_cases hb : b = d
  · subst hb; rw [upd_same, upd_same]
  · rw [upd_ne hb, upd_ne hb]
    by_cases hc : b = a
    · subst hc; rw [del_same, hn]
    · rw [del_ne hc, upd_ne hc, upd_ne hb, upd_ne hc]
theorem pmk_grow (G : GrowFn X.prog X.K X.mg st fI D) (GC : GrowC X.K fI D C) (hr : Room (k + 1) X.A) (hg : Gl X x) (hm : X.mg x = some (.ref C)) (ha : PA X (e :: es) ta)
    (hdb : (x == ("__debug__" : Str)) = false := by decide) (he : starEach (e :: es) X.env = (false, eval e X.env) :: starEach es X.env := by rfl) (hpl : (backTo pos (starEach es X.env)).any (·.1) = false := by rfl) :
    PMk X (.Call (.Name x p) (e :: es) [] pos) (tGrow C ta) := by
  intro pins s σ H Q I h
  have T := GC.T
  obtain ⟨nm, q, N, bs, bm, sn, sub, ab, col, dd, k0, k1, k2, k3, k5, hC, hbm⟩ := T.cls
  refine wpAny_Call_Name_kw (ld_glob I hg hm ?_ hdb)
  refine PySem.W.callWith_K (h₀ := X.base) I.ok.mod.kin T.kC (thn (ha.run pos pins s σ H _ I h) fun us s1 ⟨vs, H1, I1, r1, v, ev, q1⟩ => ⟨I1.kIn, ?_⟩) he hpl
  subst ev
  obtain ⟨u, rfl, ru⟩ : ∃ u, us = [u] ∧ RelV v u := by
    cases r1 with
    | cons r1 r2 => cases r2; exact ⟨_, rfl, r1⟩
  show wpAny _ _ (call (.ref C) [u]) _ _ _
  obtain ⟨hp, g, dr, tk, os⟩ := s1
  have hsz : hp.objs.size ≤ hp.objs.size + 1 := Nat.le_succ _
  have hn : H1 (hp.objs.size + 1) = none := I1.hok.fresh hsz
  have kk : ∀ b o, hp.get? b = some o → ((hp.push (PySem.W.kdv_tup [u])).push (PySem.HandSPX.excO C hp.objs.size)).get? b = some o := fun b o e => Heap.get?_push_of_some _ (Heap.get?_push_of_some _ e)
  have hget : ((hp.push (PySem.W.kdv_tup [u])).push (PySem.HandSPX.excO C hp.objs.size)).get? (hp.objs.size + 1) = some (PySem.HandSPX.excO C hp.objs.size) := by heap_get
  have I2 : Inv X pins σ (upd H1 (hp.objs.size + 1) (exo (hp.objs.size + 1) C none)) ⟨(hp.push (PySem.W.kdv_tup [u])).push (PySem.HandSPX.excO C hp.objs.size), g, dr, tk, os⟩ :=
    I1.laid (t' := tk) (a := hp.objs.size + 1) (o := exo (hp.objs.size + 1) C none) (h' := (hp.push (PySem.W.kdv_tup [u])).push (PySem.HandSPX.excO C hp.objs.size)) kk hsz (exo_ok hget)
  have hss : ((hp.push (PySem.W.kdv_tup [u])).push (PySem.HandSPX.excO C hp.objs.size)).objs.size = hp.objs.size + 2 := by rw [Heap.size_push, Heap.size_push]
  generalize hh2 : (hp.push (PySem.W.kdv_tup [u])).push (PySem.HandSPX.excO C hp.objs.size) = hp2 at *
  refine wpAny_call (PySem.HandSPX.call_own F.excBase_ValueError (fun Y => PySem.HandSPX.refsVE_contains Y bm hbm) (I1.kIn _ _ hC) (PySem.W.looks_findIn I1.kIn GC.iC) (fun self => PySem.W.bind_fn I1.kIn self GC.tI) (by rw [sizeLine_eq]; show 1 ≤ _; omega) ?_)
  rw [hh2]
  refine grow_init (base := X.base) G GC I.ok.mod I2.bk (hr.make C [u] []).depth ?_ hget fun h2 t1 tk2 dx kx dn hx2 hn2 => ?_
  · cases z : X.base.get? (hp.objs.size + 1) with
    | none => rfl
    | some o =>
      have y := Heap.lt_size (I1.bk _ _ z)
      have y' : hp.objs.size + 1 < hp.objs.size := y
      omega
  have hda : dx ≠ hp.objs.size + 1 := by omega
  have hnd : H1 dx = none := I1.hok.fresh (show hp.objs.size ≤ dx by omega)
  have e : upd H1 (hp.objs.size + 1) (exo (hp.objs.size + 1) C none) (hp.objs.size + 1) = some (exo (hp.objs.size + 1) C none) := upd_same
  have hnd2 : upd H1 (hp.objs.size + 1) (exo (hp.objs.size + 1) C none) dx = none := by rw [upd_ne hda]; exact hnd
  have nd : ∀ {b : Addr} {o : Obj}, hp2.get? b = some o → b ≠ dx := fun {b o} q => Nat.ne_of_lt (Nat.lt_of_lt_of_le (Heap.lt_size q) dn)
  generalize hH : upd H1 (hp.objs.size + 1) (exo (hp.objs.size + 1) C none) = HA at *
  have na : ∀ {b : Addr}, HA b = none → b ≠ hp.objs.size + 1 := fun {b} n z => by
    rw [z, e] at n
    cases n
  have Un1 : Un (frs X.stack) [] HA (upd (upd HA dx (exd dx [("value", v)])) (hp.objs.size + 1) (exo (hp.objs.size + 1) C (some dx))) hp2 h2 := {
    keep := fun b o q n _ _ => kx b o (na n) q
    slot := fun b o q n _ _ => ⟨o.slots, kx b o (na n) q⟩
    free := fun b o q n _ => by rw [upd_ne (na n), upd_ne (nd q)]; exact n
    there := fun b o q _ => by
      by_cases hb : b = hp.objs.size + 1
      · exact ⟨_, by rw [hb]; exact hx2⟩
      · exact ⟨o, kx b o hb q⟩
    tups := fun b xs q => by rw [upd_ne (at_ne e q exo_tup), upd_ne (ne_of_none q hnd2)]; exact q
    frzs := fun b o v q => by rw [upd_ne (at_ne e q exo_frz), upd_ne (ne_of_none q hnd2)]; exact q
    tbls := fun b ps q => ⟨#[], by rw [upd_ne (at_ne e q exo_tbl), upd_ne (ne_of_none q hnd2), q]; simp⟩ }
  have hok2 : HOk X.prog X.w (upd (upd HA dx (exd dx [("value", v)])) (hp.objs.size + 1) (exo (hp.objs.size + 1) C (some dx))) h2 := fun b o q => by
    by_cases hb : b = hp.objs.size + 1
    · subst hb
      rw [upd_same] at q
      cases q
      exact exo_ok hx2
    · rw [upd_ne hb] at q
      by_cases hd : b = dx
      · subst hd
        rw [upd_same] at q
        cases q
        exact exd_ok hn2 (relO_put (fs := []) ru fun g => True.intro)
      · rw [upd_ne hd] at q
        exact (I2.hok b o q).stay (fun c v hc z => kx c v (by
            rcases hc with hc | hc
            · rw [hc]
              exact hb
            · exact at_ne e hc exo_own) z)
          (fun c hc => by rw [upd_ne (at_ne e hc exo_own), upd_ne (ne_of_none hc hnd2)]; exact hc) (fun c xs hc => by rw [upd_ne (at_ne e hc exo_tup), upd_ne (ne_of_none hc hnd2)]; exact hc)
  refine ⟨rfl, ?_⟩
  subst hH
  refine mk_end (raises_own T.exC T.tyC) I1 hsz kk Un1 hok2 rfl I1.bare upd_same (by rw [upd_ne hda, upd_same]) hnd ?_
  rw [xd_eq hn hda]
  exact q1 dx hnd
end
end DL

set_option maxRecDepth 100000
set_option maxHeartbeats 4000000
set_option linter.all false
namespace DL
open PySem PySem.Spec PyProof.Rows L2
/-! ## the errors of the program, by the names of their classes -/
def errN : List Str := ["InvalidPrime", "InvalidTerm", "InvalidRow", "InvalidNumber", "InvalidValue", "InvalidStretch", "InvalidSeen", "UnlikePrimes", "TooFar", "NothingToUndo", "Unreadable"]
def isErr (n m : Str) : Bool := n == m || m == "GrowthError"
/-- what must be seen of one such class: made, read, asked -/
structure ErrC (K : Fg) (fI D C : Addr) : Prop where
  gc : GrowC K fI D C
  ga : PySem.W.findIn K (.ref C) "__getattribute__" = some (some (.builtin "BaseException.__getattribute__"))
  gg : PySem.W.findIn K (.ref C) "__getattr__" = some none
  sb : PySem.W.subIn K (.ref C) (.type "BaseException") = some true
  hd : PySem.W.hasDictIn K C = true
  ha : PySem.W.findIn K (.ref C) "__class__" = some (some (.builtin "object.__class__"))
  hn : PySem.W.specialIn K (.builtin "object.__class__") "__get__" = some (some (.builtin "getset_descriptor.__get__"))
  ht : PySem.W.takesIn K (.builtin "object.__class__") = some true
  hm : PySem.W.mroIn K C (.type "object") = some true
  ve : PySem.W.kitOne K (.ref C) (.type "ValueError") = some true
structure ErrTab (P : Program) (K : Fg) (mg : Str → Option Value) : Prop where
  ex : ∃ (st : Stmt) (fI D : Addr), GrowFn P K mg st fI D ∧ XN K "GrowthError" D ∧ ∀ n ∈ errN, ∃ C, XN K n C ∧ ErrC K fI D C
  mgs : ∀ n C, (n ∈ errN ∨ n = "GrowthError") → XN K n C → mg n = some (.ref C)
  rel : ∀ n ∈ errN, ∀ m, (m ∈ errN ∨ m = "GrowthError") → ∀ C F, XN K n C → XN K m F → PySem.W.kitOne K (.ref C) (.ref F) = some (isErr n m)
  exm : ∀ n ∈ errN, ∀ m, (m ∈ errN ∨ m = "GrowthError") → ∀ C F, XN K n C → XN K m F → PySem.W.exmOne K (.ref C) (.ref F) = some (isErr n m)
theorem XN.inj {K : Fg} {n : Str} {C D : Addr} (h : XN K n C) (g : XN K n D) : C = D := by
  have z := h.symm.trans g
  cases z
  rfl
theorem ErrTab.at {P : Program} {K : Fg} {mg : Str → Option Value} (Z : ErrTab P K mg) {n : Str} (hn : n ∈ errN) : ∃ st fI D C, GrowFn P K mg st fI D ∧ XN K n C ∧ mg n = some (.ref C) ∧ ErrC K fI D C := by
  obtain ⟨st, fI, D, G, _, h⟩ := Z.ex
  obtain ⟨C, hx, hc⟩ := h n hn
  exact ⟨st, fI, D, C, G, hx, Z.mgs n C (.inl hn) hx, hc⟩
theorem ErrTab.cls {P : Program} {K : Fg} {mg : Str → Option Value} (Z : ErrTab P K mg) {n : Str} (hn : n ∈ errN ∨ n = "GrowthError") : ∃ C, XN K n C ∧ mg n = some (.ref C) := by
  rcases hn with hn | rfl
  · obtain ⟨st, fI, D, C, G, hx, hm, hc⟩ := Z.at hn; exact ⟨C, hx, hm⟩
  · obtain ⟨st, fI, D, G, hx, h⟩ := Z.ex; exact ⟨D, hx, Z.mgs _ D (.inr rfl) hx⟩
/-! ## raise -/
def wRaise (n : Str) (t : WE) : WStm := fun PX D env W => t PX env W fun d _ W1 => PX n d W1
section
variable {X : Cx} {B : Base} {E : XK} {k : Nat} {n : Str} {e : Expr} {te : WE} {p pos pos' : Pos}
theorem S_raise (Z : ErrTab X.prog X.K X.mg) (T : Sit X E k) (hk : 1 ≤ k) (hn : n ∈ errN) (he : PE X e (liftE X.K B E te)) (hg : Gl X n := by rfl)
    (hdb : (n == ("__debug__" : Str)) = false := by decide) (hs : starEach [e] X.env = (false, eval e X.env) :: starEach [] X.env := by rfl) (hpl : (backTo pos (starEach [] X.env)).any (·.1) = false := by rfl) :
    PS X (.Raise (some (.Call (.Name n p) [e] [] pos)) none pos') (liftS X.K B E (wRaise n te)) := by
  obtain ⟨st, fI, D, C, G, hx, hm, hc⟩ := Z.at hn
  refine psW (ps_raise T.hc T.tk (pmk_grow G hc.gc (T.rg.r.mono hk) hg hm (s_cons he s_nil hs) hdb hs hpl)) fun D σ H ⟨F, env, W, P, PX, S, hE, h, hX, _⟩ => ?_
  refine ⟨F, env, W, fun ds _ W1 => ∃ d, ds = [d] ∧ PX n d W1, PX, S, hE, ?_, hX, fun ds env1 W1 F1 H1 vs ⟨d, ed, p1⟩ S1 l1 e1 r1 => ?_⟩
  · exact (show wCons te wNil PX env W _ from by
      show te PX env W fun d env1 W1 => wNil PX env1 W1 fun ds env2 W2 => ∃ d', d :: ds = [d'] ∧ PX n d' W2
      have q : te PX env W fun d _ W1 => PX n d W1 := h
      have e : (fun d env1 W1 => wNil PX env1 W1 fun ds env2 W2 => ∃ d', d :: ds = [d'] ∧ PX n d' W2) = fun d (_ : DEnv) W1 => PX n d W1 := by
        funext d env1 W1
        show (∃ d', d :: [] = [d'] ∧ PX n d' W1) = _
        simp
      rw [e]
      exact q)
  · subst ed
    obtain ⟨v, rfl, rv⟩ := repL1 r1
    refine ⟨v, rfl, fun dx hdx => ?_⟩
    exact hX n C d W1 F1 _ dx v hx p1 (S1.laid hdx) l1 upd_same rv
end
/-! ## within an except suite -/
/-- the exception that is caught: of the class n, with the value d -/
structure XSit (Y : Cx) (B : Base) (a : Addr) (n : Str) (d : D) : Prop where
  ex : ∃ (C da : Addr) (oe : Obj) (v : V), (a, oe) ∈ Y.pn ∧ oe.cls = .ref C ∧ oe.dict = some da ∧ (∃ vs, oe.data = .fields vs) ∧ XN Y.K n C ∧ B.H0 da = some (.xd [("value", v)]) ∧ B.W0 da = none ∧ Rep Y.K B.F0 d v
  nm : n ∈ errN
abbrev noEK : XK := fun _ _ _ => False
def wTry (G : Str) (i : Nat) (b : WStm) (h : Addr → Str → D → WStm) : WStm := fun PX D env W =>
  b (fun n d W' => n ∈ errN ∧ if isErr n G = true then ∀ a, W' a = none → h a n d noX { nx := fun env' W' => D.nx (env'.set i none) W', rt := D.rt, bk := fun env' W' => D.bk (env'.set i none) W', ct := fun env' W' => D.ct (env'.set i none) W' } ((env.map fun _ => none).set i (some (.obj a))) W' else PX n d W') D env W
theorem xd_none {K : Fg} {B : Base} {F H : Hp} {W : WS} {da : Addr} {fs : List (Str × V)} (S : Stt K B F W H) (h : H da = some (.xd fs)) : W da = none := by
  cases e : W da with
  | none => rfl
  | some ob =>
    obtain ⟨_, o, ho, ro⟩ := S.obj da ob e
    rw [h] at ho
    generalize hx : HO.xd fs = u at ho
    cases ho
    cases ro with
    | lst r => cases hx
    | dK e r => cases hx
    | dT e r => cases hx
    | ins e r => cases hx
    | dN r => unfold nestO at hx; cases hx
section
variable {X : Cx} {B : Base} {E : XK} {k : Nat} {G n : Str} {i : Nat} {body suite : List Stmt} {b₀ : Stmt} {np pos pos' : Pos} {tb : WStm} {th : Addr → Str → D → WStm}
theorem S_try (Z : ErrTab X.prog X.K X.mg) (T : Sit X E k) (hG : G ∈ errN ∨ G = "GrowthError") (hs : X.stack = X.env :: X.outer) (hf : X.env.frame = some X.env.locals) (hi : X.N[i]? = some n) (hln : X.env.kindOf n = some .local) (hgl : Gl X G) (hdb : (G == ("__debug__" : Str)) = false)
    (hb : ∀ (E' : XK) (pn : List (Addr × Obj)) (xe : Value → Shared → Prop), Sit (X.tr pn xe) E' k → PSs (X.tr pn xe) body (liftS X.K B E' tb))
    (hsu : ∀ (a : Addr) (oe : Obj) (nn : Str) (d : D) (pn : List (Addr × Obj)) (B' : Base), XSit (X.suite a ((a, oe) :: pn)) B' a nn d → PSs (X.suite a ((a, oe) :: pn)) (b₀ :: suite) (liftS X.K B' noEK (th a nn d))) :
    PS X (.Try body [.ExceptHandler (some (.Name G np)) (some n) (b₀ :: suite) pos'] [] [] pos) (liftS X.K B E (wTry G i tb th)) := by
  obtain ⟨DG, hxG, hmG⟩ := Z.cls hG
  refine ⟨fun pins s σ H D I h => ?_⟩
  refine (ps_try_as (X := X) (x := G) (c := .ref DG) (i := i) (b₀ := b₀) (Wout := fun cls d _ H => E cls d H) (tb := fun Wt => liftS X.K B (fun cls d H => ∀ σ : L2.St, σ.length = X.N.length → Wt cls d σ H) tb)
    (ts := fun a cls d => fun DE σ H => ∃ (nn : Str) (dv : DL.D) (B' : Base) (C da : Addr) (v : V), nn ∈ errN ∧ cls = .ref C ∧ d = some da ∧ XN X.K nn C ∧ B'.H0 da = some (.xd [("value", v)]) ∧ B'.W0 da = none ∧ Rep X.K B'.F0 dv v ∧ liftS X.K B' noEK (th a nn dv) DE σ H)
    hs hf T.nd hi hln ⟨hgl, hdb, .inl hmG⟩ T.tk ?_ ?_).run pins s σ H D I ?_
  · intro Wt pn xe tk po
    refine hb _ pn xe ⟨T.rg, T.nd, T.hc, fun pins σ H s e s' I c => tk e s' (XE.of_call I (fun cls d H' h => h σ I.len) c), fun u s' ⟨a, B, sI, pins, σ, H, cls, d, eu, I, nb, up, sky, na, os, ag, w⟩ => tk u s' ⟨a, B, sI, pins, σ, H, cls, d, eu, I, nb, up, sky, na, os, ag, w σ I.len⟩⟩
  · intro a oe cls d pn hz hfl
    refine ⟨fun pins s σ H D I ⟨nn, dv, B', C, da, v, hn, ec, ed, hx, h1, h2, h3, hq⟩ => ?_⟩
    subst ec ed
    exact (hsu a oe nn dv pn B' ⟨⟨C, da, oe, v, List.mem_cons_self, hz.1, hz.2, hfl, hx, h1, h2, h3⟩, hn⟩).run pins s σ H D I hq
  · obtain ⟨F, env, W, P, PX, S, hE, h, hX, h1, h2, h3, h4⟩ := h
    refine ⟨F, env, W, P, _, S, hE, h, ?_, h1, h2, h3, h4⟩
    intro nn C dv W' F' H' da v xn ⟨hn, hh⟩ S' l' hda rv σ' hl
    refine ⟨isErr nn G, Z.exm nn hn G hG C DG xn hxG, fun hb2 a ha => ?_, fun hb2 => ?_⟩
    · rw [if_pos hb2] at hh
      refine ⟨nn, dv, ⟨H', W', F'⟩, C, da, v, hn, rfl, rfl, xn, hda, xd_none S' hda, rv, F', _, W', _, noX, S'.self, ?_, hh a (S'.newW ha), noX_ok, ?_, ?_, ?_, ?_⟩
      · have hlen : env.length = σ'.length := by rw [hE.len, hl, ← I.len]
        refine ⟨by rw [List.length_set, List.length_map, List.length_set, hlen], fun j d' q => ?_⟩
        by_cases c : i = j
        · subst c
          have hlt : i < env.length := by
            have := (List.getElem?_eq_some_iff.mp q).1
            rwa [List.length_set, List.length_map] at this
          rw [List.getElem?_set_self (by rw [List.length_map]; exact hlt)] at q
          cases q
          exact ⟨.ref a, by rw [List.getElem?_set_self (by rw [← hlen]; exact hlt)], .obj a⟩
        · rw [List.getElem?_set_ne c, List.getElem?_map] at q
          cases e : env[j]? with
          | none => rw [e] at q; cases q
          | some x => rw [e] at q; cases q
      · exact fun env' W2 F2 H2 σ2 p T2 l2 e2 => h1 _ W2 F2 H2 _ p (S'.trans T2) (l'.trans T2.base) e2.forget
      · exact fun d W2 F2 H2 v2 p T2 l2 r2 => h2 d W2 F2 H2 v2 p (S'.trans T2) (l'.trans T2.base) r2
      · exact fun env' W2 F2 H2 σ2 p T2 l2 e2 => h3 _ W2 F2 H2 _ p (S'.trans T2) (l'.trans T2.base) e2.forget
      · exact fun env' W2 F2 H2 σ2 p T2 l2 e2 => h4 _ W2 F2 H2 _ p (S'.trans T2) (l'.trans T2.base) e2.forget
    · have hb3 : ¬ isErr nn G = true := by rw [hb2]; exact Bool.false_ne_true
      rw [if_neg hb3] at hh
      exact hX nn C dv W' F' H' da v xn hh S' l' hda rv
end
end DL

set_option maxRecDepth 100000
set_option maxHeartbeats 4000000
set_option linter.all false
namespace DL
open PySem PySem.Spec PyProof.Rows L2 L2H
/-! ## what is read of a caught exception -/
def wXVal (a : Addr) (d : D) (te : WE) : WE := fun PX env W P => te PX env W fun x env1 W1 => x = .obj a ∧ P d env1 W1
def wXIs (a : Addr) (n : Str) (ms : List Str) (te : WE) : WE := fun PX env W P => te PX env W fun x env1 W1 => x = .obj a ∧ P (.bl (ms.any (isErr n))) env1 W1
def wXIsV (a : Addr) (te : WE) : WE := fun PX env W P => te PX env W fun x env1 W1 => x = .obj a ∧ P (.bl true) env1 W1
section
variable {Y : Cx} {B : Base} {E : XK} {a : Addr} {n : Str} {d : D} {e : Expr} {es : List Expr} {te : WE} {p pos p2 pm : Pos} {ms : List Str} {m : Str}
theorem XSit.xd (U : XSit Y B a n d) {da : Addr} {v : L2.V} {F H : Hp} {W : WS} (S : Stt Y.K B F W H) (h1 : B.H0 da = some (.xd [("value", v)])) (h2 : B.W0 da = none) : H da = some (.xd [("value", v)]) := (S.old da _ h1 h2).2.1
theorem xinst {Y : Cx} {pins : List (Addr × Obj)} {σ : L2.St} {H : Hp} {s : Shared} {a da C : Addr} {oe : Obj} {fs : List (Str × V)} (I : Inv Y pins σ H s) (hp : (a, oe) ∈ Y.pn) (h1 : oe.cls = .ref C) (h2 : oe.dict = some da) (h3 : ∃ vs, oe.data = .fields vs) (hd : H da = some (.xd fs)) :
    ∃ od, PySem.W.InstAt s.heap a oe C (some od) ∧ ∀ f v, fs.lookup f = some v → ∃ u, PySem.W.lookIn f od = some (some u) ∧ RelV v u := by
  obtain ⟨ha, _⟩ := I.pin (a, oe) (List.mem_append_left _ hp)
  obtain ⟨vs, hv⟩ := h3
  have hx : ObjOk Y.prog Y.w H s.heap da (.xd fs) := I.hok da _ hd
  obtain ⟨mA, hns, hr⟩ := hx
  obtain ⟨od, ho, hl⟩ := lookIn_ns hns
  refine ⟨od, ⟨ha, h1, by unfold PySem.W.notCls; rw [hv] <;> rfl, by rw [h2]; exact ho⟩, fun f v hf => ?_⟩
  obtain ⟨u, hu, ru⟩ := RelO.some_of (v := v) (o := mA f) (by rw [← hf]; exact hr f)
  exact ⟨u, by rw [hl, hu], ru⟩
theorem xval_ (Z : ErrTab Y.prog Y.K Y.mg) (U : XSit Y B a n d) (he : PE Y e (liftE Y.K B E te)) (hb : attributeBase e "value" Y.env (eval e Y.env) = eval e Y.env := by rfl) : PE Y (.Attribute e "value" pos) (liftE Y.K B E (wXVal a d te)) := by
  obtain ⟨C, da, oe, v, hp, c1, c2, c3, hx, h1, h2, h3⟩ := U.ex
  obtain ⟨st, fI, DG, C', G, hx', hm, hc⟩ := Z.at U.nm
  obtain rfl := hx.inj hx'
  refine ⟨fun pins s σ H Q I ⟨F, env, W, P, PX, S, hE, h, hX, hQ⟩ => attr_of hb (thn (he.run pins s σ H (fun x H1 => x = .ref a ∧ H1 da = some (.xd [("value", v)]) ∧ Q v H1) I ⟨F, env, W, _, PX, S, hE, h, hX, fun x env1 W1 F1 H1 x' ⟨ex, p⟩ S1 l1 e1 r1 => ?_⟩) fun u s1 hh => ?_)⟩
  · subst ex
    cases r1
    exact ⟨rfl, U.xd S1 h1 h2, hQ d env1 W1 F1 H1 v p S1 l1 e1 (h3.mono S1.base)⟩
  · obtain ⟨x, H1, I1, rx, ex, hd, q⟩ := hh
    subst ex
    obtain rfl : u = Value.ref a := rx
    obtain ⟨od, J, lk⟩ := xinst I1 hp c1 c2 c3 hd
    obtain ⟨u, hu, ru⟩ := lk "value" v rfl
    exact HandSPX.exc_get I1.kIn J hc.ga hc.gg hc.sb (PySem.W.findObj_own hc.hd hc.gc.noV rfl hu) (handed_of ru) ⟨v, H1, I1.tok _, ru, q⟩
/-- some classes, by name -/
structure ClsN (Y : Cx) (es : List Expr) (ms : List Str) : Prop where
  ex : ∃ as : List Addr, PA Y es (fun σ H Q => Q (as.map V.ref) H) ∧ Paired (fun m A => (m ∈ errN ∨ m = "GrowthError") ∧ XN Y.K m A) ms as
theorem cn_nil : ClsN Y [] [] := ⟨[], pa_nil, .nil⟩
theorem cn_cons (Z : ErrTab Y.prog Y.K Y.mg) (hm : m ∈ errN ∨ m = "GrowthError") (h : ClsN Y es ms) (hg : Gl Y m := by rfl) (hd : (m == ("__debug__" : Str)) = false := by decide)
    (hs : starEach (.Name m pm :: es) Y.env = (false, eval (.Name m pm) Y.env) :: starEach es Y.env := by rfl) : ClsN Y (.Name m pm :: es) (m :: ms) := by
  obtain ⟨as, h1, h2⟩ := h.ex
  obtain ⟨C, hx, hC⟩ := Z.cls hm
  refine ⟨C :: as, ?_, .cons ⟨hm, hx⟩ h2⟩
  exact pa_cons (pe_glob (v := .ref C) hg hC rfl hd) h1 hs
theorem kit_any {K : Fg} {P : Program} {mg : Str → Option Value} (Z : ErrTab P K mg) {n : Str} (hn : n ∈ errN) {C : Addr} (hx : XN K n C) : ∀ {ms : List Str} {as : List Addr}, Paired (fun m A => (m ∈ errN ∨ m = "GrowthError") ∧ XN K m A) ms as →
    PySem.W.kitAny K (.ref C) (as.map Value.ref) = some (ms.any (isErr n))
  | _, _, .nil => rfl
  | m :: ms, A :: as, .cons ⟨h1, h2⟩ t => by
    have e := Z.rel n hn m h1 C A hx h2
    have i := kit_any Z hn hx t
    show (match PySem.W.kitOne K (.ref C) (.ref A) with | some true => some true | some false => PySem.W.kitAny K (.ref C) (as.map Value.ref) | none => none) = _
    rw [e, List.any_cons]
    cases isErr n m with
    | true => rfl
    | false => rw [i]; rfl
theorem kitx (hc : ErrC Y.K x fD C) {oe od : Obj} : PySem.W.KitX Y.K (.ref a) (.ref C) (fun h => PySem.W.InstAt h a oe C (some od)) :=
  PySem.W.kitx_exc (by obtain ⟨cd, h, _⟩ := PySem.W.any_some hc.hd; rw [h]; rfl) hc.ga hc.gg hc.sb hc.ha hc.hn hc.ht hc.hm
theorem vals_refs : ∀ {as : List Addr} {us : List Value}, Vals (as.map V.ref) us → us = as.map Value.ref
  | [], _, .nil => rfl
  | A :: as, _, .cons r t => by
    obtain rfl := (show _ = Value.ref A from r)
    rw [vals_refs t]; rfl
def rXT (K : Fg) (a da C : Addr) : List V → Hp → VK → Prop := fun xs H Q => ∃ (tp : Addr) (as : List Addr) (b : Bool) (fs : List (Str × V)), xs = [.ref a, .ref tp] ∧ H tp = some (.tup (as.map V.ref)) ∧ H da = some (.xd fs) ∧ PySem.W.kitAny K (.ref C) (as.map Value.ref) = some b ∧ Q (.bl b) H
def rX1 (K : Fg) (a da C : Addr) : List V → Hp → VK → Prop := fun xs H Q => ∃ (c : V) (cv : Value) (b : Bool) (fs : List (Str × V)), xs = [.ref a, c] ∧ (∀ u, RelV c u → u = cv) ∧ H da = some (.xd fs) ∧ PySem.W.kitOne K (.ref C) cv = some b ∧ Q (.bl b) H
theorem call_xT {da C fI fD : Addr} {oe : Obj} (hc : ErrC Y.K fI fD C) (hp : (a, oe) ∈ Y.pn) (h1 : oe.cls = .ref C) (h2 : oe.dict = some da) (h3 : ∃ vs, oe.data = .fields vs) : CallR Y (.builtin "isinstance") (rXT Y.K a da C) := by
  intro pins s σ H xs us Q I r ⟨tp, as, b, fs, ex, ht, hd, hk, q⟩
  subst ex
  cases r with
  | cons rx rr => cases rr with
    | cons rt rr =>
      cases rr
      obtain rfl := (show _ = Value.ref a from rx)
      obtain rfl := (show _ = Value.ref tp from rt)
      obtain ⟨od, J, _⟩ := xinst I hp h1 h2 h3 hd
      obtain ⟨z, us, rv, o, ho, hcls, m, hdt⟩ := (show ObjOk Y.prog Y.w H s.heap tp (.tup (as.map V.ref)) from I.hok tp _ ht)
      obtain rfl := vals_refs rv
      obtain ⟨oc, odd, odt, osl⟩ := o
      dsimp only at hcls hdt
      subst hcls hdt
      exact PySem.W.kia_tup (kitx hc) I.kIn J ho hk (fun z => nomatch z) fun tk => ⟨.bl b, H, I.kept (t' := tk) fun _ _ z => z, rfl, q⟩
theorem call_x1 {da C fI fD : Addr} {oe : Obj} (hc : ErrC Y.K fI fD C) (hp : (a, oe) ∈ Y.pn) (h1 : oe.cls = .ref C) (h2 : oe.dict = some da) (h3 : ∃ vs, oe.data = .fields vs) : CallR Y (.builtin "isinstance") (rX1 Y.K a da C) := by
  intro pins s σ H xs us Q I r ⟨c, cv, b, fs, ex, hcv, hd, hk, q⟩
  subst ex
  cases r with
  | cons rx rr => cases rr with
    | cons rt rr =>
      cases rr
      obtain rfl := (show _ = Value.ref a from rx)
      have ec := hcv _ rt
      subst ec
      obtain ⟨od, J, _⟩ := xinst I hp h1 h2 h3 hd
      exact PySem.W.kia_one (kitx hc) I.kIn J hk (fun z => nomatch z) fun tk => ⟨.bl b, H, I.kept (t' := tk) fun _ _ z => z, rfl, q⟩
theorem xisT_ {k : Nat} (Z : ErrTab Y.prog Y.K Y.mg) (U : XSit Y B a n d) (hi : Y.mg "isinstance" = none) (he : PE Y e (liftE Y.K B E te)) (hcs : ClsN Y es ms) (hz : ms.length ≤ 30) (hg : Gl Y "isinstance" := by rfl)
    (hs : starEach [e, .Tuple es k p2] Y.env = (false, eval e Y.env) :: starEach [.Tuple es k p2] Y.env := by rfl) (hs2 : starEach [.Tuple es k p2] Y.env = (false, eval (.Tuple es k p2) Y.env) :: starEach [] Y.env := by rfl) (hpl : (backTo pos (starEach [.Tuple es k p2] Y.env)).any (·.1) = false := by rfl) :
    PE Y (.Call (.Name "isinstance" p) [e, .Tuple es k p2] [] pos) (liftE Y.K B E (wXIs a n ms te)) := by
  obtain ⟨C, da, oe, v, hp, c1, c2, c3, hx, h1, h2, h3⟩ := U.ex
  obtain ⟨st, fI, DG, C', G, hx', hm, hc⟩ := Z.at U.nm
  obtain rfl := hx.inj hx'
  obtain ⟨as, hA, hP⟩ := hcs.ex
  refine peW (pe_callB (call_xT hc hp c1 c2 c3) hg hi (by decide +kernel) (pa_cons he (pa_cons (pe_tup hA) pa_nil hs2) hs) (by decide) (by decide) hs hpl) fun σ H Q ⟨F, env, W, P, PX, S, hE, h, hX, hQ⟩ => ?_
  refine ⟨F, env, W, _, PX, S, hE, h, hX, fun x env1 W1 F1 H1 x' ⟨ex, p⟩ S1 l1 e1 r1 => ?_⟩
  subst ex
  cases r1
  refine ⟨by rw [List.length_map, ← Paired.length hP, sizeLine_eq]; omega, fun tp htp => ⟨tp, as, _, [("value", v)], rfl, upd_same, ?_, kit_any Z U.nm hx hP, ?_⟩⟩
  · rw [upd_ne (fun z => by have := U.xd S1 h1 h2; rw [z, htp] at this; cases this)]
    exact U.xd S1 h1 h2
  · exact hQ _ env1 W1 F1 _ _ p (S1.laid htp) l1 e1 (.bl _)
theorem xis1_ (Z : ErrTab Y.prog Y.K Y.mg) (U : XSit Y B a n d) (hi : Y.mg "isinstance" = none) (he : PE Y e (liftE Y.K B E te)) (hmm : m ∈ errN ∨ m = "GrowthError") (hg : Gl Y "isinstance" := by rfl) (hgm : Gl Y m := by rfl) (hd : (m == ("__debug__" : Str)) = false := by decide)
    (hs : starEach [e, .Name m pm] Y.env = (false, eval e Y.env) :: starEach [.Name m pm] Y.env := by rfl) (hs2 : starEach [.Name m pm] Y.env = (false, eval (.Name m pm) Y.env) :: starEach [] Y.env := by rfl) (hpl : (backTo pos (starEach [.Name m pm] Y.env)).any (·.1) = false := by rfl) :
    PE Y (.Call (.Name "isinstance" p) [e, .Name m pm] [] pos) (liftE Y.K B E (wXIs a n [m] te)) := by
  obtain ⟨C, da, oe, v, hp, c1, c2, c3, hx, h1, h2, h3⟩ := U.ex
  obtain ⟨st, fI, DG, C', G, hx', hm, hc⟩ := Z.at U.nm
  obtain rfl := hx.inj hx'
  obtain ⟨M, hxM, hM⟩ := Z.cls hmm
  refine peW (pe_callB (call_x1 hc hp c1 c2 c3) hg hi (by decide +kernel) (pa_cons he (pa_cons (pe_glob (v := .ref M) hgm hM rfl hd) pa_nil hs2) hs) (by decide) (by decide) hs hpl) fun σ H Q ⟨F, env, W, P, PX, S, hE, h, hX, hQ⟩ => ?_
  refine ⟨F, env, W, _, PX, S, hE, h, hX, fun x env1 W1 F1 H1 x' ⟨ex, p⟩ S1 l1 e1 r1 => ?_⟩
  subst ex
  cases r1
  refine ⟨.ref M, .ref M, _, [("value", v)], rfl, fun u h => h, U.xd S1 h1 h2, Z.rel n U.nm m hmm C M hx hxM, ?_⟩
  exact hQ _ env1 W1 F1 _ _ (by rw [List.any_cons, List.any_nil, Bool.or_false] at p; exact p) S1 l1 e1 (.bl _)
theorem xisV_ (Z : ErrTab Y.prog Y.K Y.mg) (U : XSit Y B a n d) (hi : Y.mg "isinstance" = none) (hv : Y.mg "ValueError" = none) (he : PE Y e (liftE Y.K B E te)) (hg : Gl Y "isinstance" := by rfl) (hgm : Gl Y "ValueError" := by rfl)
    (hs : starEach [e, .Name "ValueError" pm] Y.env = (false, eval e Y.env) :: starEach [.Name "ValueError" pm] Y.env := by rfl) (hs2 : starEach [.Name "ValueError" pm] Y.env = (false, eval (.Name "ValueError" pm) Y.env) :: starEach [] Y.env := by rfl) (hpl : (backTo pos (starEach [.Name "ValueError" pm] Y.env)).any (·.1) = false := by rfl) :
    PE Y (.Call (.Name "isinstance" p) [e, .Name "ValueError" pm] [] pos) (liftE Y.K B E (wXIsV a te)) := by
  obtain ⟨C, da, oe, v, hp, c1, c2, c3, hx, h1, h2, h3⟩ := U.ex
  obtain ⟨st, fI, DG, C', G, hx', hm, hc⟩ := Z.at U.nm
  obtain rfl := hx.inj hx'
  refine peW (pe_callB (call_x1 hc hp c1 c2 c3) hg hi (by decide +kernel) (pa_cons he (pa_cons (pe_bltn (v := .ty "ValueError") hgm hv PyProof.Rows.Boot.«ValueError» rfl) pa_nil hs2) hs) (by decide) (by decide) hs hpl) fun σ H Q ⟨F, env, W, P, PX, S, hE, h, hX, hQ⟩ => ?_
  refine ⟨F, env, W, _, PX, S, hE, h, hX, fun x env1 W1 F1 H1 x' ⟨ex, p⟩ S1 l1 e1 r1 => ?_⟩
  subst ex
  cases r1
  refine ⟨.ty "ValueError", .type "ValueError", _, [("value", v)], rfl, fun u h => h, U.xd S1 h1 h2, hc.ve, ?_⟩
  exact hQ _ env1 W1 F1 _ _ p S1 l1 e1 (.bl _)
end
end DL

set_option maxRecDepth 100000
set_option maxHeartbeats 4000000
set_option linter.all false
namespace DL
open PySem PySem.Spec PyProof.Rows L2 L2H
/-! ## a def of the law called within an except suite with the exception -/
abbrev XSp := Str → D → WS → (D → WS → Prop) → Prop
structure SitH (X : Cx) (k : Nat) : Prop where
  rg : RoomH k X.A
  nd : X.N.Nodup
theorem SitH.hu4 {X : Cx} {k : Nat} (T : SitH X k) : X.A.units + 64 < cLine := by have := T.rg.un; omega
theorem SitH.hu {X : Cx} {k : Nat} (T : SitH X k) : X.A.units + 65 < cLine := by have := T.rg.un; omega
theorem SitH.hu1 {X : Cx} {k : Nat} (T : SitH X k) : X.A.units + 1 < cLine := by have := T.rg.un; omega
theorem Sit.suite {X : Cx} {E : XK} {k : Nat} (T : Sit X E k) {a : Addr} {pn : List (Addr × Obj)} : SitH (X.suite a pn) k := ⟨⟨T.rg.r.dp, T.rg.r.un⟩, T.nd⟩
structure FnXD (P : Program) (w : World) (K : Fg) (mg : Str → Option Value) (base : Heap) (k : Nat) (f : Addr) (fd : FuncData) (ps : List Str) (sp : XSp) : Prop where
  len : ps.length = 1
  run : ∀ (A : Around) (outer : List Env) (s : Shared) (F H : Hp) (W : WS) (args : Args) (a C da : Addr) (oe : Obj) (v : V) (n : Str) (d : D) (Q : VK) (E : XK) (PP : D → WS → Prop), RoomH k A → PinOk outer H s (a, oe) →
    oe.cls = .ref C → oe.dict = some da → (∃ vs, oe.data = .fields vs) → XN K n C → H da = some (.xd [("value", v)]) → Rep K F d v → n ∈ errN → Env0 P w K mg base A outer s H → BindsTo s fd args (ps.zip [.ref a]) → Stt K ⟨H, W, F⟩ F W H →
    sp n d W PP → (∀ d' W' F' H' v, PP d' W' → Stt K ⟨H, W, F⟩ F' W' H' → Rep K F' d' v → Q v H') → codeAny (model P w) A (.call (.ref f) args) (CR (L2.CX P w) outer P w H s Q E) s
structure FnX (P : Program) (w : World) (K : Fg) (mg : Str → Option Value) (base : Heap) (k : Nat) (x qual : Str) (st : Stmt) (ps : List Str) (sp : XSp) : Prop where
  ex : ∃ f fd, mg x = some (.ref f) ∧ Fun K x qual st f fd ∧ Binds K fd ps [] ∧ FnXD P w K mg base k f fd ps sp
section
variable {P : Program} {w : World} {K : Fg} {mg : Str → Option Value} {base : Heap} {k : Nat} {f : Addr} {fd : FuncData} {ps : List Str} {sp : XSp}
theorem fnX_go {x qual : Str} {st : Stmt} {N : List Str} {t : Addr → Str → D → WStm} (F : Fun K x qual st f fd) (S : FnScope N ps (defScope st)) (hps : ps.length = 1)
    (hb : ∀ (cdv : Value) (A : Around) (outer : List Env) (s : Shared) (H : Hp) (E : XK) (p : Addr × Obj) (n : Str) (d : D), SitH (cxH (L2.CX P w) P w K mg base N qual (defScope st) f cdv A outer s H E p) k →
      ∀ B, XSit (cxH (L2.CX P w) P w K mg base N qual (defScope st) f cdv A outer s H E p) B p.1 n d → PSs (cxH (L2.CX P w) P w K mg base N qual (defScope st) f cdv A outer s H E p) (defBody st) (liftS K B noEK (t p.1 n d)))
    (law : ∀ n d W Q a, n ∈ errN → sp n d W Q → t a n d noX { nx := fun _ W' => Q .non W', rt := Q } (env0 N [.obj a]) W) : FnXD P w K mg base (k + 1) f fd ps sp := by
  obtain ⟨oc, od, kV, doc, pm, an, cdv, ct, osl, rfl, lk, hcd⟩ := F.ex
  refine ⟨hps, fun A outer s F0 H W args a C da oe v n d Q E PP hr hpin c1 c2 c3 hx hd rv hn e0 hbd S0 hsp hQ => ?_⟩
  have KX : K.In s.heap := e0.mod.kin.keeps fun b o e => (e0.bs b o e).1
  have lim : s.heap.NoLimit := e0.mod.nolimit.keeps fun b o e => (e0.bs b o e).1
  refine codeAny_call_function hr.depth (KX _ _ lk) rfl S.co S.gen rfl (PySem.W.codeRec_of KX hcd) (hbd _ _ _ _ ?_)
  refine wpAny_newFunctionEnv_cells S.kind (fun ⟨n, v⟩ hy => (S.par n (List.of_mem_zip hy).1).elim .inl fun q => .inr ⟨q, PySem.W.cellsFrom_some _ _ _ (.inl q)⟩) fun env he s1 xx => ?_
  subst he
  refine ⟨lim.keeps xx.toInCall.keep, codeAny_func ?_⟩
  have ht := hb cdv A outer s H E (a, oe) n d ⟨hr.deeper _, S.nd⟩ ⟨H, W, F0⟩ ⟨⟨C, da, oe, v, List.mem_cons_self, c1, c2, c3, hx, hd, xd_none S0 hd, rv⟩, hn⟩
  have I := inv_startH (CX := L2.CX P w) (E := E) (p := (a, oe)) (vs := [.ref a]) (us := [.ref a]) S hpin e0 (by rw [hps]; rfl) (.cons rfl .nil) xx
  refine wpAny_mono (ht.run [] s1 (L2.start N [.ref a]) H { nx := fun _ H' => Q .non H', rt := Q } I ?_) (fun fl s' hs => ?_) fun e s' hs => hs
  · refine ⟨F0, env0 N [.obj a], W, _, noX, S0, ⟨?_, ?_⟩, law n d W PP a hn hsp, noX_ok, ?_, ?_, ?_, ?_⟩
    · unfold env0 L2.start
      simp
    · intro i d' e
      unfold L2.start
      exact repL_get (.cons (.obj a) .nil) i d' e
    · exact fun env' W' F' H' σ' p T l e => hQ _ W' F' H' _ p T .non
    · exact fun d W' F' H' v p T l r => hQ d W' F' H' v p T r
    · exact fun env' W' F' H' σ' p T l e => p.elim
    · exact fun env' W' F' H' σ' p T l e => p.elim
  · cases fl with
    | ret u => obtain ⟨v, σ', H', J, r2, q⟩ := hs; exact ⟨v, H', J.os, J.bare, J.base, J.hok, r2, q⟩
    | next => obtain ⟨σ', H', J, q⟩ := hs; exact ⟨.non, H', J.os, J.bare, J.base, J.hok, rfl, q⟩
    | brk => obtain ⟨_, _, _, q⟩ := hs; exact False.elim q
    | cont => obtain ⟨_, _, _, q⟩ := hs; exact False.elim q
end
def wCallX (a : Addr) (sp : XSp) (n : Str) (d : D) (te : WE) : WE := fun PX env W P => te PX env W fun x env1 W1 => x = .obj a ∧ sp n d W1 fun d2 W2 => P d2 env1 W2
section
variable {X : Cx} {B : Base} {E : XK} {j k : Nat} {x qual : Str} {st : Stmt} {ps : List Str} {sp : XSp} {a : Addr} {n : Str} {d : D} {e : Expr} {te : WE} {p pos : Pos}
theorem callX_ (U : XSit X B a n d) (T : SitH X k) (G : FnX X.prog X.w X.K X.mg X.base j x qual st ps sp) (hl : j ≤ k) (he : PE X e (liftE X.K B E te)) (hg : Gl X x := by rfl) (hdb : (x == ("__debug__" : Str)) = false := by decide)
    (hs : starEach [e] X.env = (false, eval e X.env) :: starEach [] X.env := by rfl) (hpl : (backTo pos (starEach [] X.env)).any (·.1) = false := by rfl) : PE X (.Call (.Name x p) [e] [] pos) (liftE X.K B E (wCallX a sp n d te)) := by
  obtain ⟨f, fd, hm, hF, hb, hG⟩ := G.ex
  obtain ⟨C, da, oe, v, hp, c1, c2, c3, hx, h1, h2, h3⟩ := U.ex
  refine ⟨fun pins s σ H Q I ⟨F, env, W, P, PX, S, hE, h, hX, hQ⟩ => ?_⟩
  refine wpAny_Call_Name_kw (ld_glob I hg hm ?_ hdb)
  refine PySem.W.callWith_K (h₀ := X.base) I.ok.mod.kin hF.kp (thn ((pa_cons he pa_nil hs).run pos pins s σ H (fun vs H1 => vs = [.ref a] ∧ ∃ F1 env1 W1, Stt X.K B F1 W1 H1 ∧ Le F F1 ∧ EnvOk X.K F1 σ env1 ∧ sp n d W1 fun d2 W2 => P d2 env1 W2) I ⟨F, env, W, _, PX, S, hE, h, hX, fun y env1 W1 F1 H1 y' ⟨ex, p⟩ S1 l1 e1 r1 => ?_⟩) fun us s1 ⟨vs, H1, I1, r, ev, F1, env1, W1, S1, l1, e1, hsp⟩ => ⟨I1.kIn, ?_⟩) hs hpl
  · subst ex
    cases r1
    exact ⟨rfl, F1, env1, W1, S1, l1, e1, p⟩
  · subst ev
    have P1 := I1.pin (a, oe) (List.mem_append_left _ hp)
    have hpin : PinOk X.stack H1 s1 (a, oe) := ⟨P1.1, P1.2.1, fun hm => (List.mem_cons.mp (I1.stkSub a hm)).elim P1.2.2.1 P1.2.2.2.1, P1.2.2.2.2⟩
    obtain rfl : us = [.ref a] := vals_refs (as := [a]) r
    have hbd := hb s1 [.ref a] I1.kIn (by rw [List.append_nil, hG.len]; rfl)
    rw [List.append_nil] at hbd
    refine wpAny_call (codeAny_mono (hG.run X.A X.stack s1 F1 H1 W1 ⟨[.ref a], []⟩ a C da oe v n d Q (fun _ _ _ => False) _ (T.rg.mono hl) hpin c1 c2 c3 hx (U.xd S1 h1 h2) (h3.mono S1.base) U.nm I1.env0 hbd S1.self hsp fun d' W' F' H' v' p T' r' => hQ d' env1 W' F' H' v' p (S1.trans T') (l1.trans T'.base) (e1.mono T'.base) r') fun r s' hq => ?_)
    cases r with
    | error e => obtain ⟨_, _, _, _, _, _, _, _, _, _, _, _, z⟩ := hq; exact z.elim
    | ok fl => cases fl with
      | ret u => exact I1.after hq
      | _ => exact False.elim hq
end
/-! ## the table, checked at once -/
def excB (K : Fg) (C : Addr) : Bool := match K.lookup C with
  | some ⟨.type "type", _, .cls cd, sl⟩ => (match cd.mro, sl.toList with
    | .ref C' :: bm, [_, _, _, _, some (.builtin n), _] => C' == C && n == "ValueError.__new__" && !cd.hasDel && cd.hasDict && PySem.HandSPX.refsVE bm
    | _, _ => false)
  | _ => false
theorem excB_ok {K : Fg} {C : Addr} (h : excB K C = true) : ∃ nm q N bs bm sn sub ab col dd k0 k1 k2 k3 k5, K.lookup C = some (excClassObj nm q C N bs bm true sn sub ab col dd k0 k1 k2 k3 k5 "ValueError.__new__") ∧ PySem.HandSPX.refsVE bm = true := by
  unfold excB at h
  split at h
  · rename_i dd cd sl hk
    split at h
    · rename_i C' bm k0 k1 k2 k3 n k5 hm hsl
      simp only [Bool.and_eq_true, Bool.not_eq_true'] at h
      obtain ⟨⟨⟨⟨h1, h2⟩, h3⟩, h4⟩, h5⟩ := h
      obtain rfl := beq_iff_eq.mp h1
      obtain rfl := beq_iff_eq.mp h2
      obtain ⟨nm, bs, mro, ns, qn, hd, sn, sb, ab, col, del⟩ := cd
      dsimp only at hm h3 h4
      subst hm h3 h4
      have hsl' : sl = #[k0, k1, k2, k3, some (.builtin "ValueError.__new__"), k5] := by
        have := congrArg List.toArray hsl
        simpa using this
      subst hsl'
      exact ⟨nm, qn, ns, bs, bm, sn, sb, ab, col, dd, k0, k1, k2, k3, k5, hk, h5⟩
    · cases h
  · cases h
def errB (K : Fg) (fI D C : Addr) : Bool :=
  excB K C && (decide (PySem.W.findIn K (.ref C) "__setattr__" = some (some (.builtin "object.__setattr__"))) && (decide (PySem.W.subIn K (.ref C) (.type "BaseException") = some true) && (decide (PySem.W.typeIn K (.ref C) = some (.type "type")) && (PySem.W.keepIn K (.ref C) &&
  (decide (PySem.W.findIn K (.ref C) "__init__" = some (some (.ref fI))) && (decide (PySem.W.typeIn K (.ref fI) = some (.type "function")) && (decide (PySem.W.mroIn K C (.ref D) = some true) && (decide (PySem.W.ks_superIn K C D "__init__" = some (some (.builtin "ValueError.__init__"))) &&
  (decide (PySem.W.findIn K (.ref C) "value" = some none) && (decide (PySem.W.subIn K (.ref C) (.type "ValueError") = some true) && (decide (PySem.W.findIn K (.ref C) "__getattribute__" = some (some (.builtin "BaseException.__getattribute__"))) && (decide (PySem.W.findIn K (.ref C) "__getattr__" = some none) &&
  (PySem.W.hasDictIn K C && (decide (PySem.W.findIn K (.ref C) "__class__" = some (some (.builtin "object.__class__"))) && (decide (PySem.W.specialIn K (.builtin "object.__class__") "__get__" = some (some (.builtin "getset_descriptor.__get__"))) && (decide (PySem.W.takesIn K (.builtin "object.__class__") = some true) &&
  (decide (PySem.W.mroIn K C (.type "object") = some true) && decide (PySem.W.kitOne K (.ref C) (.type "ValueError") = some true))))))))))))))))))
theorem errB_ok {K : Fg} {fI D C : Addr} (h : errB K fI D C = true) : ErrC K fI D C := by
  unfold errB at h
  simp only [Bool.and_eq_true, decide_eq_true_eq] at h
  obtain ⟨h1, h2, h3, h4, h5, h6, h7, h8, h9, h10, h11, h12, h13, h14, h15, h16, h17, h18, h19⟩ := h
  exact ⟨⟨⟨excB_ok h1, h2, h3, h4, h5⟩, h6, h7, h8, h9, h10, h11⟩, h12, h13, h3, h14, h15, h16, h17, h18, h19⟩
def errT (K : Fg) (fI D : Addr) (cs : List (Str × Addr)) : Bool :=
  cs.all fun p => decide (PySem.W.nsIn K mainGlobals p.1 = some (some (.ref p.2))) && (errB K fI D p.2 && ((cs ++ [(("GrowthError" : Str), D)]).all fun q => decide (PySem.W.kitOne K (.ref p.2) (.ref q.2) = some (isErr p.1 q.1)) && decide (PySem.W.exmOne K (.ref p.2) (.ref q.2) = some (isErr p.1 q.1))))
theorem err_mk {P : Program} {K : Fg} {mg : Str → Option Value} {st : Stmt} {fI D : Addr} {cs : List (Str × Addr)} {h : Heap} (X : K.In h) (G : h.Ns mainGlobals mg) (GF : GrowFn P K mg st fI D) (hD : PySem.W.nsIn K mainGlobals "GrowthError" = some (some (.ref D))) (hc : cs.map (·.1) = errN) (hT : errT K fI D cs = true) : ErrTab P K mg := by
  unfold errT at hT
  rw [List.all_eq_true] at hT
  have fnd : ∀ n ∈ errN, ∃ C, (n, C) ∈ cs := fun n hn => by
    rw [← hc] at hn
    obtain ⟨⟨m, C⟩, hm, e⟩ := List.mem_map.mp hn
    subst e
    exact ⟨C, hm⟩
  have at_ : ∀ n ∈ errN, ∀ C, XN K n C → (n, C) ∈ cs := fun n hn C hx => by
    obtain ⟨C', hm⟩ := fnd n hn
    have z := hT _ hm
    simp only [Bool.and_eq_true, decide_eq_true_eq] at z
    obtain rfl := XN.inj (show XN K n C' from z.1) hx
    exact hm
  have two : ∀ n ∈ errN, ∀ m, (m ∈ errN ∨ m = "GrowthError") → ∀ C F, XN K n C → XN K m F → PySem.W.kitOne K (.ref C) (.ref F) = some (isErr n m) ∧ PySem.W.exmOne K (.ref C) (.ref F) = some (isErr n m) := fun n hn m hm C F hx hy => by
    have z := hT _ (at_ n hn C hx)
    simp only [Bool.and_eq_true, decide_eq_true_eq, List.all_eq_true] at z
    have hq : (m, F) ∈ cs ++ [(("GrowthError" : Str), D)] := by
      rcases hm with hm | rfl
      · exact List.mem_append_left _ (at_ m hm F hy)
      · obtain rfl := XN.inj hy (show XN K "GrowthError" D from hD)
        exact List.mem_append_right _ (List.mem_singleton_self _)
    exact z.2.2 _ hq
  refine ⟨⟨st, fI, D, GF, hD, fun n hn => ?_⟩, fun n C hn hx => PySem.W.mg_of X G hx, fun n hn m hm C F hx hy => (two n hn m hm C F hx hy).1, fun n hn m hm C F hx hy => (two n hn m hm C F hx hy).2⟩
  obtain ⟨C, hm⟩ := fnd n hn
  have z := hT _ hm
  simp only [Bool.and_eq_true, decide_eq_true_eq] at z
  exact ⟨C, z.1, errB_ok z.2.1⟩
end DL

set_option maxRecDepth 100000
set_option maxHeartbeats 4000000
set_option linter.all false
namespace DL
open PySem PySem.Spec PyProof.Rows L2
/-! ## a text once or not at all -/
def fMulS : F2
  | .str x, .int i, _, P => (i = 0 ∨ i = 1) ∧ P (.str (if i = 0 then Str.empty else x))
  | _, _, _, _ => False
section
variable {X : Cx} {K : Fg} {B : Base} {E : XK} {a b : Expr} {ta tb : WE} {x : Str} {pos : Pos}
theorem o_mulS : OpR X (binaryOp .Mult) (rD K B fMulS) := by
  intro pins s σ H x y v u Q I rx ry ⟨F, W, d1, d2, P, S, r1, r2, h, o⟩
  unfold fMulS at h
  split at h
  · rename_i x i
    cases r1
    cases r2
    obtain ⟨t, rfl⟩ := rx
    obtain ⟨t', rfl⟩ := ry
    obtain ⟨hi, p⟩ := h
    rcases hi with rfl | rfl
    · rw [if_pos rfl] at p
      exact PySem.P.mul_str_none (by decide) (by decide) ⟨.str Str.empty, H, I.tok _, ⟨_, rfl⟩, out0 S o p (.str _)⟩
    · rw [if_neg (by decide)] at p
      refine PySem.P.mul_str (by decide) (fun _ z => by cases z) (fun _ z => by cases z) ?_
      rw [if_neg (by decide), if_pos (show ((1 : Int) == 1 || x.length == 0) = true from rfl)]
      exact ⟨.str x, H, I, ⟨_, rfl⟩, out0 S o p (.str _)⟩
  · exact h.elim
theorem mulS_ (ha : PE X a (liftE X.K B E ta)) (hb : PE X b (liftE X.K B E tb)) : PE X (.BinOp a .Mult b pos) (liftE X.K B E (wBin fMulS ta tb)) := s_bin o_mulS ha hb
theorem gnN_ (nd : X.N.Nodup) (i : Nat) (hi : X.N[i]? = some x := by rfl) (hx : Loc X.env.scope x := by first | exact Or.inl rfl | exact Or.inr rfl) (hf : X.fn x = true ∨ X.env.scope.names.lookup x = some .local := by first | exact Or.inl rfl | exact Or.inr rfl) : PG X (.Name x pos) (liftG X.K B (.nm i)) := g_nm nd hi hx hf
end
end DL

set_option maxRecDepth 100000
set_option maxHeartbeats 4000000
set_option linter.all false
namespace DL
open PySem PySem.Spec PyProof.Rows L2
/-! ## plain things -/
abbrev IP := List (Int × Int)
def hasI (k : Int) : IP → Bool
  | [] => false
  | (g, _) :: r => if g = k then true else hasI k r
def getI (k : Int) : IP → Option Int
  | [] => none
  | (g, v) :: r => if g = k then some v else getI k r
def setI (k v : Int) : IP → IP
  | [] => []
  | (g, u) :: r => if g = k then (g, v) :: setI k v r else (g, u) :: setI k v r
def putI (ps : IP) (k v : Int) : IP := if hasI k ps = true then setI k v ps else ps ++ [(k, v)]
def lookI (ps : IP) (x : Int) : Int := (getI x ps).getD 0
def mergeI (acc ps : IP) : IP := ps.foldl (fun a p => putI a p.1 p.2) acc
def plainI (ps : IP) (p : Int) : IP := (ps.filter fun q => q.2 % p != 0).map fun q => (q.1, q.2 % p)
/-- one line of a product -/
def rowI (k v : Int) (other acc : IP) : IP := other.foldl (fun a q => putI a (k + q.1) (lookI a (k + q.1) + v * q.2)) acc
def mulI (one other : IP) : IP := one.foldl (fun a q => rowI q.1 q.2 other a) []
/-- keys ascend -/
def Asc (ps : IP) : Prop := ps.Pairwise fun p q => p.1 < q.1
def Bd (B : Int) (ps : IP) : Prop := ∀ q ∈ ps, -B ≤ q.1 ∧ q.1 ≤ B
/-- values of a row modulo p -/
def Vl (p : Int) (ps : IP) : Prop := ∀ q ∈ ps, 1 ≤ q.2 ∧ q.2 < p
def big : Int := 2 ^ 200
/-- the powers of a rule's parts, as the code makes them -/
def powI (p : Int) (ps : IP) : Nat → IP
  | 0 => [(0, 1)]
  | n + 1 => plainI (mulI (powI p ps n) ps) p
def dkI (ps : IP) : D := .dK (mkI ps)
def pwL (p : Int) (ps : IP) (n : Nat) : List D := (List.range n).map fun i => dkI (powI p ps i)
theorem pwL_succ (p : Int) (ps : IP) (n : Nat) : pwL p ps (n + 1) = pwL p ps n ++ [dkI (powI p ps n)] := by
  unfold pwL
  rw [List.range_succ, List.map_append]; rfl
end DL

set_option maxRecDepth 100000
set_option maxHeartbeats 4000000
set_option linter.all false
namespace DL
/-! ## sums over rows: rows as polynomials -/
/-- the sum of f over the cells -/
def sumF (f : Int → Int) : IP → Int
  | [] => 0
  | q :: r => f q.1 * q.2 + sumF f r
def dlt (x : Int) : Int → Int := fun y => if y = x then 1 else 0
/-- the coefficient at x -/
def cf (l : IP) (x : Int) : Int := sumF (dlt x) l
def pmul (l m : IP) : IP := l.flatMap fun q => m.map fun z => (q.1 + z.1, q.2 * z.2)
def pneg (l : IP) : IP := l.map fun q => (q.1, -q.2)
theorem sumF_app (f : Int → Int) : ∀ l m : IP, sumF f (l ++ m) = sumF f l + sumF f m
  | [], m => by show sumF f m = 0 + sumF f m; omega
  | q :: r, m => by
    have ih := sumF_app f r m
    show f q.1 * q.2 + sumF f (r ++ m) = f q.1 * q.2 + sumF f r + sumF f m
    omega
theorem sumF_neg (f : Int → Int) : ∀ l : IP, sumF f (pneg l) = -sumF f l
  | [] => rfl
  | q :: r => by
    have ih := sumF_neg f r
    show f q.1 * -q.2 + sumF f (pneg r) = -(f q.1 * q.2 + sumF f r)
    rw [ih, Int.mul_neg]; omega
theorem sumF_scale (f : Int → Int) (k v : Int) : ∀ m : IP, sumF f (m.map fun z => (k + z.1, v * z.2)) = v * sumF (fun y => f (k + y)) m
  | [] => by show (0 : Int) = v * 0; rw [Int.mul_zero]
  | q :: r => by
    have ih := sumF_scale f k v r
    show f (k + q.1) * (v * q.2) + sumF f (r.map fun z => (k + z.1, v * z.2)) = v * (f (k + q.1) * q.2 + sumF (fun y => f (k + y)) r)
    rw [ih, Int.mul_add, ← Int.mul_assoc, Int.mul_comm (f (k + q.1)) v, Int.mul_assoc]
theorem sumF_mul (f : Int → Int) : ∀ l m : IP, sumF f (pmul l m) = sumF (fun a => sumF (fun b => f (a + b)) m) l
  | [], _ => rfl
  | q :: r, m => by
    have ih := sumF_mul f r m
    show sumF f ((m.map fun z => (q.1 + z.1, q.2 * z.2)) ++ pmul r m) = sumF (fun b => f (q.1 + b)) m * q.2 + sumF (fun a => sumF (fun b => f (a + b)) m) r
    rw [sumF_app, sumF_scale, ih, Int.mul_comm q.2]
theorem sumF_congr {f g : Int → Int} (h : ∀ x, f x = g x) (l : IP) : sumF f l = sumF g l := by
  have : f = g := funext h
  rw [this]
theorem sumF_add (f g : Int → Int) : ∀ l : IP, sumF (fun x => f x + g x) l = sumF f l + sumF g l
  | [] => rfl
  | q :: r => by
    have ih := sumF_add f g r
    show (f q.1 + g q.1) * q.2 + sumF (fun x => f x + g x) r = f q.1 * q.2 + sumF f r + (g q.1 * q.2 + sumF g r)
    rw [ih, Int.add_mul]; omega
theorem sumF_mulc (f : Int → Int) (c : Int) : ∀ l : IP, sumF (fun x => f x * c) l = sumF f l * c
  | [] => by show (0 : Int) = 0 * c; rw [Int.zero_mul]
  | q :: r => by
    have ih := sumF_mulc f c r
    show f q.1 * c * q.2 + sumF (fun x => f x * c) r = (f q.1 * q.2 + sumF f r) * c
    rw [ih, Int.add_mul, Int.mul_assoc, Int.mul_comm c, ← Int.mul_assoc]
theorem sumF_zero : ∀ l : IP, sumF (fun _ => 0) l = 0
  | [] => rfl
  | q :: r => by
    have ih := sumF_zero r
    show 0 * q.2 + sumF (fun _ => 0) r = 0
    rw [ih, Int.zero_mul]; rfl
/-- two sums change places -/
theorem sumF_swap (f : Int → Int → Int) : ∀ l m : IP, sumF (fun a => sumF (fun b => f a b) m) l = sumF (fun b => sumF (fun a => f a b) l) m
  | [], m => by show 0 = sumF (fun b => 0) m; rw [sumF_zero]
  | q :: r, m => by
    have ih := sumF_swap f r m
    show sumF (fun b => f q.1 b) m * q.2 + sumF (fun a => sumF (fun b => f a b) m) r = sumF (fun b => f q.1 b * q.2 + sumF (fun a => f a b) r) m
    rw [ih, sumF_add, sumF_mulc]
/-- rows that are one polynomial -/
def Same (l m : IP) : Prop := ∀ f, sumF f l = sumF f m
theorem Same.refl (l : IP) : Same l l := fun _ => rfl
theorem Same.symm {l m : IP} (h : Same l m) : Same m l := fun f => (h f).symm
theorem Same.trans {l m n : IP} (h : Same l m) (g : Same m n) : Same l n := fun f => (h f).trans (g f)
theorem mul_comm' (l m : IP) : Same (pmul l m) (pmul m l) := fun f => by
  rw [sumF_mul, sumF_mul, sumF_swap]
  exact sumF_congr (fun b => sumF_congr (fun a => by rw [Int.add_comm]) l) m
theorem mul_assoc' (l m n : IP) : Same (pmul (pmul l m) n) (pmul l (pmul m n)) := fun f => by
  rw [sumF_mul, sumF_mul, sumF_mul]
  refine sumF_congr (fun a => ?_) l
  rw [sumF_mul]
  exact sumF_congr (fun b => sumF_congr (fun c => by rw [Int.add_assoc]) n) m
theorem mul_same {l l' m m' : IP} (h : Same l l') (g : Same m m') : Same (pmul l m) (pmul l' m') := fun f => by
  rw [sumF_mul, sumF_mul, h]
  exact sumF_congr (fun a => g _) l'
theorem app_same {l l' m m' : IP} (h : Same l l') (g : Same m m') : Same (l ++ m) (l' ++ m') := fun f => by rw [sumF_app, sumF_app, h, g]
theorem mul_one' (l : IP) : Same (pmul l [(0, 1)]) l := fun f => by
  rw [sumF_mul]
  refine sumF_congr (fun a => ?_) l
  show f (a + 0) * 1 + 0 = f a
  simp
theorem mul_add' (l m n : IP) : Same (pmul l (m ++ n)) (pmul l m ++ pmul l n) := fun f => by
  rw [sumF_app, sumF_mul, sumF_mul, sumF_mul, ← sumF_add]
  exact sumF_congr (fun a => sumF_app _ _ _) l
theorem add_comm' (l m : IP) : Same (l ++ m) (m ++ l) := fun f => by rw [sumF_app, sumF_app, Int.add_comm]
theorem neg_add' (l : IP) : Same (pneg l ++ l) [] := fun f => by
  rw [sumF_app, sumF_neg]
  show -sumF f l + sumF f l = 0
  omega
/-- what is a multiple at each place is one in each sum -/
theorem dvd_sum {p : Int} : ∀ (n : Nat) (d : IP), d.length ≤ n → (∀ x, p ∣ cf d x) → ∀ f, p ∣ sumF f d
  | _, [], _, _, f => Int.dvd_zero p
  | 0, q :: r, h, _, _ => by simp at h
  | n + 1, q :: r, hn, h, f => by
    have split : ∀ (g : Int → Int) (l : IP), sumF g l = g q.1 * cf l q.1 + sumF g (l.filter fun z => z.1 != q.1) := by
      intro g l
      induction l with
      | nil => show (0 : Int) = g q.1 * 0 + 0; omega
      | cons z s ih =>
        by_cases c : z.1 = q.1
        · rw [List.filter_cons_of_neg (by simp [c])]
          show g z.1 * z.2 + sumF g s = g q.1 * ((if z.1 = q.1 then 1 else 0) * z.2 + cf s q.1) + _
          rw [if_pos c, Int.one_mul, Int.mul_add, ih, c]; omega
        · rw [List.filter_cons_of_pos (by simpa using c)]
          show g z.1 * z.2 + sumF g s = g q.1 * ((if z.1 = q.1 then 1 else 0) * z.2 + cf s q.1) + (g z.1 * z.2 + sumF g (s.filter fun z => z.1 != q.1))
          rw [if_neg c, Int.zero_mul, Int.zero_add, ih]; omega
    rw [split f (q :: r)]
    refine Int.dvd_add (Int.dvd_mul_of_dvd_right (h q.1)) (dvd_sum n _ ?_ (fun x => ?_) f)
    · rw [List.filter_cons_of_neg (by simp)]
      have := List.length_filter_le (fun z : Int × Int => z.1 != q.1) r
      rw [List.length_cons] at hn
      omega
    · by_cases c : x = q.1
      · have e : cf ((q :: r).filter fun z => z.1 != q.1) x = 0 := by
          have key : ∀ l : IP, cf (l.filter fun z => z.1 != q.1) q.1 = 0 := by
            intro l
            induction l with
            | nil => rfl
            | cons z s ih =>
              by_cases c : z.1 = q.1
              · rw [List.filter_cons_of_neg (by simp [c])]; exact ih
              · rw [List.filter_cons_of_pos (by simpa using c)]
                show (if z.1 = q.1 then 1 else 0) * z.2 + cf _ q.1 = 0
                rw [if_neg c, ih]; omega
          rw [c]; exact key _
        rw [e]; exact Int.dvd_zero p
      · have := split (dlt x) (q :: r)
        have e : dlt x q.1 = 0 := if_neg (fun z => c z.symm)
        rw [e, Int.zero_mul, Int.zero_add] at this
        show p ∣ sumF (dlt x) _
        rw [← this]
        exact h x
/-- rows that are one polynomial modulo p -/
def SameM (p : Int) (l m : IP) : Prop := ∀ f, p ∣ sumF f l - sumF f m
theorem sameM_of {p : Int} {l m : IP} (h : ∀ x, p ∣ cf l x - cf m x) : SameM p l m := fun f => by
  have := dvd_sum (p := p) _ (l ++ pneg m) (Nat.le_refl _) (fun x => by
    show p ∣ sumF (dlt x) (l ++ pneg m)
    rw [sumF_app, sumF_neg]
    exact h x) f
  rw [sumF_app, sumF_neg] at this
  exact this
theorem Same.mod {p : Int} {l m : IP} (h : Same l m) : SameM p l m := fun f => by rw [h f, Int.sub_self]; exact Int.dvd_zero p
theorem SameM.refl (p : Int) (l : IP) : SameM p l l := (Same.refl l).mod
theorem SameM.symm {p : Int} {l m : IP} (h : SameM p l m) : SameM p m l := fun f => by
  have := Int.dvd_neg.mpr (h f)
  rw [Int.neg_sub] at this
  exact this
theorem SameM.trans {p : Int} {l m n : IP} (h : SameM p l m) (g : SameM p m n) : SameM p l n := fun f => by
  have := Int.dvd_add (h f) (g f)
  have e : sumF f l - sumF f m + (sumF f m - sumF f n) = sumF f l - sumF f n := by omega
  rwa [e] at this
theorem SameM.mul_left {p : Int} {l l' : IP} (m : IP) (h : SameM p l l') : SameM p (pmul l m) (pmul l' m) := fun f => by
  rw [sumF_mul, sumF_mul]
  exact h _
theorem SameM.mul {p : Int} {l l' m m' : IP} (h : SameM p l l') (g : SameM p m m') : SameM p (pmul l m) (pmul l' m') :=
  (h.mul_left m).trans (((mul_comm' l' m).mod).trans ((g.mul_left l').trans (mul_comm' m' l').mod))
theorem SameM.app {p : Int} {l l' m m' : IP} (h : SameM p l l') (g : SameM p m m') : SameM p (l ++ m) (l' ++ m') := fun f => by
  rw [sumF_app, sumF_app]
  have := Int.dvd_add (h f) (g f)
  have e : sumF f l - sumF f l' + (sumF f m - sumF f m') = sumF f l + sumF f m - (sumF f l' + sumF f m') := by omega
  rwa [e] at this
theorem SameM.cf_eq {p : Int} {l m : IP} (h : SameM p l m) (x : Int) : cf l x % p = cf m x % p := Int.emod_emod_of_dvd_sub (h _) where
  Int.emod_emod_of_dvd_sub {p a b : Int} (h : p ∣ a - b) : a % p = b % p := by
    obtain ⟨k, hk⟩ := h
    have : a = b + p * k := by omega
    rw [this, Int.add_mul_emod_self_left]
end DL

set_option maxRecDepth 100000
set_option maxHeartbeats 4000000
set_option linter.all false
namespace DL
/-! ## the ring of rows -/
theorem one_mul' (l : IP) : Same (pmul [(0, 1)] l) l := (mul_comm' _ _).trans (mul_one' l)
theorem mul_nil' (l : IP) : Same (pmul l []) [] := (mul_comm' _ _).trans fun _ => rfl
theorem add_mul' (l m n : IP) : Same (pmul (l ++ m) n) (pmul l n ++ pmul m n) :=
  (mul_comm' _ _).trans ((mul_add' n l m).trans (app_same (mul_comm' _ _) (mul_comm' _ _)))
def sameS : Setoid IP := ⟨Same, Same.refl, Same.symm, Same.trans⟩
def RowQ : Type := Quotient sameS
namespace RowQ
def mk (l : IP) : RowQ := Quotient.mk sameS l
theorem mk_eq {l m : IP} (h : Same l m) : mk l = mk m := Quotient.sound (s := sameS) h
theorem eq_mk {l m : IP} (h : mk l = mk m) : Same l m := Quotient.exact (s := sameS) h
def add (a b : RowQ) : RowQ := Quotient.lift₂ (s₁ := sameS) (s₂ := sameS) (fun l m => mk (l ++ m)) (fun _ _ _ _ h g => mk_eq (app_same h g)) a b
def mul (a b : RowQ) : RowQ := Quotient.lift₂ (s₁ := sameS) (s₂ := sameS) (fun l m => mk (pmul l m)) (fun _ _ _ _ h g => mk_eq (mul_same h g)) a b
def neg (a : RowQ) : RowQ := Quotient.lift (s := sameS) (fun l => mk (pneg l)) (fun l m h => mk_eq fun f => by rw [sumF_neg, sumF_neg]; exact congrArg _ (h f)) a
def cst (i : Int) : RowQ := mk [(0, i)]
def pow (a : RowQ) : Nat → RowQ
  | 0 => cst 1
  | n + 1 => mul (pow a n) a
theorem ind {P : RowQ → Prop} (h : ∀ l, P (mk l)) (a : RowQ) : P a := Quotient.ind (s := sameS) h a
theorem cst_add (i j : Int) : cst (i + j) = add (cst i) (cst j) := mk_eq fun f => by
  show f 0 * (i + j) + 0 = f 0 * i + (f 0 * j + 0)
  rw [Int.mul_add]; omega
theorem cst_zero : cst 0 = mk [] := mk_eq fun f => by
  show f 0 * 0 + 0 = 0
  omega
instance ring : Lean.Grind.CommRing RowQ where
  add := add
  mul := mul
  natCast := ⟨fun n => cst n⟩
  ofNat := fun n => ⟨cst n⟩
  nsmul := ⟨fun n a => mul (cst n) a⟩
  npow := ⟨pow⟩
  neg := neg
  sub := fun a b => add a (neg b)
  intCast := ⟨cst⟩
  zsmul := ⟨fun i a => mul (cst i) a⟩
  add_zero := fun a => by
    refine ind (P := fun a => add a (cst 0) = a) (fun l => ?_) a
    rw [cst_zero]
    exact mk_eq fun f => by rw [List.append_nil]
  add_comm := fun a b => ind (P := fun a => ∀ b, add a b = add b a) (fun l b => ind (P := fun b => add (mk l) b = add b (mk l)) (fun m => mk_eq (add_comm' l m)) b) a b
  add_assoc := fun a b c => by
    refine ind (P := fun a => ∀ b c, add (add a b) c = add a (add b c)) (fun l b c => ?_) a b c
    refine ind (P := fun b => ∀ c, add (add (mk l) b) c = add (mk l) (add b c)) (fun m c => ?_) b c
    exact ind (P := fun c => add (add (mk l) (mk m)) c = add (mk l) (add (mk m) c)) (fun n => mk_eq fun f => by rw [List.append_assoc]) c
  mul_assoc := fun a b c => by
    refine ind (P := fun a => ∀ b c, mul (mul a b) c = mul a (mul b c)) (fun l b c => ?_) a b c
    refine ind (P := fun b => ∀ c, mul (mul (mk l) b) c = mul (mk l) (mul b c)) (fun m c => ?_) b c
    exact ind (P := fun c => mul (mul (mk l) (mk m)) c = mul (mk l) (mul (mk m) c)) (fun n => mk_eq (mul_assoc' l m n)) c
  mul_one := fun a => ind (P := fun a => mul a (cst 1) = a) (fun l => mk_eq (mul_one' l)) a
  one_mul := fun a => ind (P := fun a => mul (cst 1) a = a) (fun l => mk_eq (one_mul' l)) a
  mul_comm := fun a b => ind (P := fun a => ∀ b, mul a b = mul b a) (fun l b => ind (P := fun b => mul (mk l) b = mul b (mk l)) (fun m => mk_eq (mul_comm' l m)) b) a b
  left_distrib := fun a b c => by
    refine ind (P := fun a => ∀ b c, mul a (add b c) = add (mul a b) (mul a c)) (fun l b c => ?_) a b c
    refine ind (P := fun b => ∀ c, mul (mk l) (add b c) = add (mul (mk l) b) (mul (mk l) c)) (fun m c => ?_) b c
    exact ind (P := fun c => mul (mk l) (add (mk m) c) = add (mul (mk l) (mk m)) (mul (mk l) c)) (fun n => mk_eq (mul_add' l m n)) c
  right_distrib := fun a b c => by
    refine ind (P := fun a => ∀ b c, mul (add a b) c = add (mul a c) (mul b c)) (fun l b c => ?_) a b c
    refine ind (P := fun b => ∀ c, mul (add (mk l) b) c = add (mul (mk l) c) (mul b c)) (fun m c => ?_) b c
    exact ind (P := fun c => mul (add (mk l) (mk m)) c = add (mul (mk l) c) (mul (mk m) c)) (fun n => mk_eq (add_mul' l m n)) c
  zero_mul := fun a => by
    refine ind (P := fun a => mul (cst 0) a = cst 0) (fun l => ?_) a
    rw [cst_zero]
    exact mk_eq fun f => rfl
  mul_zero := fun a => by
    refine ind (P := fun a => mul a (cst 0) = cst 0) (fun l => ?_) a
    rw [cst_zero]
    exact mk_eq (mul_nil' l)
  pow_zero := fun a => rfl
  pow_succ := fun a n => rfl
  ofNat_succ := fun n => by
    show cst ((n + 1 : Nat) : Int) = add (cst n) (cst 1)
    rw [← cst_add]; rfl
  ofNat_eq_natCast := fun n => rfl
  nsmul_eq_natCast_mul := fun n a => rfl
  neg_add_cancel := fun a => by
    refine ind (P := fun a => add (neg a) a = cst 0) (fun l => ?_) a
    rw [cst_zero]
    exact mk_eq (neg_add' l)
  sub_eq_add_neg := fun a b => rfl
  neg_zsmul := fun i a => by
    refine ind (P := fun a => mul (cst (-i)) a = neg (mul (cst i) a)) (fun l => ?_) a
    refine mk_eq fun f => ?_
    rw [sumF_neg, sumF_mul, sumF_mul]
    show sumF (fun b => f (0 + b)) l * -i + 0 = -(sumF (fun b => f (0 + b)) l * i + 0)
    rw [Int.mul_neg]; omega
  zsmul_natCast_eq_nsmul := fun n a => rfl
  intCast_ofNat := fun n => rfl
  intCast_neg := fun i => by
    refine mk_eq fun f => ?_
    rfl
end RowQ
theorem fro5 (a b : RowQ) : (a + b) ^ 5 = a ^ 5 + b ^ 5 + 5 * (a ^ 4 * b + 2 * a ^ 3 * b ^ 2 + 2 * a ^ 2 * b ^ 3 + a * b ^ 4) := by grind
theorem fro3 (a b : RowQ) : (a + b) ^ 3 = a ^ 3 + b ^ 3 + 3 * (a ^ 2 * b + a * b ^ 2) := by grind
theorem fro2 (a b : RowQ) : (a + b) ^ 2 = a ^ 2 + b ^ 2 + 2 * (a * b) := by grind
end DL

set_option maxRecDepth 100000
set_option maxHeartbeats 4000000
set_option linter.all false
namespace DL
/-! ## powers of rows, rows spread out -/
def ppow (l : IP) : Nat → IP
  | 0 => [(0, 1)]
  | n + 1 => pmul (ppow l n) l
theorem ppow_mk (l : IP) : ∀ n, RowQ.mk (ppow l n) = (RowQ.mk l) ^ n
  | 0 => rfl
  | n + 1 => by
    rw [Lean.Grind.Semiring.pow_succ, ← ppow_mk l n]; rfl
theorem ppow_add (l : IP) (m : Nat) : ∀ n, Same (ppow l (m + n)) (pmul (ppow l m) (ppow l n))
  | 0 => (mul_one' _).symm
  | n + 1 => (mul_same (ppow_add l m n) (Same.refl l)).trans (mul_assoc' _ _ _)
theorem ppow_mul (l : IP) (m : Nat) : ∀ n, Same (ppow l (m * n)) (ppow (ppow l m) n)
  | 0 => Same.refl _
  | n + 1 => (ppow_add l (m * n) m).trans (mul_same (ppow_mul l m n) (Same.refl _))
theorem ppow_mod {p : Int} {l m : IP} (h : SameM p l m) : ∀ n, SameM p (ppow l n) (ppow m n)
  | 0 => SameM.refl p _
  | n + 1 => (ppow_mod h n).mul h
def spread (p : Int) (l : IP) : IP := l.map fun q => (p * q.1, q.2)
theorem sumF_spread (p : Int) (f : Int → Int) : ∀ l : IP, sumF f (spread p l) = sumF (fun x => f (p * x)) l
  | [] => rfl
  | q :: l => by
    show f (p * q.1) * q.2 + sumF f (spread p l) = f (p * q.1) * q.2 + sumF (fun x => f (p * x)) l
    rw [sumF_spread p f l]
theorem spread_mul (p : Int) (l m : IP) : Same (spread p (pmul l m)) (pmul (spread p l) (spread p m)) := fun f => by
  rw [sumF_spread, sumF_mul, sumF_mul, sumF_spread]
  refine sumF_congr (fun a => ?_) l
  rw [sumF_spread]
  exact sumF_congr (fun b => by rw [Int.mul_add]) m
theorem spread_pow (p : Int) (l : IP) : ∀ n, Same (spread p (ppow l n)) (ppow (spread p l) n)
  | 0 => fun f => by show f (p * 0) * 1 + 0 = f 0 * 1 + 0; rw [Int.mul_zero]
  | n + 1 => (spread_mul p _ _).trans (mul_same (spread_pow p l n) (Same.refl _))
/-- p times a row is no row modulo p -/
theorem sumF_cst (i : Int) (f : Int → Int) (l : IP) : sumF f (pmul [(0, i)] l) = sumF f l * i := by
  rw [sumF_mul]
  show sumF (fun b => f (0 + b)) l * i + 0 = _
  rw [Int.add_zero]
  exact congrArg (· * i) (sumF_congr (fun x => by rw [Int.zero_add]) l)
theorem frob_add {p : Nat} (hp : p = 2 ∨ p = 3 ∨ p = 5) (l m : IP) : SameM p (ppow (l ++ m) p) (ppow l p ++ ppow m p) := by
  have key : ∀ X : RowQ, RowQ.mk (ppow (l ++ m) p) = RowQ.add (RowQ.add (RowQ.mk (ppow l p)) (RowQ.mk (ppow m p))) (RowQ.mul (RowQ.cst p) X) → SameM p (ppow (l ++ m) p) (ppow l p ++ ppow m p) := fun X => by
    refine RowQ.ind (P := fun X => RowQ.mk (ppow (l ++ m) p) = RowQ.add (RowQ.add (RowQ.mk (ppow l p)) (RowQ.mk (ppow m p))) (RowQ.mul (RowQ.cst p) X) → SameM p (ppow (l ++ m) p) (ppow l p ++ ppow m p)) (fun n e f => ?_) X
    have e : Same _ ((ppow l p ++ ppow m p) ++ pmul [(0, (p : Int))] n) := RowQ.eq_mk e
    rw [e f, sumF_app, sumF_cst]
    exact ⟨sumF f n, by rw [Int.mul_comm]; omega⟩
  have hs : RowQ.mk (l ++ m) = RowQ.mk l + RowQ.mk m := rfl
  rcases hp with rfl | rfl | rfl
  · refine key (RowQ.mk l * RowQ.mk m) ?_
    rw [ppow_mk, ppow_mk, ppow_mk, hs]
    exact fro2 _ _
  · refine key (RowQ.mk l ^ 2 * RowQ.mk m + RowQ.mk l * RowQ.mk m ^ 2) ?_
    rw [ppow_mk, ppow_mk, ppow_mk, hs]
    exact fro3 _ _
  · refine key (RowQ.mk l ^ 4 * RowQ.mk m + 2 * RowQ.mk l ^ 3 * RowQ.mk m ^ 2 + 2 * RowQ.mk l ^ 2 * RowQ.mk m ^ 3 + RowQ.mk l * RowQ.mk m ^ 4) ?_
    rw [ppow_mk, ppow_mk, ppow_mk, hs]
    exact fro5 _ _
theorem pow_one (k c : Int) : ∀ n : Nat, ppow [(k, c)] n = [((n : Int) * k, c ^ n)]
  | 0 => by
    show [(0, 1)] = [((0 : Int) * k, c ^ 0)]
    rw [Int.zero_mul, Int.pow_zero]
  | n + 1 => by
    show pmul (ppow [(k, c)] n) [(k, c)] = _
    rw [pow_one k c n]
    show [((n : Int) * k + k, c ^ n * c)] = [(((n + 1 : Nat) : Int) * k, c ^ (n + 1))]
    rw [Int.pow_succ, Int.natCast_add, Int.add_mul]
    simp
theorem powmod (c m : Int) : ∀ n : Nat, (c % m) ^ n % m = c ^ n % m
  | 0 => by rw [Int.pow_zero, Int.pow_zero]
  | n + 1 => by rw [Int.pow_succ, Int.pow_succ, Int.mul_emod, powmod c m n, Int.emod_emod, ← Int.mul_emod]
theorem fermat {p : Nat} (hp : p = 2 ∨ p = 3 ∨ p = 5) (c : Int) : (p : Int) ∣ c ^ p - c := by
  have h : ∀ (m : Int), 0 < m → (∀ r : Int, 0 ≤ r → r < m → (r ^ p - r) % m = 0) → m ∣ c ^ p - c := fun m hm h => by
    refine Int.dvd_of_emod_eq_zero ?_
    have := h (c % m) (Int.emod_nonneg _ (by omega)) (Int.emod_lt_of_pos _ hm)
    rw [Int.sub_emod] at this ⊢
    rw [Int.emod_emod, powmod] at this
    exact this
  rcases hp with rfl | rfl | rfl
  · refine h 2 (by decide) fun r h0 h1 => ?_
    have : r = 0 ∨ r = 1 := by omega
    rcases this with rfl | rfl <;> decide
  · refine h 3 (by decide) fun r h0 h1 => ?_
    have : r = 0 ∨ r = 1 ∨ r = 2 := by omega
    rcases this with rfl | rfl | rfl <;> decide
  · refine h 5 (by decide) fun r h0 h1 => ?_
    have : r = 0 ∨ r = 1 ∨ r = 2 ∨ r = 3 ∨ r = 4 := by omega
    rcases this with rfl | rfl | rfl | rfl | rfl <;> decide
theorem frob {p : Nat} (hp : p = 2 ∨ p = 3 ∨ p = 5) : ∀ l : IP, SameM p (ppow l p) (spread p l)
  | [] => by
    have : ∃ n, p = n + 1 := by rcases hp with rfl | rfl | rfl <;> exact ⟨_, rfl⟩
    obtain ⟨n, e⟩ := this
    rw [e]
    exact (mul_nil' _).mod
  | (k, c) :: l => by
    refine (frob_add hp [(k, c)] l).trans ?_
    refine SameM.app (l' := [((p : Int) * k, c)]) ?_ (frob hp l)
    rw [pow_one]
    intro f
    show (p : Int) ∣ (f (p * k) * c ^ p + 0) - (f (p * k) * c + 0)
    obtain ⟨z, hz⟩ := fermat hp c
    refine ⟨f (p * k) * z, ?_⟩
    have : c ^ p = c + p * z := by omega
    rw [this, Int.mul_add, Int.mul_left_comm]; omega
/-! ## the cells with a remainder -/
def partI (p r : Int) (l : IP) : IP := (l.filter fun q => q.1 % p == r).map fun q => (q.1 / p, q.2)
theorem part_spread {p : Int} (hp : 0 < p) (x : Int) (C : IP) : ∀ B : IP, cf (pmul B (spread p C)) x = cf (pmul (partI p (x % p) B) C) (x / p)
  | [] => rfl
  | (k, v) :: B => by
    have ih := part_spread hp x C B
    unfold cf at ih ⊢
    rw [sumF_mul, sumF_mul] at ih ⊢
    show sumF (fun b => dlt x (k + b)) (spread p C) * v + sumF (fun a => sumF (fun b => dlt x (a + b)) (spread p C)) B = _
    rw [ih, sumF_spread]
    unfold partI
    rw [List.filter_cons]
    by_cases c : k % p = x % p
    · rw [if_pos (by simpa using c)]
      show _ = sumF (fun b => dlt (x / p) (k / p + b)) C * v + _
      refine congrArg (· * v + _) (sumF_congr (fun b => ?_) C)
      unfold dlt
      have e1 := Int.mul_ediv_add_emod k p
      have e2 := Int.mul_ediv_add_emod x p
      by_cases d : k / p + b = x / p
      · rw [if_pos d, if_pos]
        rw [← d, Int.mul_add] at e2; omega
      · rw [if_neg d, if_neg]
        intro h
        refine d ?_
        have : p * (k / p + b) = p * (x / p) := by rw [Int.mul_add]; omega
        exact Int.eq_of_mul_eq_mul_left (by omega) this
    · rw [if_neg (by simpa using c)]
      have : sumF (fun b => dlt x (k + p * b)) C = 0 := by
        rw [← sumF_zero C]
        refine sumF_congr (fun b => ?_) C
        unfold dlt
        rw [if_neg]
        intro h
        refine c ?_
        rw [← h, Int.add_mul_emod_self_left]
      rw [this, Int.zero_mul, Int.zero_add]
/-- a far row, digit by digit -/
theorem digit {p : Nat} (hp : p = 2 ∨ p = 3 ∨ p = 5) (A R : IP) (n : Nat) (x : Int) :
    cf (pmul A (ppow R n)) x % p = cf (pmul (partI p (x % p) (pmul A (ppow R (n % p)))) (ppow R (n / p))) (x / p) % p := by
  have hp0 : (0 : Int) < p := by rcases hp with rfl | rfl | rfl <;> decide
  rw [← part_spread hp0]
  refine SameM.cf_eq ?_ x
  have e : n = n % p + p * (n / p) := (Nat.mod_add_div n p).symm
  have h1 : Same (ppow R n) (pmul (ppow R (n % p)) (ppow (ppow R p) (n / p))) := by
    have := ppow_add R (n % p) (p * (n / p))
    rw [← e] at this
    exact this.trans (mul_same (Same.refl _) (ppow_mul R p (n / p)))
  refine (mul_same (Same.refl A) h1).mod.trans ?_
  refine (mul_assoc' A _ _).symm.mod.trans ?_
  refine (SameM.refl _ _).mul ?_
  exact (ppow_mod (frob hp R) _).trans (spread_pow p R _).symm.mod
end DL

set_option maxRecDepth 100000
set_option maxHeartbeats 4000000
set_option linter.all false
namespace DL
open PySem PySem.Spec PyProof.Rows L2
structure Kind (p : Int) (ts : IP) : Prop where
  pr : p = 2 ∨ p = 3 ∨ p = 5
  ne : ts ≠ []
  len : ts.length ≤ 8
  co : ∀ q ∈ ts, 1 ≤ q.1 ∧ q.1 < p
  nd : (ts.map (·.2)).Nodup
  bd : ∀ q ∈ ts, -100 ≤ q.2 ∧ q.2 ≤ 100
/-- a rule's parts: offsets ascend -/
structure Parts (p : Int) (ps : IP) : Prop where
  pr : p = 2 ∨ p = 3 ∨ p = 5
  asc : Asc ps
  len : ps.length ≤ 8
  co : Vl p ps
  bd : Bd 100 ps
  ne : ps ≠ []
structure Row (p : Int) (B : Int) (n : Nat) (ps : IP) : Prop where
  asc : Asc ps
  vl : Vl p ps
  bd : Bd B ps
  len : ps.length ≤ n
def swapI (ps : IP) : IP := ps.map fun q => (q.2, q.1)
/-- what stood outside S stands -/
def ExB (S : List Addr) (W W' : WS) : Prop := ∀ b ob, b ∉ S → W b = some ob → W' b = some ob
structure PoolOk (W : WS) (a : Addr) (n : Nat) : Prop where
  ex : ∃ p0 p1 p2 : Int, W a = some (.lst [.int p0, .int p1, .int p2]) ∧ 0 ≤ p0 ∧ 0 ≤ p1 ∧ p1 < 2 ^ 64 ∧ 0 ≤ p2 ∧ p2 ≤ n
structure RuleAt (C : Addr) (W : WS) (a : Addr) (p : Int) (ps : IP) : Prop where
  ex : ∃ pw lo : Addr, W a = some (.ins C [("modulus", .int p), ("parts", .ptup (ps.map prD)), ("powers", .obj pw), ("lowered", .obj lo)]) ∧ W pw = some (.lst (pwL p ps p.toNat))
/-! ## contracts -/
def sp__law_pool (C : Addr) : DSp := fun ds W Q _ => ∃ (is : List Int) (i : Nat), ds = [.klst (is.map D.int), .int i] ∧ i ≤ 63 ∧ is.length ≤ 63 ∧ ∀ a l, W a = none → PoolOk (W.put a (.lst l)) a 0 → Q (.obj a) (W.put a (.lst l))
def sp__law_draw (C : Addr) : DSp := fun ds W Q _ => ∃ (a : Addr) (m : Int) (n : Nat), ds = [.obj a, .int m] ∧ 0 < m ∧ m < 2 ^ 150 ∧ n ≤ 1000000 ∧ PoolOk W a n ∧ ∀ (r : Int) l, 0 ≤ r → r < m → PoolOk (W.put a (.lst l)) a (n + 1) → Q (.int r) (W.put a (.lst l))
def sp__law_kind (C : Addr) : DSp := fun ds W Q _ => ∃ (a : Addr) (n : Nat), ds = [.obj a] ∧ n ≤ 900000 ∧ PoolOk W a n ∧ ∀ p ts W', Kind p ts → ts.length ≤ 5 → (∀ q ∈ ts, ∀ z ∈ ts, q.2 - z.2 ≤ 4) → ExB [a] W W' → PoolOk W' a (n + 100) → Q (.tup [.int p, .lst (ts.map prD)]) W'
def sp_cells_of (C : Addr) : DSp := fun ds W Q _ => ∃ d ps, ds = [d] ∧ (view W d = .lst (ps.map prD) ∨ d = .ptup (ps.map prD)) ∧ Q (.dK (mkI (mergeI [] ps))) W
def sp_row_of (C : Addr) : DSp := fun ds W Q _ => ∃ ps : IP, ds = [.dK (mkI ps)] ∧ ∀ (qs : IP) (a : Addr), qs.Perm ps → qs.Pairwise lexLe → W a = none → Q (.obj a) (W.put a (.lst (qs.map prD)))
def sp_plain (C : Addr) : DSp := fun ds W Q _ => ∃ ps p, ds = [.dK (mkI ps), .int p] ∧ 0 < p ∧ (ps.map (·.1)).Nodup ∧ ps.length < sizeLine ∧ Q (.dK (mkI (plainI ps p))) W
def sp_multiplied (C : Addr) : DSp := fun ds W Q _ => ∃ one other p, ds = [.dK (mkI one), .dK (mkI other), .int p] ∧ 0 < p ∧ one.length * other.length ≤ 1000000 ∧ (∀ q ∈ one, q.2.natAbs < 2 ^ 60) ∧ (∀ q ∈ other, q.2.natAbs < 2 ^ 60) ∧
  ∀ W', ExB [] W W' → Q (.dK (mkI (plainI (mulI one other) p))) W'
def sp_check_terms (C : Addr) : DSp := fun ds W Q _ => ∃ p ts, ds = [.int p, .lst (ts.map prD)] ∧ Kind p ts ∧ ∀ W', ExB [] W W' → Q .non W'
def sp_Rule_init (C : Addr) : DSp := fun ds W Q _ => ∃ a p ts, ds = [.obj a, .int p, .lst (ts.map prD)] ∧ W a = some (.ins C []) ∧ Kind p ts ∧
  ∀ (qs : IP) W', qs.Perm (swapI ts) → Parts p qs → ExB [a] W W' → RuleAt C W' a p qs → Q .non W'
def sp_Rule_eq (C : Addr) : DSp := fun ds W Q _ => ∃ a b p q ps qs, ds = [.obj a, .obj b] ∧ RuleAt C W a p ps ∧ RuleAt C W b q qs ∧ ps.length ≤ 100 ∧ qs.length ≤ 100 ∧ Q (.bl (decide (p = q ∧ ps = qs))) W
def sp_Rule_prime (C : Addr) : DSp := fun ds W Q _ => ∃ a p ps, ds = [.obj a] ∧ RuleAt C W a p ps ∧ Q (.int p) W
def sp_Rule_terms (C : Addr) : DSp := fun ds W Q _ => ∃ a p ps, ds = [.obj a] ∧ RuleAt C W a p ps ∧ ps.length ≤ 100 ∧ Q (.lst ((swapI ps).map prD)) W
def negI (ps : IP) : IP := ps.map fun q => (-q.1, q.2)
def sp_Rule_mirrored (C : Addr) : DSp := fun ds W Q _ => ∃ a p ps, ds = [.obj a] ∧ RuleAt C W a p ps ∧ Parts p ps ∧
  ∀ b W', W b = none → Parts p (negI ps).reverse → ExB [] W W' → RuleAt C W' b p (negI ps).reverse → Q (.obj b) W'
def sp_check_row (C : Addr) : DSp := fun ds W Q _ => ∃ a p ps rs d, ds = [.obj a, d] ∧ view W d = .lst (rs.map prD) ∧ RuleAt C W a p ps ∧ Asc rs ∧ Vl p rs ∧ Q .non W
/-- the row behind a step -/
def Next (p : Int) (ps rs qs : IP) : Prop := Asc qs ∧ Vl p qs ∧ ∀ x, lookI qs x = lookI (mulI rs ps) x % p
def sp_Rule_next_row (C : Addr) : DSp := fun ds W Q _ => ∃ a p ps rs d, ds = [.obj a, d] ∧ view W d = .lst (rs.map prD) ∧ RuleAt C W a p ps ∧ Parts p ps ∧ Asc rs ∧ Vl p rs ∧ rs.length ≤ 10000 ∧
  ∀ qs b W', Next p ps rs qs → W b = none → ExB [] W W' → W' b = some (.lst (qs.map prD)) → Q (.obj b) W'
def sp__law_made (C : Addr) : DSp := fun ds W Q _ => ∃ p ts, ds = [.tup [.int p, .lst (ts.map prD)]] ∧ Kind p ts ∧ ∀ (a : Addr) (qs : IP) W', W a = none → qs.Perm (swapI ts) → Parts p qs → ExB [] W W' → RuleAt C W' a p qs → Q (.obj a) W'
/-- some 50 places -/
def Win40 (rs : IP) : Prop := ∃ lo, ∀ q ∈ rs, lo ≤ q.1 ∧ q.1 ≤ lo + 50
def sp__law_row (C : Addr) : DSp := fun ds W Q _ => ∃ a p ts m far n, ds = [.obj a, .tup [.int p, .lst (ts.map prD)], .int m, .int far] ∧ Kind p ts ∧ 0 < m ∧ m ≤ 60 ∧ 0 ≤ far ∧ far ≤ 10 ^ 30 ∧ n ≤ 900000 ∧ PoolOk W a n ∧
  ∀ rs W', Row p (10 ^ 31) 100 rs → Win40 rs → rs ≠ [] → (rs.length : Int) ≤ m → ExB [a] W W' → PoolOk W' a (n + 1000) → Q (.lst (rs.map prD)) W'
def sp__law_step (C : Addr) : DSp := fun ds W Q _ => ∃ p ts rs, ds = [.tup [.int p, .lst (ts.map prD)], .dK (mkI rs)] ∧ Kind p ts ∧ (rs.map (·.1)).Nodup ∧ Vl p rs ∧ rs.length ≤ 10000 ∧
  ∀ qs W', (qs.map (·.1)).Nodup → Vl p qs → (∀ x, lookI qs x = lookI (mulI rs (swapI ts)) x % p) → ExB [] W W' → Q (.dK (mkI qs)) W'
def Win (lo hi : Int) (ps : IP) : Prop := ∀ q ∈ ps, lo ≤ q.1 ∧ q.1 ≤ hi
def Walk (p : Int) (ts : IP) : IP → List IP → Prop
  | _, [] => True
  | cur, q :: L => (q.map (·.1)).Nodup ∧ Vl p q ∧ (∀ x, lookI q x = lookI (mulI cur (swapI ts)) x % p) ∧ Walk p ts q L
def sp__law_walk (C : Addr) : DSp := fun ds W Q _ => ∃ p ts rs m lo hi, ds = [.tup [.int p, .lst (ts.map prD)], .lst (rs.map prD), .int m] ∧ Kind p ts ∧ Asc rs ∧ Vl p rs ∧ Win lo hi rs ∧ hi - lo ≤ 1000 ∧ lo ≤ hi + 1 ∧ 0 ≤ m ∧ m ≤ 40 ∧
  ∀ L W', Walk p ts rs L → (L.length : Int) = m → ExB [] W W' → Q (.lst ((rs :: L).map dkI)) W'
def sp__law_turned (C : Addr) : DSp := fun ds W Q _ => ∃ rs : IP, ds = [.dK (mkI rs)] ∧ (rs.map (·.1)).Nodup ∧ rs.length ≤ 100000 ∧ ∀ qs : IP, qs.Perm (negI rs) → qs.Pairwise lexLe → Q (.lst (qs.map prD)) W
def sp_parted (C : Addr) : DSp := fun ds W Q _ => ∃ ps p r, ds = [.dK (mkI ps), .int p, .int r] ∧ 0 < p ∧ p ≤ 5 ∧ (ps.map (·.1)).Nodup ∧ ps.length < sizeLine ∧ Q (.dK (mkI (partI p r ps))) W
def sp_check_number (C : Addr) : DSp := fun ds W Q _ => ∃ n l : Int, ds = [.int n, .int l] ∧ l ≤ n ∧ Q .non W
def sp_check_far (C : Addr) : DSp := fun ds W Q _ => ∃ a p ps rs, ∃ n : Int, ds = [.obj a, .lst (rs.map prD), .int n] ∧ RuleAt C W a p ps ∧ Asc rs ∧ Vl p rs ∧ 0 ≤ n ∧ Q .non W
/-- a cell of a far row -/
def FarV (p : Int) (ps rs : IP) (n : Nat) (x : Int) : Int := cf (pmul rs (ppow ps n)) x % p
def sp_far_value (C : Addr) : DSp := fun ds W Q _ => ∃ a p ps cs lo hi, ∃ n x : Int, ds = [.dK (mkI cs), .int p, .lst [.tup [.obj a, .int n]], .int x] ∧ RuleAt C W a p ps ∧ Parts p ps ∧ (cs.map (·.1)).Nodup ∧ Vl p cs ∧ Win lo hi cs ∧ lo ≤ hi + 1 ∧ hi - lo ≤ 1000 ∧ 0 ≤ n ∧
  ∀ W', ExB [] W W' → Q (.int (FarV p ps cs n.toNat x)) W'
def sp_cell_at (C : Addr) : DSp := fun ds W Q _ => ∃ a p ps cs lo hi, ∃ n x : Int, ds = [.obj a, .lst (cs.map prD), .int n, .int x] ∧ RuleAt C W a p ps ∧ Parts p ps ∧ Asc cs ∧ Vl p cs ∧ Win lo hi cs ∧ lo ≤ hi + 1 ∧ hi - lo ≤ 1000 ∧ 0 ≤ n ∧
  ∀ W', ExB [] W W' → Q (.int (FarV p ps cs n.toNat x)) W'
def sp_value_in (C : Addr) : DSp := fun ds W Q _ => ∃ a p ps cs lo hi d, ∃ n x : Int, ds = [.obj a, d, .int n, .int x] ∧ (view W d = .lst (cs.map prD) ∨ d = .ptup (cs.map prD)) ∧ RuleAt C W a p ps ∧ Parts p ps ∧ Asc cs ∧ Vl p cs ∧ Win lo hi cs ∧ lo ≤ hi + 1 ∧ hi - lo ≤ 1000 ∧ 0 ≤ n ∧
  ∀ W', ExB [] W W' → Q (.int (FarV p ps cs n.toNat x)) W'
def sp_least_offset (C : Addr) : DSp := fun ds W Q _ => ∃ a p o ps, ds = [.obj a] ∧ RuleAt C W a p (o :: ps) ∧ Q (.int o.1) W
def sp_width_of (C : Addr) : DSp := fun ds W Q _ => ∃ a p o ps z, ds = [.obj a] ∧ RuleAt C W a p (o :: ps) ∧ (o :: ps).getLast? = some z ∧ Q (.int (z.1 - o.1)) W
def sp_ends_of (C : Addr) : DSp := fun ds W Q _ => ∃ a p o ps z rs, ∃ n : Int, ds = [.obj a, .lst (rs.map prD), .int n] ∧ RuleAt C W a p (o :: ps) ∧ Parts p (o :: ps) ∧ (o :: ps).getLast? = some z ∧ Asc rs ∧ Vl p rs ∧ 0 ≤ n ∧ n < 2 ^ 150 ∧
  (rs = [] → Q .non W) ∧ ∀ f r l, rs = f :: r → rs.getLast? = some l → Q (.tup [.int (f.1 + n * o.1), .int (l.1 + n * z.1)]) W
def sp__law_number (C : Addr) : DSp := fun ds W Q _ => ∃ a p ts n, ds = [.obj a, .tup [.int p, .lst (ts.map prD)]] ∧ Kind p ts ∧ n ≤ 900000 ∧ PoolOk W a n ∧ ∀ m W', 0 ≤ m → m ≤ 10 ^ 30 → ExB [a] W W' → PoolOk W' a (n + 10) → Q (.int m) W'
def sp__law_ends (C : Addr) : DSp := fun ds W Q _ => ∃ p ts o ps z f r l, ∃ n : Int, ds = [.tup [.int p, .lst (ts.map prD)], .lst ((f :: r).map prD), .int n] ∧ Kind p ts ∧ (o :: ps).Perm (swapI ts) ∧ Asc (o :: ps) ∧ (o :: ps).getLast? = some z ∧ (f :: r).getLast? = some l ∧ (f :: r).length ≤ 10000 ∧ 0 ≤ n ∧ n < 2 ^ 150 ∧
  Q (.tup [.int (f.1 + n * o.1), .int (l.1 + n * z.1)]) W
/-- rows, each the next of the one before -/
def Chain (p : Int) (ps : IP) : IP → List IP → Prop
  | _, [] => True
  | cur, q :: L => Next p ps cur q ∧ Chain p ps q L
def rowD (r : IP) : D := .lst (r.map prD)
def sp_rows_until (C : Addr) : DSp := fun ds W Q _ => ∃ a p ps rs lo hi, ∃ n : Nat, ds = [.obj a, .lst (rs.map prD), .int n] ∧ RuleAt C W a p ps ∧ Parts p ps ∧ Asc rs ∧ Vl p rs ∧ Win lo hi rs ∧ lo ≤ hi + 1 ∧ hi - lo ≤ 500 ∧ n ≤ 40 ∧
  ∀ L b W', Chain p ps rs L → L.length = n → W b = none → ExB [] W W' → W' b = some (.lst ((rs :: L).map rowD)) → Q (.obj b) W'
def sp__law_spot (C : Addr) : DSp := fun ds W Q _ => ∃ a p ts o ps z f r l, ∃ n : Int, ∃ k : Nat, ds = [.obj a, .tup [.int p, .lst (ts.map prD)], .lst ((f :: r).map prD), .int n] ∧ Kind p ts ∧ (o :: ps).Perm (swapI ts) ∧ Parts p (o :: ps) ∧ (o :: ps).getLast? = some z ∧ Row p (10 ^ 31) 100 (f :: r) ∧ (f :: r).getLast? = some l ∧ 0 ≤ n ∧ n ≤ 10 ^ 30 ∧ k ≤ 900000 ∧ PoolOk W a k ∧
  ∀ x W', ExB [a] W W' → PoolOk W' a (k + 10) → Q (.int x) W'
def sp__law_power_right (C : Addr) : DSp := fun ds W Q _ => ∃ a b p ts ps rs, ∃ k : Nat, ds = [.obj a, .tup [.int p, .lst (ts.map prD)], .obj b, .lst (rs.map prD)] ∧ Kind p ts ∧ ps.Perm (swapI ts) ∧ Parts p ps ∧ RuleAt C W b p ps ∧ a ≠ b ∧ Asc rs ∧ Vl p rs ∧ Win40 rs ∧ rs.length ≤ 8 ∧ ts.length ≤ 7 ∧ k ≤ 900000 ∧ PoolOk W a k ∧
  ∀ W', ExB [a] W W' → PoolOk W' a (k + 10) → Q (.bl true) W'
def sp__law_sum_right (C : Addr) : DSp := fun ds W Q _ => ∃ a b p ts ps rs qs lo hi, ∃ n x : Int, ds = [.obj a, .tup [.int p, .lst (ts.map prD)], .obj b, .lst (rs.map prD), .lst (qs.map prD), .int n, .int x] ∧ Kind p ts ∧ Parts p ps ∧ RuleAt C W b p ps ∧ Asc rs ∧ Vl p rs ∧ Asc qs ∧ Vl p qs ∧ Win lo hi rs ∧ Win lo hi qs ∧ lo ≤ hi + 1 ∧ hi - lo ≤ 200 ∧ 0 ≤ n ∧
  ∀ W', ExB [] W W' → Q (.bl true) W'
/-- so many steps lead from a row to a row -/
def FarRow (p : Int) (ps q : IP) (n : Nat) (rs : IP) : Prop := Asc q ∧ Vl p q ∧ SameM p rs (pmul q (ppow ps n))
def shI (k : Int) (l : IP) : IP := l.map fun q => (q.1 + k, q.2)
def sp_cells_of_o (C : Addr) : DSp := fun ds W Q _ => ∃ d ps, ds = [d] ∧ view W d = .lst (ps.map prD) ∧ ∀ a, W a = none → Q (.obj a) (W.put a (.dK (mkI (mergeI [] ps))))
def sp_inverse (C : Addr) : DSp := fun ds W Q _ => ∃ v p : Int, ds = [.int v, .int p] ∧ (p = 2 ∨ p = 3 ∨ p = 5) ∧ 1 ≤ v ∧ v < p ∧ ∀ i, 1 ≤ i → i < p → i * v % p = 1 → Q (.int i) W
def sp_moved (C : Addr) : DSp := fun ds W Q _ => ∃ ps k, ds = [.dK (mkI ps), .int k] ∧ (ps.map (·.1)).Nodup ∧ ps.length < sizeLine ∧ Q (.dK (mkI (shI k ps))) W
def sp_order_of (C : Addr) : DSp := fun ds W Q _ => ∃ v p : Int, ds = [.int v, .int p] ∧ (p = 2 ∨ p = 3 ∨ p = 5) ∧ 1 ≤ v ∧ v < p ∧ ∀ d : Nat, 1 ≤ d → d ≤ 4 → v ^ d % p = 1 → (∀ k : Nat, 1 ≤ k → k < d → v ^ k % p ≠ 1) → Q (.int d) W
/-- a power of a value, of its inverse for numbers below 0 -/
def PwOf (p v t f : Int) : Prop := 1 ≤ f ∧ f < p ∧ (0 ≤ t → f = v ^ t.toNat % p) ∧ (t ≤ 0 → f * v ^ (-t).toNat % p = 1)
def sp_power_of (C : Addr) : DSp := fun ds W Q _ => ∃ v t p : Int, ds = [.int v, .int t, .int p] ∧ (p = 2 ∨ p = 3 ∨ p = 5) ∧ 1 ≤ v ∧ v < p ∧ ∀ f, PwOf p v t f → Q (.int f) W
def sp_carried (C : Addr) : DSp := fun ds W Q _ => ∃ a p o rs, ∃ t : Int, ds = [.obj a, .lst (rs.map prD), .int t] ∧ RuleAt C W a p [o] ∧ Parts p [o] ∧ Asc rs ∧ Vl p rs ∧ rs.length ≤ 100000 ∧ t.natAbs < 2 ^ 150 ∧
  ∀ f qs b W', PwOf p o.2 t f → Asc qs → Vl p qs → qs = rs.map (fun q => (q.1 + t * o.1, q.2 * f % p)) → W b = none → ExB [] W W' → W' b = some (.lst (qs.map prD)) → Q (.obj b) W'
def sp_divided (C : Addr) : DSp := fun ds W Q _ => ∃ a p ps rs lo hi, ds = [.obj a, .lst (rs.map prD)] ∧ RuleAt C W a p ps ∧ Parts p ps ∧ Asc rs ∧ Vl p rs ∧ Win lo hi rs ∧ lo ≤ hi + 1 ∧ hi - lo ≤ 10000 ∧
  (∀ q b W', FarRow p ps q 1 rs → W b = none → ExB [] W W' → W' b = some (.lst (q.map prD)) → Q (.obj b) W') ∧ (∀ W', (¬ ∃ q, FarRow p ps q 1 rs) → ExB [] W W' → Q .non W')
def sp_row_before (C : Addr) : DSp := sp_divided C
def sp_came_from (C : Addr) : DSp := fun ds W Q _ => ∃ a p ps rs lo hi, ∃ n : Int, ds = [.obj a, .lst (rs.map prD), .int n] ∧ RuleAt C W a p ps ∧ Parts p ps ∧ Asc rs ∧ Vl p rs ∧ Win lo hi rs ∧ lo ≤ hi + 1 ∧ hi - lo ≤ 10000 ∧ 0 ≤ n ∧ n < 2 ^ 150 ∧
  (∀ q b W', FarRow p ps q n.toNat rs → W b = none → ExB [] W W' → W' b = some (.lst (q.map prD)) → Q (.obj b) W') ∧ (∀ W', (¬ ∃ q, FarRow p ps q n.toNat rs) → ExB [] W W' → Q .non W')
def sp__law_close (C : Addr) : DSp := fun ds W Q _ => ∃ a p ts m w n, ds = [.obj a, .tup [.int p, .lst (ts.map prD)], .int m, .int w] ∧ Kind p ts ∧ 0 < m ∧ m ≤ 60 ∧ 0 ≤ w ∧ n ≤ 900000 ∧ PoolOk W a n ∧
  ∀ rs W', Row p (10 ^ 31) 100 rs → Win40 rs → rs ≠ [] → (rs.length : Int) ≤ m → ExB [a] W W' → PoolOk W' a (n + 1000) → Q (.lst (rs.map prD)) W'
def sp_rows_back (C : Addr) : DSp := fun ds W Q _ => ∃ a p ps rs lo hi, ds = [.obj a, .lst (rs.map prD)] ∧ RuleAt C W a p ps ∧ Parts p ps ∧ Asc rs ∧ Vl p rs ∧ Win lo hi rs ∧ lo ≤ hi + 1 ∧ hi - lo ≤ 10000 ∧
  (rs = [] ∨ ps.length = 1 → ∀ W', ExB [] W W' → Q .non W') ∧ (rs ≠ [] → ps.length ≠ 1 → ∀ n W', n ≤ 10000 → (∃ q, FarRow p ps q n rs) → (¬ ∃ q, FarRow p ps q (n + 1) rs) → ExB [] W W' → Q (.int (n : Nat)) W')
/-! ## stretches of far rows, the memo of them -/
def sp_check_stretch (C : Addr) : DSp := fun ds W Q _ => ∃ lo hi : Int, ds = [.int lo, .int hi] ∧ lo ≤ hi ∧ Q .non W
def keyN (cs : IP) (n lo hi : Int) : NestedKey := .tup [.tup (cs.map fun q => .tup [.num q.1, .num q.2]), .num n, .tup [.num lo, .num hi]]
/-- the cells of a stretch -/
def lineV (p : Int) (ps cs : IP) (n : Nat) (lo : Int) (m : Nat) : List D := (List.range m).map fun i => .int (FarV p ps cs n (lo + (i : Nat)))
/-- the keys that a stretch may ask for -/
inductive Reach (p : Int) (ps : IP) : IP → Int → Int → Int → NestedKey → Prop
  | here {cs : IP} {n lo hi : Int} : 0 < n → Reach p ps cs n lo hi (keyN cs n lo hi)
  | step {cs qs : IP} {n lo hi r : Int} {k : NestedKey} : 0 < n → 0 ≤ r → r < p → qs.Perm (partI p r (plainI (mulI cs (powI p ps (n % p).toNat)) p)) → Asc qs → -((r - lo) / p) ≤ (hi - r) / p →
      Reach p ps qs (n / p) (-((r - lo) / p)) ((hi - r) / p) k → Reach p ps cs n lo hi k
/-- what the memo holds is right: lists of the store, made since -/
structure MemoOk (p : Int) (ps : IP) (W : WS) (S : Addr → Prop) (U : List NestedKey) (kvs : List (NestedKey × D)) : Prop where
  ok : ∀ k d, getKD k kvs = some d → ∃ cs n lo hi b, k = keyN cs n lo hi ∧ 0 ≤ n ∧ lo ≤ hi ∧ d = .obj b ∧ ¬ S b ∧ W b = some (.lst (lineV p ps cs n.toNat lo (hi - lo + 1).toNat))
  nd : (kvs.map (·.1)).Nodup
  sub : ∀ k ∈ kvs.map (·.1), k ∈ U
def bigB : Int := 2 ^ 400
def sp_cells_between (C : Addr) : DSp := fun ds W Q _ => ∃ a p ps cs lo0 hi0, ∃ (U : List NestedKey) (n lo hi : Int), ds = [.obj a, .lst (cs.map prD), .int n, .int lo, .int hi] ∧ RuleAt C W a p ps ∧ Parts p ps ∧ Asc cs ∧ Vl p cs ∧ Win lo0 hi0 cs ∧ lo0 ≤ hi0 + 1 ∧ hi0 - lo0 ≤ 1000 ∧ 0 ≤ n ∧ n < 2 ^ 100 ∧ lo ≤ hi ∧ hi - lo ≤ 1000 ∧ -bigB ≤ lo ∧ hi ≤ bigB ∧
  (∀ k, Reach p ps cs n lo hi k → k ∈ U) ∧ U.length < sizeLine ∧
  ∀ b W', W b = none → W' b = some (.lst (lineV p ps cs n.toNat lo (hi - lo + 1).toNat)) → ExB [] W W' → Q (.obj b) W'
/-- far_stretch, for numbers below p ^ N; U: where the memo's keys are -/
def sp_far_stretchU (C : Addr) (N : Nat) : DSp := fun ds W Q _ => ∃ a p ps cs lo0 hi0 m kvs, ∃ (U : List NestedKey) (S : Addr → Prop) (n lo hi : Int), ds = [.obj a, .ptup (cs.map prD), .int n, .tup [.int lo, .int hi], .obj m] ∧ RuleAt C W a p ps ∧ Parts p ps ∧ Asc cs ∧ Vl p cs ∧ Win lo0 hi0 cs ∧ lo0 ≤ hi0 + 1 ∧ hi0 - lo0 ≤ 1000 ∧ 0 ≤ n ∧ n.toNat < p.toNat ^ N ∧ lo ≤ hi ∧ hi - lo ≤ 1000 ∧ -bigB ≤ lo ∧ hi ≤ bigB ∧
  W m = some (.dN kvs) ∧ MemoOk p ps W S U kvs ∧ (∀ b, S b → W b ≠ none) ∧ (∀ k, Reach p ps cs n lo hi k → k ∈ U) ∧ U.length < sizeLine ∧
  ∀ kvs' b W', MemoOk p ps W' S U kvs' → W' m = some (.dN kvs') → ¬ S b → W' b = some (.lst (lineV p ps cs n.toNat lo (hi - lo + 1).toNat)) → ExB [m] W W' → Q (.obj b) W'
def sp_far_stretch (C : Addr) : DSp := sp_far_stretchU C 100
def sp__law_all (C : Addr) : DSp := fun ds W Q _ => ∃ p ts, ∃ lo : Int, ∃ n : Nat, ds = [.tup [.int p, .lst (ts.map prD)], .int lo, .int n] ∧ Kind p ts ∧ p.toNat ^ n ≤ 1000 ∧
  ∀ (L : List IP) W', (∀ r, r ∈ L ↔ Asc r ∧ Vl p r ∧ ∀ q ∈ r, lo ≤ q.1 ∧ q.1 < lo + n) → ExB [] W W' → Q (.lst (L.map fun r => .lst (r.map prD))) W'
def sp__law_one_term_right (C : Addr) : DSp := fun ds W Q _ => ∃ a b p t rs o n, ds = [.obj a, .tup [.int p, .lst ([t].map prD)], .obj b, .lst (rs.map prD)] ∧ Kind p [t] ∧ o = (t.2, t.1) ∧ Parts p [o] ∧ RuleAt C W b p [o] ∧ a ≠ b ∧ Asc rs ∧ Vl p rs ∧ Bd (10 ^ 31) rs ∧ rs.length ≤ 100 ∧ Win40 rs ∧ n ≤ 900000 ∧ PoolOk W a n ∧
  ∀ W', ExB [a] W W' → PoolOk W' a (n + 10) → Q (.bl true) W'
/-! ## watchers -/
def ViewAt (V : Addr) (W : WS) (v b : Addr) (cs : IP) (x d : Int) : Prop := ∃ st, W v = some (.ins V [("grown_by", .obj b), ("cells_at_first", .ptup (cs.map prD)), ("spot", .int x), ("pace", .int d), ("states", st)])
def kindD (p : Int) (ts : IP) : D := .tup [.int p, .lst (ts.map prD)]
def watchD (p : Int) (ts rs : IP) (x d : Int) : D := .tup [kindD p ts, .lst (rs.map prD), .int x, .int d]
def sp_View_init (C V : Addr) : DSp := fun ds W Q _ => ∃ v b p ps cs, ∃ x d : Int, ∃ r : D, ds = [.obj v, .obj b, r, .int x, .int d] ∧ W v = some (.ins V []) ∧ RuleAt C W b p ps ∧ view W r = .lst (cs.map prD) ∧ Asc cs ∧ Vl p cs ∧ r ≠ .obj v ∧ b ≠ v ∧
  ∀ W', ExB [v] W W' → ViewAt V W' v b cs x d → Q .non W'
def sp_View_seen (C V : Addr) : DSp := fun ds W Q _ => ∃ v b p ps cs lo hi, ∃ x d n : Int, ds = [.obj v, .int n] ∧ ViewAt V W v b cs x d ∧ RuleAt C W b p ps ∧ Parts p ps ∧ Asc cs ∧ Vl p cs ∧ Win lo hi cs ∧ lo ≤ hi + 1 ∧ hi - lo ≤ 1000 ∧ 0 ≤ n ∧ n < 2 ^ 150 ∧ d.natAbs ≤ 100 ∧
  ∀ W', ExB [] W W' → Q (.int (FarV p ps cs n.toNat (x + d * n))) W'
def sp_View_row (C V : Addr) : DSp := fun ds W Q _ => ∃ v b cs, ∃ x d : Int, ds = [.obj v] ∧ ViewAt V W v b cs x d ∧ ∀ c, W c = none → Q (.obj c) (W.put c (.lst (cs.map prD)))
def sp_View_place (C V : Addr) : DSp := fun ds W Q _ => ∃ v b cs, ∃ x d : Int, ds = [.obj v] ∧ ViewAt V W v b cs x d ∧ Q (.int x) W
def sp_View_drift (C V : Addr) : DSp := fun ds W Q _ => ∃ v b cs, ∃ x d : Int, ds = [.obj v] ∧ ViewAt V W v b cs x d ∧ Q (.int d) W
def sp_View_rule (C V : Addr) : DSp := fun ds W Q _ => ∃ v b cs, ∃ x d : Int, ds = [.obj v] ∧ ViewAt V W v b cs x d ∧ Q (.obj b) W
def sp__law_watch (C : Addr) : DSp := fun ds W Q _ => ∃ a far n, ds = [.obj a, .int far] ∧ 0 ≤ far ∧ far ≤ 10 ^ 30 ∧ n ≤ 850000 ∧ PoolOk W a n ∧
  ∀ p ts rs x d W', Kind p ts → ts.length ≤ 5 → (∀ q ∈ ts, ∀ z ∈ ts, q.2 - z.2 ≤ 4) → Row p (10 ^ 31) 100 rs → Win40 rs → rs.length ≤ 4 → -(10 ^ 32) ≤ x → x ≤ 10 ^ 32 → -8 ≤ d → d ≤ 8 → ExB [a] W W' → PoolOk W' a (n + 1200) → Q (watchD p ts rs x d) W'
def sp__law_view (C V : Addr) : DSp := fun ds W Q _ => ∃ p ts rs x d, ds = [watchD p ts rs x d] ∧ Kind p ts ∧ Asc rs ∧ Vl p rs ∧
  ∀ v b qs W', W v = none → W b = none → qs.Perm (swapI ts) → Parts p qs → ExB [] W W' → RuleAt C W' b p qs → ViewAt V W' v b rs x d → Q (.obj v) W'
def sp__law_shown (C : Addr) : DSp := fun ds W Q _ => ∃ p ts rs x d, ∃ m : Nat, ds = [watchD p ts rs x d, .int m] ∧ Kind p ts ∧ Asc rs ∧ Vl p rs ∧ Win40 rs ∧ m ≤ 40 ∧ d.natAbs ≤ 100 ∧
  ∀ (vs : List Int) W', vs.length = m + 1 → (∀ qs : IP, qs.Perm (swapI ts) → ∀ i : Nat, i ≤ m → vs[i]? = some (FarV p qs rs i (x + d * (i : Int)))) → ExB [] W W' → Q (.lst (vs.map D.int)) W'
def sp__law_is_kept (C V : Addr) : DSp := fun ds W Q _ => ∃ v b p ts qs rs x d, ds = [.obj v, watchD p ts rs x d] ∧ Kind p ts ∧ qs.Perm (swapI ts) ∧ Parts p qs ∧ RuleAt C W b p qs ∧ ViewAt V W v b rs x d ∧ Row p (10 ^ 31) 100 rs ∧ x.natAbs < 10 ^ 40 ∧ d.natAbs < 10 ^ 40 ∧
  ∀ W', ExB [] W W' → Q (.bl true) W'
def sp__law_powers (C : Addr) : DSp := fun ds W Q _ => ∃ p ts, ds = [kindD p ts] ∧ Kind p ts ∧
  ∀ (L : List IP) W', L.length = p.toNat → (∀ i, i < p.toNat → ∃ q, L[i]? = some q ∧ (q.map (·.1)).Nodup ∧ Vl p q ∧ Win (-400) 400 q ∧ ∀ qs : IP, qs.Perm (swapI ts) → SameM p q (ppow qs i)) → ExB [] W W' → Q (.lst (L.map dkI)) W'
def sp__law_far (C : Addr) : DSp := fun ds W Q _ => ∃ p ts rs, ∃ n x : Int, ds = [kindD p ts, .lst (rs.map prD), .int n, .int x] ∧ Kind p ts ∧ Asc rs ∧ Vl p rs ∧ Win40 rs ∧ 0 ≤ n ∧
  ∀ y W', (∀ qs : IP, qs.Perm (swapI ts) → y = FarV p qs rs n.toNat x) → ExB [] W W' → Q (.int y) W'
def sp__law_end_right (C : Addr) : DSp := fun ds W Q _ => ∃ a p ts rs n, ds = [.obj a, kindD p ts, .lst (rs.map prD)] ∧ Kind p ts ∧ Row p (10 ^ 31) 100 rs ∧ Win40 rs ∧ rs ≠ [] ∧ n ≤ 850000 ∧ PoolOk W a n ∧
  ∀ W', PoolOk W' a (n + 100) → Q (.bl true) W'
def sp__law_right (C : Addr) : DSp := fun ds W Q _ => ∃ (a : Addr) (n : Nat), ds = [.obj a] ∧ n ≤ 800000 ∧ PoolOk W a n ∧ ∀ W', PoolOk W' a (n + 5000) → Q (.bl true) W'
def sp_law (C : Addr) : DSp := fun ds W Q _ => ∃ is : List Int, ds = [.klst (is.map D.int)] ∧ is.length ≤ 63 ∧ ∀ W', Q (.bl true) W'
/-! ## terms that no rule has -/
/-- the number of the first wrong term -/
def badT (p : Int) : List Int → Nat → IP → Option Nat
  | _, _, [] => none
  | seen, i, (c, o) :: r => if (1 ≤ c ∧ c < p) ∧ o ∉ seen then badT p (seen ++ [o]) (i + 1) r else some i
def sp_check_termsX (C : Addr) : DSp := fun ds W Q PX => ∃ p ts, ds = [.int p, .lst (ts.map prD)] ∧ ts.length ≤ 500 ∧ ∀ W', ExB [] W W' → (ts = [] → PX "InvalidTerm" .non W') ∧ (ts ≠ [] → badT p [] 0 ts = none → Q .non W') ∧ (∀ i : Nat, badT p [] 0 ts = some i → PX "InvalidTerm" (.int i) W')
def sp_Rule_initX (C : Addr) : DSp := fun ds W Q PX => ∃ a p ts, ds = [.obj a, .int p, .lst (ts.map prD)] ∧ W a = some (.ins C []) ∧ ts.length ≤ 8 ∧ (∀ q ∈ ts, -100 ≤ q.2 ∧ q.2 ≤ 100) ∧
  (¬(p = 2 ∨ p = 3 ∨ p = 5) → ∀ W', ExB [a] W W' → PX "InvalidPrime" (.int p) W') ∧ ((p = 2 ∨ p = 3 ∨ p = 5) → ts = [] → ∀ W', ExB [a] W W' → PX "InvalidTerm" .non W') ∧
  ((p = 2 ∨ p = 3 ∨ p = 5) → ∀ i : Nat, badT p [] 0 ts = some i → ∀ W', ExB [a] W W' → PX "InvalidTerm" (.int i) W') ∧
  (Kind p ts → ∀ (qs : IP) W', qs.Perm (swapI ts) → Parts p qs → ExB [a] W W' → RuleAt C W' a p qs → Q .non W')
/-- what is due: what is refused first, in a list -/
def dueT (p : Int) (ts : IP) : D :=
  if p = 2 ∨ p = 3 ∨ p = 5 then (if ts = [] then .lst [.str "b", .non] else match badT p [] 0 ts with | some i => .lst [.str "b", .int i] | none => .lst []) else .lst [.str "a", .int p]
def sp__law_caughtT (C : Addr) : DSp := fun ds W Q _ => ∃ p ts b, ds = [.int p, .lst (ts.map prD), .bl b] ∧ ts.length ≤ 8 ∧ (∀ q ∈ ts, -100 ≤ q.2 ∧ q.2 ≤ 100) ∧ ∀ W', ExB [] W W' → Q (dueT p ts) W'
def sp__law_dueT (C : Addr) : DSp := fun ds W Q _ => ∃ p ts, ds = [.int p, .lst (ts.map prD)] ∧ ts.length ≤ 8 ∧ ∀ W', ExB [] W W' → Q (dueT p ts) W'
/-! ## rows, numbers, stretches that are refused -/
def befOk (b : Option Int) (x : Int) : Bool := match b with
  | none => true
  | some y => decide (y < x)
/-- the number of the first tuple that no row has -/
def badR (p : Int) : Option Int → Nat → IP → Option Nat
  | _, _, [] => none
  | b, i, (x, v) :: r => if (1 ≤ v ∧ v < p) ∧ befOk b x = true then badR p (some x) (i + 1) r else some i
/-- what is refused of a row and a number -/
def refF (p : Int) (rs : IP) (n : Int) : Option (Str × D) := match badR p none 0 rs with
  | some i => some ("InvalidRow", .int i)
  | none => if n < 0 then some ("InvalidNumber", .int n) else none
def sp_check_rowX (C : Addr) : DSp := fun ds W Q PX => ∃ a p ps rs d, ds = [.obj a, d] ∧ view W d = .lst (rs.map prD) ∧ RuleAt C W a p ps ∧ (badR p none 0 rs = none → Q .non W) ∧ (∀ i : Nat, badR p none 0 rs = some i → PX "InvalidRow" (.int i) W)
def sp_check_numberX (C : Addr) : DSp := fun ds W Q PX => ∃ n l : Int, ds = [.int n, .int l] ∧ (l ≤ n → Q .non W) ∧ (n < l → PX "InvalidNumber" (.int n) W)
def sp_check_stretchX (C : Addr) : DSp := fun ds W Q PX => ∃ lo hi : Int, ds = [.int lo, .int hi] ∧ (lo ≤ hi → Q .non W) ∧ (hi < lo → PX "InvalidStretch" (.tup [.int lo, .int hi]) W)
def sp_check_farX (C : Addr) : DSp := fun ds W Q PX => ∃ a p ps rs, ∃ n : Int, ds = [.obj a, .lst (rs.map prD), .int n] ∧ RuleAt C W a p ps ∧ (refF p rs n = none → Q .non W) ∧ (∀ e, refF p rs n = some e → PX e.1 e.2 W)
def sp_Rule_next_rowX (C : Addr) : DSp := fun ds W Q PX => (∃ a p ps rs d, ∃ i : Nat, ds = [.obj a, d] ∧ view W d = .lst (rs.map prD) ∧ RuleAt C W a p ps ∧ badR p none 0 rs = some i ∧ PX "InvalidRow" (.int i) W) ∨ sp_Rule_next_row C ds W Q PX
def farRef (C : Addr) (ds : List D) (W : WS) (PX : XP) : Prop := ∃ a p ps rs e, ∃ n : Int, ∃ r, ds = .obj a :: .lst (rs.map prD) :: .int n :: r ∧ RuleAt C W a p ps ∧ refF p rs n = some e ∧ PX e.1 e.2 W
def sp_cell_atX (C : Addr) : DSp := fun ds W Q PX => (farRef C ds W PX ∧ ds.length = 4) ∨ sp_cell_at C ds W Q PX
def sp_ends_ofX (C : Addr) : DSp := fun ds W Q PX => (farRef C ds W PX ∧ ds.length = 3) ∨ sp_ends_of C ds W Q PX
def sp_rows_untilX (C : Addr) : DSp := fun ds W Q PX => (farRef C ds W PX ∧ ds.length = 3) ∨ sp_rows_until C ds W Q PX
def sp_cells_betweenX (C : Addr) : DSp := fun ds W Q PX => (farRef C ds W PX ∧ ds.length = 5) ∨
  (∃ a p ps rs, ∃ n lo hi : Int, ds = [.obj a, .lst (rs.map prD), .int n, .int lo, .int hi] ∧ RuleAt C W a p ps ∧ refF p rs n = none ∧ hi < lo ∧ PX "InvalidStretch" (.tup [.int lo, .int hi]) W) ∨ sp_cells_between C ds W Q PX
def markL : List (Str × Str) := [("InvalidRow", "r"), ("InvalidNumber", "n"), ("InvalidStretch", "s")]
def sp__law_mark (C : Addr) : Str → D → WS → (D → WS → Prop) → Prop := fun n _ W P => ∃ s, (n, s) ∈ markL ∧ P (.str s) W
/-- what is due of a function of rows: what is refused first, in a list -/
def dueR (which p : Int) (rs : IP) (n lo hi : Int) : D := match badR p none 0 rs with
  | some i => .lst [.str "r", .int i]
  | none => if 0 < which ∧ n < 0 then .lst [.str "n", .int n] else if 3 < which ∧ hi < lo then .lst [.str "s", .tup [.int lo, .int hi]] else .lst []
def sp__law_dueR (C : Addr) : DSp := fun ds W Q _ => ∃ which p, ∃ (ts rs : IP) (n lo hi : Int), ds = [.int which, .tup [.int p, .lst (ts.map prD)], .lst (rs.map prD), .int n, .tup [.int lo, .int hi]] ∧ rs.length ≤ 1000 ∧ Q (dueR which p rs n lo hi) W
def sp__law_caughtR (C : Addr) : DSp := fun ds W Q _ => ∃ which a p o ps z rs lo0, ∃ n lo hi : Int, ds = [.int which, .obj a, .lst (rs.map prD), .int n, .tup [.int lo, .int hi]] ∧ 0 ≤ which ∧ which ≤ 5 ∧ RuleAt C W a p (o :: ps) ∧ Parts p (o :: ps) ∧ (o :: ps).getLast? = some z ∧ rs.length ≤ 1000 ∧
  (∀ q ∈ rs, lo0 ≤ q.1 ∧ q.1 ≤ lo0 + 100) ∧ n ≤ 40 ∧ hi - lo ≤ 1000 ∧ -1000 ≤ lo ∧ lo ≤ 1000 ∧ ∀ W', ExB [] W W' → Q (dueR which p rs n lo hi) W'
def sp__law_bent (C : Addr) : DSp := fun ds W Q _ => ∃ a p, ∃ (ts rs : IP) (k : Nat), ds = [.obj a, .tup [.int p, .lst (ts.map prD)], .lst (rs.map prD)] ∧ Kind p ts ∧ Row p (10 ^ 31) 100 rs ∧ Win40 rs ∧ rs ≠ [] ∧ k ≤ 900000 ∧ PoolOk W a k ∧
  ∀ (rs' : IP) lo0 W', rs'.length = rs.length → (∀ q ∈ rs', lo0 ≤ q.1 ∧ q.1 ≤ lo0 + 100) → ExB [a] W W' → PoolOk W' a (k + 20) → Q (.lst (rs'.map prD)) W'
/-- rows_until, the first row its own list -/
def sp_rows_untilO (C : Addr) : DSp := fun ds W Q _ => ∃ a p ps rs lo hi, ∃ n : Nat, ds = [.obj a, .lst (rs.map prD), .int n] ∧ RuleAt C W a p ps ∧ Parts p ps ∧ Asc rs ∧ Vl p rs ∧ Win lo hi rs ∧ lo ≤ hi + 1 ∧ hi - lo ≤ 500 ∧ n ≤ 40 ∧
  ∀ L b c W', Chain p ps rs L → L.length = n → W b = none → W c = none → c ≠ b → ExB [] W W' → W' b = some (.lst (.obj c :: L.map rowD)) → W' c = some (.lst (rs.map prD)) → Q (.obj b) W'
end DL

set_option maxRecDepth 100000
set_option maxHeartbeats 8000000
set_option linter.all false
namespace DL
open PySem PySem.Spec PyProof.Rows L2
def top (i : Nat) : Stmt := PySem.Challenge.pw_grownrows_k06_near_rows.main.body.getD i (.Pass ⟨0, 0, 0, 0⟩)
structure Tab (P : Program) (K : Fg) (mg : Str → Option Value) (C : Addr) : Prop where
  cl : Cls K C
  isk : IsOk K C
  m_Rule : mg "Rule" = some (.ref C)
  n_modulus : NoAttr K C "modulus"
  n_parts : NoAttr K C "parts"
  n_powers : NoAttr K C "powers"
  n_lowered : NoAttr K C "lowered"
  b_len : mg "len" = none
  b_abs : mg "abs" = none
  b_sum : mg "sum" = none
  b_max : mg "max" = none
  b_min : mg "min" = none
  b_repr : mg "repr" = none
  b_int : mg "int" = none
  b_tuple : mg "tuple" = none
  b_list : mg "list" = none
  b_dict : mg "dict" = none
  b_sorted : mg "sorted" = none
  b_range : mg "range" = none
  b_enumerate : mg "enumerate" = none
  b_isinstance : mg "isinstance" = none
  c_PRIMES : ConT K mg "PRIMES" [2, 3, 5]
section
variable {P : Program} {w : World} {K : Fg} {mg : Str → Option Value} {base : Heap} {C : Addr}
def N__law_pool : List Str := ["script", "spot", "cell"]
def P__law_pool : List Str := ["script", "spot"]
abbrev st__law_pool : Stmt := (top 30)
theorem sc__law_pool : FnScope N__law_pool P__law_pool (defScope st__law_pool) := ⟨rfl, rfl, rfl, by decide +kernel, rfl, by decide +kernel, by decide +kernel⟩
def w__law_pool (C : Addr) : WStm := wSeq (wAsg (wC (.int 0)) (.nm 2)) (
wSeq (wIf (wB (wBin fLt (wVar 1) (wApp fLen (wCons (wVar 0) (wNil))))) (wSeq (wAsg (wBin fGet (wVar 0) (wVar 1)) (.nm 2)) (
wSkip)) (wSkip)) (
wSeq (wRet (wBox (wLst (wCons (wApp fMax (wCons (wC (.int 0)) (wCons (wBin fSub (wApp fAbs (wCons (wVar 2) (wNil))) (wBin fPow (wC (.int 10)) (wC (.int 18)))) (wNil)))) (wCons (wBin fAdd (wBin fMod (wApp fInt (wCons (wVar 2) (wNil))) (wC (.int 2305843009213693951))) (wBin fMul (wC (.int 7368787)) (wBin fAdd (wVar 1) (wC (.int 1))))) (wCons (wC (.int 0)) (wNil))))))) (
wSkip)))
theorem r__law_pool (Z : Tab P K mg C) {f : Addr} {cdv : Value} {A : Around} {outer : List Env} {s : Shared} {H : Hp} {E : XK} (T : Sit (cxOf (L2.CX P w) P w K mg base N__law_pool "_law_pool" (defScope st__law_pool) f cdv A outer s H E) E 0) :
    ∀ B, PSs (cxOf (L2.CX P w) P w K mg base N__law_pool "_law_pool" (defScope st__law_pool) f cdv A outer s H E) (defBody st__law_pool) (liftS K B E (w__law_pool C)) := fun B => S_cons (asg_ (ci_) (gn_ T 2)) (
S_cons (S_if (tcmp_ o_lt (v_ 1) (bi_ c_len Z.b_len (ca_ (v_ 0) (na_)))) (S_cons (asg_ (get_ T (v_ 0) (v_ 1)) (gn_ T 2)) (
S_nil)) (S_nil)) (
S_cons (S_ret (s_box (s_lst (ca_ (bi_ (c_max T.hc) Z.b_max (ca_ (ci_) (ca_ (sub_ (bi_ c_abs Z.b_abs (ca_ (v_ 2) (na_))) (pow_ (ci_) (ci_))) (na_)))) (ca_ (add_ (mod_ (biT_ c_int Z.b_int (ca_ (v_ 2) (na_))) (ci_)) (mul_ (ci_) (add_ (v_ 1) (ci_)))) (ca_ (ci_) (na_))))))) (
S_nil)))
def N__law_draw : List Str := ["pool", "many", "mixed", "drawn"]
def P__law_draw : List Str := ["pool", "many"]
abbrev st__law_draw : Stmt := (top 31)
theorem sc__law_draw : FnScope N__law_draw P__law_draw (defScope st__law_draw) := ⟨rfl, rfl, rfl, by decide +kernel, rfl, by decide +kernel, by decide +kernel⟩
def w__law_draw (C : Addr) : WStm := wSeq (wIf (wB (wBin fGt (wBin fGet (wVar 0) (wC (.int 0))) (wC (.int 0)))) (wSeq (wAsg (wBin fMod (wApp fInt (wCons (wBin fGet (wVar 0) (wC (.int 0))) (wNil))) (wVar 1)) (.nm 3)) (
wSeq (wSetIx (wBin fDiv (wBin fGet (wVar 0) (wC (.int 0))) (wVar 1)) (wVar 0) (wC (.int 0))) (
wSeq (wRet (wVar 3)) (
wSkip)))) (wSkip)) (
wSeq (wSetIx (wBin fAdd (wBin fGet (wVar 0) (wC (.int 2))) (wC (.int 1))) (wVar 0) (wC (.int 2))) (
wSeq (wAsg (wBin fMod (wApp fInt (wCons (wBin fPow (wBin fAdd (wBin fGet (wVar 0) (wC (.int 1))) (wBin fMul (wC (.int 15485863)) (wBin fGet (wVar 0) (wC (.int 2))))) (wC (.int 3))) (wNil))) (wC (.int 162259276829213363391578010288127))) (.nm 2)) (
wSeq (wAsg (wBin fMod (wApp fInt (wCons (wBin fPow (wBin fAdd (wVar 2) (wBin fMul (wC (.int 32452843)) (wBin fGet (wVar 0) (wC (.int 2))))) (wC (.int 3))) (wNil))) (wC (.int 170141183460469231731687303715884105727))) (.nm 2)) (
wSeq (wRet (wBin fMod (wApp fInt (wCons (wBin fDiv (wVar 2) (wC (.int 1048576))) (wNil))) (wVar 1))) (
wSkip)))))
theorem r__law_draw (Z : Tab P K mg C) {f : Addr} {cdv : Value} {A : Around} {outer : List Env} {s : Shared} {H : Hp} {E : XK} (T : Sit (cxOf (L2.CX P w) P w K mg base N__law_draw "_law_draw" (defScope st__law_draw) f cdv A outer s H E) E 0) :
    ∀ B, PSs (cxOf (L2.CX P w) P w K mg base N__law_draw "_law_draw" (defScope st__law_draw) f cdv A outer s H E) (defBody st__law_draw) (liftS K B E (w__law_draw C)) := fun B => S_cons (S_if (tcmp_ o_gt (get_ T (v_ 0) (ci_)) (ci_)) (S_cons (asg_ (mod_ (biT_ c_int Z.b_int (ca_ (get_ T (v_ 0) (ci_)) (na_))) (v_ 1)) (gn_ T 3)) (
S_cons (setIx_ T (div_ (get_ T (v_ 0) (ci_)) (v_ 1)) (v_ 0) (ci_)) (
S_cons (S_ret (v_ 3)) (
S_nil)))) (S_nil)) (
S_cons (setIx_ T (add_ (get_ T (v_ 0) (ci_)) (ci_)) (v_ 0) (ci_)) (
S_cons (asg_ (mod_ (biT_ c_int Z.b_int (ca_ (pow_ (add_ (get_ T (v_ 0) (ci_)) (mul_ (ci_) (get_ T (v_ 0) (ci_)))) (ci_)) (na_))) (ci_)) (gn_ T 2)) (
S_cons (asg_ (mod_ (biT_ c_int Z.b_int (ca_ (pow_ (add_ (v_ 2) (mul_ (ci_) (get_ T (v_ 0) (ci_)))) (ci_)) (na_))) (ci_)) (gn_ T 2)) (
S_cons (S_ret (mod_ (biT_ c_int Z.b_int (ca_ (div_ (v_ 2) (ci_)) (na_))) (v_ 1))) (
S_nil)))))
def N__law_kind : List Str := ["pool", "prime_here", "wide", "least_here", "terms_here", "step", "spot"]
def P__law_kind : List Str := ["pool"]
abbrev st__law_kind : Stmt := (top 32)
theorem sc__law_kind : FnScope N__law_kind P__law_kind (defScope st__law_kind) := ⟨rfl, rfl, rfl, by decide +kernel, rfl, by decide +kernel, by decide +kernel⟩
def b__law_kind_1 (C : Addr) : WStm := wSeq (wIf (wOr (wB (wBin (fInK false) (wVar 5) (wTup (wCons (wC (.int 0)) (wCons (wVar 2) (wNil)))))) (wB (wBin (fEqK false) (wCall (sp__law_draw C) (wCons (wVar 0) (wCons (wC (.int 2)) (wNil)))) (wC (.int 0))))) (wSeq (wAsg (wCall (sp__law_draw C) (wCons (wVar 0) (wCons (wBin fAdd (wApp fLen (wCons (wVar 4) (wNil))) (wC (.int 1))) (wNil)))) (.nm 6)) (
wSeq (wDrop (wMu mInsert (wVar 4) (wCons (wVar 6) (wCons (wTup (wCons (wBin fAdd (wC (.int 1)) (wCall (sp__law_draw C) (wCons (wVar 0) (wCons (wBin fSub (wVar 1) (wC (.int 1))) (wNil))))) (wCons (wBin fAdd (wVar 3) (wVar 5)) (wNil)))) (wNil))))) (
wSkip))) (wSkip)) (
wSkip)
def w__law_kind (C : Addr) : WStm := wSeq (wAsg (wBin fGet (wVal (wLst (wCons (wC (.int 2)) (wCons (wC (.int 2)) (wCons (wC (.int 3)) (wCons (wC (.int 5)) (wNil))))))) (wCall (sp__law_draw C) (wCons (wVar 0) (wCons (wC (.int 4)) (wNil))))) (.nm 1)) (
wSeq (wAsg (wCall (sp__law_draw C) (wCons (wVar 0) (wCons (wBin fGet (wVal (wDisp ((wC (.int 2), wC (.int 5)) :: (wC (.int 3), wC (.int 4)) :: (wC (.int 5), wC (.int 3)) :: []))) (wVar 1)) (wNil)))) (.nm 2)) (
wSeq (wAsg (wBin fGet (wVal (wLst (wCons (wC (.int 0)) (wCons (wBin fSub (wC (.int 0)) (wVar 2)) (wCons (wUn fNeg (wC (.int 1))) (wCons (wBin fSub (wCall (sp__law_draw C) (wCons (wVar 0) (wCons (wBin fSub (wC (.int 17)) (wVar 2)) (wNil)))) (wC (.int 8))) (wNil))))))) (wCall (sp__law_draw C) (wCons (wVar 0) (wCons (wC (.int 4)) (wNil))))) (.nm 3)) (
wSeq (wAsg (wBox (wLst (wNil))) (.nm 4)) (
wSeq (wFor (wRng1 (wCons (wBin fAdd (wVar 2) (wC (.int 1))) (wNil))) (.nm 5) (b__law_kind_1 C)) (
wSeq (wRet (wTup (wCons (wVar 1) (wCons (wFrz 4) (wNil))))) (
wSkip))))))
theorem r__law_kind (Z : Tab P K mg C) (Q__law_draw : FnG P w K mg base 1 "_law_draw" "_law_draw" st__law_draw P__law_draw ((sp__law_draw C))) {f : Addr} {cdv : Value} {A : Around} {outer : List Env} {s : Shared} {H : Hp} {E : XK} (T : Sit (cxOf (L2.CX P w) P w K mg base N__law_kind "_law_kind" (defScope st__law_kind) f cdv A outer s H E) E 2) :
    ∀ B, PSs (cxOf (L2.CX P w) P w K mg base N__law_kind "_law_kind" (defScope st__law_kind) f cdv A outer s H E) (defBody st__law_kind) (liftS K B E (w__law_kind C)) := fun B => S_cons (asg_ (get_ T (s_val (s_lst (ca_ (ci_) (ca_ (ci_) (ca_ (ci_) (ca_ (ci_) (na_))))))) (call_ T Q__law_draw (by decide) (ca_ (v_ 0) (ca_ (ci_) (na_))))) (gn_ T 1)) (
S_cons (asg_ (call_ T Q__law_draw (by decide) (ca_ (v_ 0) (ca_ (get_ T (s_val (disp_ (pps_c (fun _ => ci_) (fun _ => ci_) (pps_c (fun _ => ci_) (fun _ => ci_) (pps_c (fun _ => ci_) (fun _ => ci_) (pp0_)))))) (v_ 1)) (na_)))) (gn_ T 2)) (
S_cons (asg_ (get_ T (s_val (s_lst (ca_ (ci_) (ca_ (sub_ (ci_) (v_ 2)) (ca_ (s_neg (ci_)) (ca_ (sub_ (call_ T Q__law_draw (by decide) (ca_ (v_ 0) (ca_ (sub_ (ci_) (v_ 2)) (na_)))) (ci_)) (na_))))))) (call_ T Q__law_draw (by decide) (ca_ (v_ 0) (ca_ (ci_) (na_))))) (gn_ T 3)) (
S_cons (asg_ (s_box (s_lst (na_))) (gn_ T 4)) (
S_cons (S_for (passes_of rfl) T.hc (i_rng1 rfl Z.b_range (ca_ (add_ (v_ 2) (ci_)) (na_)) rfl) (gn_ T 5) (S_cons (S_if (PW.pt (orW_ (tcmp_ (o_in T.hu) (v_ 5) (s_tup (ca_ (ci_) (ca_ (v_ 2) (na_))))) (or1_ (tcmp_ (o_eq T.hu4) (call_ T Q__law_draw (by decide) (ca_ (v_ 0) (ca_ (ci_) (na_)))) (ci_))))) (S_cons (asg_ (call_ T Q__law_draw (by decide) (ca_ (v_ 0) (ca_ (add_ (bi_ c_len Z.b_len (ca_ (v_ 4) (na_))) (ci_)) (na_)))) (gn_ T 6)) (
S_cons (drop_ (insert_ (v_ 4) (ca_ (v_ 6) (ca_ (s_tup (ca_ (add_ (ci_) (call_ T Q__law_draw (by decide) (ca_ (v_ 0) (ca_ (sub_ (v_ 1) (ci_)) (na_))))) (ca_ (add_ (v_ 3) (v_ 5)) (na_)))) (na_))))) (
S_nil))) (S_nil)) (
S_nil)) (fun _ => rfl)) (
S_cons (S_ret (s_tup (ca_ (v_ 1) (ca_ (vf_ 4) (na_))))) (
S_nil))))))
def N_check_row : List Str := ["rule", "row", "before", "number", "place", "value"]
def P_check_row : List Str := ["rule", "row"]
abbrev st_check_row : Stmt := (top 18)
theorem sc_check_row : FnScope N_check_row P_check_row (defScope st_check_row) := ⟨rfl, rfl, rfl, by decide +kernel, rfl, by decide +kernel, by decide +kernel⟩
def b_check_row_1 (C : Addr) : WStm := wSeq (wIf (wOr (wNot (wB (wChain fLe fLt (wC (.int 1)) (wVar 5) (wFld C "modulus" (wVar 0))))) (wAnd (wB (wBin fNotN (wVar 2) (wC .non))) (wB (wBin fLe (wVar 4) (wVar 2))))) (wSeq (wNo) (
wSkip)) (wSkip)) (
wSeq (wAsg (wVar 4) (.nm 2)) (
wSkip))
def w_check_row (C : Addr) : WStm := wSeq (wAsg (wC .non) (.nm 2)) (
wSeq (wForEn (wCons (wVar 1) (wNil)) (.tu (.tp (.nm 3) (.tp (.tu (.tp (.nm 4) (.tp (.nm 5) (.nl)))) (.nl)))) (b_check_row_1 C)) (
wSkip))
theorem r_check_row (Z : Tab P K mg C) {f : Addr} {cdv : Value} {A : Around} {outer : List Env} {s : Shared} {H : Hp} {E : XK} (T : Sit (cxOf (L2.CX P w) P w K mg base N_check_row "check_row" (defScope st_check_row) f cdv A outer s H E) E 0) :
    ∀ B, PSs (cxOf (L2.CX P w) P w K mg base N_check_row "check_row" (defScope st_check_row) f cdv A outer s H E) (defBody st_check_row) (liftS K B E (w_check_row C)) := fun B => S_cons (asg_ (cn_) (gn_ T 2)) (
S_cons (S_forEn (passes_of rfl) T.hc rfl Z.b_enumerate (ca_ (v_ 1) (na_)) rfl (gt2_ T (gc_ (gn_ T 3) (gc_ (gt2_ T (gc_ (gn_ T 4) (gc_ (gn_ T 5) (gz_)))) (gz_)))) (S_cons (S_if (PW.pt (orW_ (t_not (tch_ o_le o_lt (ci_) (v_ 5) (fld_ Z.cl Z.n_modulus (v_ 0)))) (or1_ (PW.pt (andW_ (tcmp_ o_notN (v_ 2) (cn_)) (and1_ (tcmp_ o_le (v_ 4) (v_ 2)))))))) (S_cons (S_never) (
S_nil)) (S_nil)) (
S_cons (asg_ (v_ 4) (gn_ T 2)) (
S_nil))) (fun _ => rfl)) (
S_nil))
def N_check_number : List Str := ["number", "least"]
def P_check_number : List Str := ["number", "least"]
abbrev st_check_number : Stmt := (top 20)
theorem sc_check_number : FnScope N_check_number P_check_number (defScope st_check_number) := ⟨rfl, rfl, rfl, by decide +kernel, rfl, by decide +kernel, by decide +kernel⟩
def w_check_number (C : Addr) : WStm := wSeq (wIf (wB (wBin fLt (wVar 0) (wVar 1))) (wSeq (wNo) (
wSkip)) (wSkip)) (
wSkip)
theorem r_check_number (Z : Tab P K mg C) {f : Addr} {cdv : Value} {A : Around} {outer : List Env} {s : Shared} {H : Hp} {E : XK} (T : Sit (cxOf (L2.CX P w) P w K mg base N_check_number "check_number" (defScope st_check_number) f cdv A outer s H E) E 0) :
    ∀ B, PSs (cxOf (L2.CX P w) P w K mg base N_check_number "check_number" (defScope st_check_number) f cdv A outer s H E) (defBody st_check_number) (liftS K B E (w_check_number C)) := fun B => S_cons (S_if (tcmp_ o_lt (v_ 0) (v_ 1)) (S_cons (S_never) (
S_nil)) (S_nil)) (
S_nil)
def N_check_far : List Str := ["rule", "row", "number"]
def P_check_far : List Str := ["rule", "row", "number"]
abbrev st_check_far : Stmt := (top 22)
theorem sc_check_far : FnScope N_check_far P_check_far (defScope st_check_far) := ⟨rfl, rfl, rfl, by decide +kernel, rfl, by decide +kernel, by decide +kernel⟩
def w_check_far (C : Addr) : WStm := wSeq (wDrop (wCall (sp_check_row C) (wCons (wVar 0) (wCons (wVar 1) (wNil))))) (
wSeq (wDrop (wCall (sp_check_number C) (wCons (wVar 2) (wCons (wC (.int 0)) (wNil))))) (
wSkip))
theorem r_check_far (Z : Tab P K mg C) (Q_check_row : FnG P w K mg base 1 "check_row" "check_row" st_check_row P_check_row ((sp_check_row C))) (Q_check_number : FnG P w K mg base 1 "check_number" "check_number" st_check_number P_check_number ((sp_check_number C))) {f : Addr} {cdv : Value} {A : Around} {outer : List Env} {s : Shared} {H : Hp} {E : XK} (T : Sit (cxOf (L2.CX P w) P w K mg base N_check_far "check_far" (defScope st_check_far) f cdv A outer s H E) E 2) :
    ∀ B, PSs (cxOf (L2.CX P w) P w K mg base N_check_far "check_far" (defScope st_check_far) f cdv A outer s H E) (defBody st_check_far) (liftS K B E (w_check_far C)) := fun B => S_cons (drop_ (call_ T Q_check_row (by decide) (ca_ (v_ 0) (ca_ (v_ 1) (na_))))) (
S_cons (drop_ (call_ T Q_check_number (by decide) (ca_ (v_ 2) (ca_ (ci_) (na_))))) (
S_nil))
def N_row_of : List Str := ["cells"]
def P_row_of : List Str := ["cells"]
abbrev st_row_of : Stmt := (top 10)
theorem sc_row_of : FnScope N_row_of P_row_of (defScope st_row_of) := ⟨rfl, rfl, rfl, by decide +kernel, rfl, by decide +kernel, by decide +kernel⟩
def w_row_of (C : Addr) : WStm := wSeq (wRet (wBox (wSortIt (wVar 0)))) (
wSkip)
theorem r_row_of (Z : Tab P K mg C) {f : Addr} {cdv : Value} {A : Around} {outer : List Env} {s : Shared} {H : Hp} {E : XK} (T : Sit (cxOf (L2.CX P w) P w K mg base N_row_of "row_of" (defScope st_row_of) f cdv A outer s H E) E 0) :
    ∀ B, PSs (cxOf (L2.CX P w) P w K mg base N_row_of "row_of" (defScope st_row_of) f cdv A outer s H E) (defBody st_row_of) (liftS K B E (w_row_of C)) := fun B => S_cons (S_ret (s_box (sortIt_ T Z.b_sorted (v_ 0)))) (
S_nil)
def N_plain : List Str := ["cells", "prime", "place", "value"]
def P_plain : List Str := ["cells", "prime"]
abbrev st_plain : Stmt := (top 11)
theorem sc_plain : FnScope N_plain P_plain (defScope st_plain) := ⟨rfl, rfl, rfl, by decide +kernel, rfl, by decide +kernel, by decide +kernel⟩
def w_plain (C : Addr) : WStm := wSeq (wRet (wVal (wDcLk itemsD (wVar 0) (.tu (.tp (.nm 2) (.tp (.nm 3) (.nl)))) (wB (wBin (fEqK true) (wBin fMod (wVar 3) (wVar 1)) (wC (.int 0)))) (wVar 2) (wBin fMod (wVar 3) (wVar 1)) [2, 3]))) (
wSkip)
theorem r_plain (Z : Tab P K mg C) {f : Addr} {cdv : Value} {A : Around} {outer : List Env} {s : Shared} {H : Hp} {E : XK} (T : Sit (cxOf (L2.CX P w) P w K mg base N_plain "plain" (defScope st_plain) f cdv A outer s H E) E 0) :
    ∀ B, PSs (cxOf (L2.CX P w) P w K mg base N_plain "plain" (defScope st_plain) f cdv A outer s H E) (defBody st_plain) (liftS K B E (w_plain C)) := fun B => S_cons (S_ret (s_val (s_dcLk (own := [("place", 2), ("value", 3)]) (wk_items rfl rfl) T.hc T.nd (v_ 0) (blkOk_by (by kernel_rfl)) (fun s H D cl fp B => gt2_ T.blk (gc_ (gn_ T.blk 2) (gc_ (gn_ T.blk 3) (gz_)))) (fun s H D cl fp B => ts_one (tcmp_ (o_ne T.blk.hu4) (mod_ (v_ 3) (v_ 1)) (ci_))) (fun s H D cl fp B => v_ 2) (fun s H D cl fp B => mod_ (v_ 3) (v_ 1)) (fun _ => rfl) (by decide)))) (
S_nil)
def N_multiplied : List Str := ["one", "other", "prime", "found", "place", "value", "offset", "factor"]
def P_multiplied : List Str := ["one", "other", "prime"]
abbrev st_multiplied : Stmt := (top 12)
theorem sc_multiplied : FnScope N_multiplied P_multiplied (defScope st_multiplied) := ⟨rfl, rfl, rfl, by decide +kernel, rfl, by decide +kernel, by decide +kernel⟩
def b_multiplied_1 (C : Addr) : WStm := wSeq (wSetIx (wBin fAdd (wGet2 (wVar 3) (wBin fAdd (wVar 4) (wVar 6)) (wC (.int 0))) (wBin fMul (wVar 5) (wVar 7))) (wVar 3) (wBin fAdd (wVar 4) (wVar 6))) (
wSkip)
def b_multiplied_2 (C : Addr) : WStm := wSeq (wForLk itemsD (wVar 1) (.tu (.tp (.nm 6) (.tp (.nm 7) (.nl)))) (b_multiplied_1 C)) (
wSkip)
def w_multiplied (C : Addr) : WStm := wSeq (wAsg (wBox (wDnK)) (.nm 3)) (
wSeq (wForLk itemsD (wVar 0) (.tu (.tp (.nm 4) (.tp (.nm 5) (.nl)))) (b_multiplied_2 C)) (
wSeq (wRet (wCall (sp_plain C) (wCons (wFrz 3) (wCons (wVar 2) (wNil))))) (
wSkip)))
theorem r_multiplied (Z : Tab P K mg C) (Q_plain : FnG P w K mg base 1 "plain" "plain" st_plain P_plain ((sp_plain C))) {f : Addr} {cdv : Value} {A : Around} {outer : List Env} {s : Shared} {H : Hp} {E : XK} (T : Sit (cxOf (L2.CX P w) P w K mg base N_multiplied "multiplied" (defScope st_multiplied) f cdv A outer s H E) E 2) :
    ∀ B, PSs (cxOf (L2.CX P w) P w K mg base N_multiplied "multiplied" (defScope st_multiplied) f cdv A outer s H E) (defBody st_multiplied) (liftS K B E (w_multiplied C)) := fun B => S_cons (asg_ (s_box (s_dnK)) (gn_ T 3)) (
S_cons (S_forLk (wk_items rfl rfl) (passes_of rfl) T.hc (v_ 0) (fun B => gt2_ T (gc_ (gn_ T 4) (gc_ (gn_ T 5) (gz_)))) (fun B => S_cons (S_forLk (wk_items rfl rfl) (passes_of rfl) T.hc (v_ 1) (fun B => gt2_ T (gc_ (gn_ T 6) (gc_ (gn_ T 7) (gz_)))) (fun B => S_cons (setIx_ T (add_ (get2_ T (v_ 3) (add_ (v_ 4) (v_ 6)) (ci_)) (mul_ (v_ 5) (v_ 7))) (v_ 3) (add_ (v_ 4) (v_ 6))) (
S_nil)) (fun _ => rfl)) (
S_nil)) (fun _ => rfl)) (
S_cons (S_ret (call_ T Q_plain (by decide) (ca_ (vf_ 3) (ca_ (v_ 2) (na_))))) (
S_nil)))
def N_cells_of : List Str := ["row"]
def P_cells_of : List Str := ["row"]
abbrev st_cells_of : Stmt := (top 9)
theorem sc_cells_of : FnScope N_cells_of P_cells_of (defScope st_cells_of) := ⟨rfl, rfl, rfl, by decide +kernel, rfl, by decide +kernel, by decide +kernel⟩
def w_cells_of (C : Addr) : WStm := wSeq (wRet (wVal (wAppF fDict (wCons (wVar 0) (wNil))))) (
wSkip)
theorem r_cells_of (Z : Tab P K mg C) {f : Addr} {cdv : Value} {A : Around} {outer : List Env} {s : Shared} {H : Hp} {E : XK} (T : Sit (cxOf (L2.CX P w) P w K mg base N_cells_of "cells_of" (defScope st_cells_of) f cdv A outer s H E) E 0) :
    ∀ B, PSs (cxOf (L2.CX P w) P w K mg base N_cells_of "cells_of" (defScope st_cells_of) f cdv A outer s H E) (defBody st_cells_of) (liftS K B E (w_cells_of C)) := fun B => S_cons (S_ret (s_val (biTF_ (c_dict T.hc) Z.b_dict (ca_ (v_ 0) (na_))))) (
S_nil)
def N_Rule_next_row : List Str := ["self", "row"]
def P_Rule_next_row : List Str := ["self", "row"]
abbrev st_Rule_next_row : Stmt := (inClass (top 17) 5)
theorem sc_Rule_next_row : FnScope N_Rule_next_row P_Rule_next_row (defScope st_Rule_next_row) := ⟨rfl, rfl, rfl, by decide +kernel, rfl, by decide +kernel, by decide +kernel⟩
def w_Rule_next_row (C : Addr) : WStm := wSeq (wDrop (wCall (sp_check_row C) (wCons (wVar 0) (wCons (wVar 1) (wNil))))) (
wSeq (wRet (wCall (sp_row_of C) (wCons (wCall (sp_multiplied C) (wCons (wCall (sp_cells_of C) (wCons (wVar 1) (wNil))) (wCons (wVal (wAppF fDict (wCons (wFld C "parts" (wVar 0)) (wNil)))) (wCons (wFld C "modulus" (wVar 0)) (wNil))))) (wNil)))) (
wSkip))
theorem r_Rule_next_row (Z : Tab P K mg C) (Q_check_row : FnG P w K mg base 1 "check_row" "check_row" st_check_row P_check_row ((sp_check_row C))) (Q_row_of : FnG P w K mg base 1 "row_of" "row_of" st_row_of P_row_of ((sp_row_of C))) (Q_multiplied : FnG P w K mg base 3 "multiplied" "multiplied" st_multiplied P_multiplied ((sp_multiplied C))) (Q_cells_of : FnG P w K mg base 1 "cells_of" "cells_of" st_cells_of P_cells_of ((sp_cells_of C))) {f : Addr} {cdv : Value} {A : Around} {outer : List Env} {s : Shared} {H : Hp} {E : XK} (T : Sit (cxOf (L2.CX P w) P w K mg base N_Rule_next_row "Rule.next_row" (defScope st_Rule_next_row) f cdv A outer s H E) E 4) :
    ∀ B, PSs (cxOf (L2.CX P w) P w K mg base N_Rule_next_row "Rule.next_row" (defScope st_Rule_next_row) f cdv A outer s H E) (defBody st_Rule_next_row) (liftS K B E (w_Rule_next_row C)) := fun B => S_cons (drop_ (call_ T Q_check_row (by decide) (ca_ (v_ 0) (ca_ (v_ 1) (na_))))) (
S_cons (S_ret (call_ T Q_row_of (by decide) (ca_ (call_ T Q_multiplied (by decide) (ca_ (call_ T Q_cells_of (by decide) (ca_ (v_ 1) (na_))) (ca_ (s_val (biTF_ (c_dict T.hc) Z.b_dict (ca_ (fld_ Z.cl Z.n_parts (v_ 0)) (na_)))) (ca_ (fld_ Z.cl Z.n_modulus (v_ 0)) (na_))))) (na_)))) (
S_nil))
def N_rows_until : List Str := ["rule", "row", "number", "found", "step"]
def P_rows_until : List Str := ["rule", "row", "number"]
abbrev st_rows_until : Stmt := (top 28)
theorem sc_rows_until : FnScope N_rows_until P_rows_until (defScope st_rows_until) := ⟨rfl, rfl, rfl, by decide +kernel, rfl, by decide +kernel, by decide +kernel⟩
def b_rows_until_1 (C : Addr) : WStm := wSeq (wDrop (wMu mAppend (wVar 3) (wCons (wSeal (wMeth C "next_row" (sp_Rule_next_row C) (wVar 0) (wCons (wBin fGet (wVar 3) (wUn fNeg (wC (.int 1)))) (wNil)))) (wNil)))) (
wSkip)
def w_rows_until (C : Addr) : WStm := wSeq (wDrop (wCall (sp_check_far C) (wCons (wVar 0) (wCons (wVar 1) (wCons (wVar 2) (wNil)))))) (
wSeq (wAsg (wBox (wLst (wCons (wBox (wAppF fList (wCons (wVar 1) (wNil)))) (wNil)))) (.nm 3)) (
wSeq (wFor (wRng1 (wCons (wVar 2) (wNil))) (.nm 4) (b_rows_until_1 C)) (
wSeq (wRet (wVar 3)) (
wSkip))))
theorem r_rows_until (Z : Tab P K mg C) (Q_check_far : FnG P w K mg base 3 "check_far" "check_far" st_check_far P_check_far ((sp_check_far C))) (Q_next_row : MtG P w K mg base C 5 "next_row" "Rule.next_row" st_Rule_next_row P_Rule_next_row ((sp_Rule_next_row C))) {f : Addr} {cdv : Value} {A : Around} {outer : List Env} {s : Shared} {H : Hp} {E : XK} (T : Sit (cxOf (L2.CX P w) P w K mg base N_rows_until "rows_until" (defScope st_rows_until) f cdv A outer s H E) E 6) :
    ∀ B, PSs (cxOf (L2.CX P w) P w K mg base N_rows_until "rows_until" (defScope st_rows_until) f cdv A outer s H E) (defBody st_rows_until) (liftS K B E (w_rows_until C)) := fun B => S_cons (drop_ (call_ T Q_check_far (by decide) (ca_ (v_ 0) (ca_ (v_ 1) (ca_ (v_ 2) (na_)))))) (
S_cons (asg_ (s_box (s_lst (ca_ (s_box (biTF_ c_list Z.b_list (ca_ (v_ 1) (na_)))) (na_)))) (gn_ T 3)) (
S_cons (S_for (passes_of rfl) T.hc (i_rng1 rfl Z.b_range (ca_ (v_ 2) (na_)) rfl) (gn_ T 4) (S_cons (drop_ (append_ (v_ 3) (ca_ (s_seal (meth_ T Z.cl Q_next_row (by decide) (v_ 0) (ca_ (get_ T (v_ 3) (s_neg (ci_))) (na_)))) (na_)))) (
S_nil)) (fun _ => rfl)) (
S_cons (S_ret (v_ 3)) (
S_nil))))
def N_check_terms : List Str := ["prime", "terms", "seen", "number", "coefficient", "offset"]
def P_check_terms : List Str := ["prime", "terms"]
abbrev st_check_terms : Stmt := (top 16)
theorem sc_check_terms : FnScope N_check_terms P_check_terms (defScope st_check_terms) := ⟨rfl, rfl, rfl, by decide +kernel, rfl, by decide +kernel, by decide +kernel⟩
def b_check_terms_1 (C : Addr) : WStm := wSeq (wIf (wOr (wNot (wB (wChain fLe fLt (wC (.int 1)) (wVar 4) (wVar 0)))) (wB (wBin (fInK false) (wVar 5) (wVar 2)))) (wSeq (wNo) (
wSkip)) (wSkip)) (
wSeq (wDrop (wMu mAppend (wVar 2) (wCons (wVar 5) (wNil)))) (
wSkip))
def w_check_terms (C : Addr) : WStm := wSeq (wIf (wB (wBin (fEqK false) (wVar 1) (wVal (wLst (wNil))))) (wSeq (wNo) (
wSkip)) (wSkip)) (
wSeq (wAsg (wBox (wLst (wNil))) (.nm 2)) (
wSeq (wFor (wEnum (wCons (wVar 1) (wNil))) (.tu (.tp (.nm 3) (.tp (.tu (.tp (.nm 4) (.tp (.nm 5) (.nl)))) (.nl)))) (b_check_terms_1 C)) (
wSkip)))
theorem r_check_terms (Z : Tab P K mg C) {f : Addr} {cdv : Value} {A : Around} {outer : List Env} {s : Shared} {H : Hp} {E : XK} (T : Sit (cxOf (L2.CX P w) P w K mg base N_check_terms "check_terms" (defScope st_check_terms) f cdv A outer s H E) E 0) :
    ∀ B, PSs (cxOf (L2.CX P w) P w K mg base N_check_terms "check_terms" (defScope st_check_terms) f cdv A outer s H E) (defBody st_check_terms) (liftS K B E (w_check_terms C)) := fun B => S_cons (S_if (tcmp_ (o_eq T.hu4) (v_ 1) (s_val (s_lst (na_)))) (S_cons (S_never) (
S_nil)) (S_nil)) (
S_cons (asg_ (s_box (s_lst (na_))) (gn_ T 2)) (
S_cons (S_for (passes_of rfl) T.hc (i_enum rfl Z.b_enumerate (ca_ (v_ 1) (na_)) rfl) (gt2_ T (gc_ (gn_ T 3) (gc_ (gt2_ T (gc_ (gn_ T 4) (gc_ (gn_ T 5) (gz_)))) (gz_)))) (S_cons (S_if (PW.pt (orW_ (t_not (tch_ o_le o_lt (ci_) (v_ 4) (v_ 0))) (or1_ (tcmp_ (o_in T.hu) (v_ 5) (v_ 2))))) (S_cons (S_never) (
S_nil)) (S_nil)) (
S_cons (drop_ (append_ (v_ 2) (ca_ (v_ 5) (na_)))) (
S_nil))) (fun _ => rfl)) (
S_nil)))
def N_Rule_init : List Str := ["self", "prime", "terms", "steps", "coefficient", "offset"]
def P_Rule_init : List Str := ["self", "prime", "terms"]
abbrev st_Rule_init : Stmt := (inClass (top 17) 0)
theorem sc_Rule_init : FnScope N_Rule_init P_Rule_init (defScope st_Rule_init) := ⟨rfl, rfl, rfl, by decide +kernel, rfl, by decide +kernel, by decide +kernel⟩
def b_Rule_init_1 (C : Addr) : WStm := wSeq (wDrop (wMu mAppend (wFld C "powers" (wVar 0)) (wCons (wCall (sp_multiplied C) (wCons (wBin fGet (wFld C "powers" (wVar 0)) (wUn fNeg (wC (.int 1)))) (wCons (wVal (wAppF fDict (wCons (wFld C "parts" (wVar 0)) (wNil)))) (wCons (wVar 1) (wNil))))) (wNil)))) (
wSkip)
def w_Rule_init (C : Addr) : WStm := wSeq (wIf (wB (wBin (fInK true) (wVar 1) (wC (.ktup ([2, 3, 5].map D.int))))) (wSeq (wNo) (
wSkip)) (wSkip)) (
wSeq (wDrop (wCall (sp_check_terms C) (wCons (wVar 1) (wCons (wVar 2) (wNil))))) (
wSeq (wSetFld C "modulus" (wVar 1) (wVar 0)) (
wSeq (wSetFld C "parts" (wApp fPTup (wCons (wVal (wAppF fSorted (wCons (wVal (wLc (wIter (wVar 2)) (.tu (.tp (.nm 4) (.tp (.nm 5) (.nl)))) (wYes) (wTup (wCons (wVar 5) (wCons (wVar 4) (wNil)))) [4, 5])) (wNil)))) (wNil))) (wVar 0)) (
wSeq (wSetFld C "powers" (wBox (wLst (wCons (wVal (wDisp ((wC (.int 0), wC (.int 1)) :: []))) (wNil)))) (wVar 0)) (
wSeq (wFor (wRng2 (wCons (wC (.int 1)) (wCons (wVar 1) (wNil)))) (.nm 3) (b_Rule_init_1 C)) (
wSeq (wSetFld C "lowered" (wBox (wDnK)) (wVar 0)) (
wSkip)))))))
theorem r_Rule_init (Z : Tab P K mg C) (Q_check_terms : FnG P w K mg base 1 "check_terms" "check_terms" st_check_terms P_check_terms ((sp_check_terms C))) (Q_multiplied : FnG P w K mg base 3 "multiplied" "multiplied" st_multiplied P_multiplied ((sp_multiplied C))) {f : Addr} {cdv : Value} {A : Around} {outer : List Env} {s : Shared} {H : Hp} {E : XK} (T : Sit (cxOf (L2.CX P w) P w K mg base N_Rule_init "Rule.__init__" (defScope st_Rule_init) f cdv A outer s H E) E 4) :
    ∀ B, PSs (cxOf (L2.CX P w) P w K mg base N_Rule_init "Rule.__init__" (defScope st_Rule_init) f cdv A outer s H E) (defBody st_Rule_init) (liftS K B E (w_Rule_init C)) := fun B => S_cons (S_if (tcmp_ (o_notin T.hu) (v_ 1) (con_ Z.c_PRIMES)) (S_cons (S_never) (
S_nil)) (S_nil)) (
S_cons (drop_ (call_ T Q_check_terms (by decide) (ca_ (v_ 1) (ca_ (v_ 2) (na_))))) (
S_cons (setFld_ Z.cl Z.n_modulus (v_ 1) (v_ 0)) (
S_cons (setFld_ Z.cl Z.n_parts (biT_ c_ptup Z.b_tuple (ca_ (s_val (biF_ c_sorted Z.b_sorted (ca_ (s_val (s_lc (own := [("coefficient", 4), ("offset", 5)]) T.hc T.nd (i_iter (v_ 2)) (blkOk_by (by kernel_rfl)) (fun s H D cl fp B => gt2_ T.blk (gc_ (gn_ T.blk 4) (gc_ (gn_ T.blk 5) (gz_)))) (fun s H D cl fp B => ts_nil) (fun s H D cl fp B => s_tup (ca_ (v_ 5) (ca_ (v_ 4) (na_)))) (fun _ => rfl) (by decide))) (na_)))) (na_))) (v_ 0)) (
S_cons (setFld_ Z.cl Z.n_powers (s_box (s_lst (ca_ (s_val (disp_ (pps_c (fun _ => ci_) (fun _ => ci_) (pp0_)))) (na_)))) (v_ 0)) (
S_cons (S_for (passes_of rfl) T.hc (i_rng2 rfl Z.b_range (ca_ (ci_) (ca_ (v_ 1) (na_))) rfl rfl) (gn_ T 3) (S_cons (drop_ (append_ (fld_ Z.cl Z.n_powers (v_ 0)) (ca_ (call_ T Q_multiplied (by decide) (ca_ (get_ T (fld_ Z.cl Z.n_powers (v_ 0)) (s_neg (ci_))) (ca_ (s_val (biTF_ (c_dict T.hc) Z.b_dict (ca_ (fld_ Z.cl Z.n_parts (v_ 0)) (na_)))) (ca_ (v_ 1) (na_))))) (na_)))) (
S_nil)) (fun _ => rfl)) (
S_cons (setFld_ Z.cl Z.n_lowered (s_box (s_dnK)) (v_ 0)) (
S_nil)))))))
def N__law_made : List Str := ["kind"]
def P__law_made : List Str := ["kind"]
abbrev st__law_made : Stmt := (top 33)
theorem sc__law_made : FnScope N__law_made P__law_made (defScope st__law_made) := ⟨rfl, rfl, rfl, by decide +kernel, rfl, by decide +kernel, by decide +kernel⟩
def w__law_made (C : Addr) : WStm := wSeq (wRet (wMakeK C (sp_Rule_init C) 2 0 [] (wCons (wBin fGet (wVar 0) (wC (.int 0))) (wCons (wVal (wAppF fList (wCons (wBin fGet (wVar 0) (wC (.int 1))) (wNil)))) (wNil))) wNil)) (
wSkip)
theorem r__law_made (Z : Tab P K mg C) (Q_init : MkG P w K mg base C 5 "Rule.__init__" st_Rule_init P_Rule_init ((sp_Rule_init C))) {f : Addr} {cdv : Value} {A : Around} {outer : List Env} {s : Shared} {H : Hp} {E : XK} (T : Sit (cxOf (L2.CX P w) P w K mg base N__law_made "_law_made" (defScope st__law_made) f cdv A outer s H E) E 6) :
    ∀ B, PSs (cxOf (L2.CX P w) P w K mg base N__law_made "_law_made" (defScope st__law_made) f cdv A outer s H E) (defBody st__law_made) (liftS K B E (w__law_made C)) := fun B => S_cons (S_ret (make_ T Q_init (by decide) Z.m_Rule (fun _ _ _ _ _ _ us ws h1 h2 => match us, ws, h1, h2 with | [_, _, _], [], _, _ => rfl) (ca_ (get_ T (v_ 0) (ci_)) (ca_ (s_val (biTF_ c_list Z.b_list (ca_ (get_ T (v_ 0) (ci_)) (na_)))) (na_))))) (
S_nil)
def N__law_row : List Str := ["pool", "kind", "many", "far", "begin", "turn", "wide", "found", "spot"]
def P__law_row : List Str := ["pool", "kind", "many", "far"]
abbrev st__law_row : Stmt := (top 34)
theorem sc__law_row : FnScope N__law_row P__law_row (defScope st__law_row) := ⟨rfl, rfl, rfl, by decide +kernel, rfl, by decide +kernel, by decide +kernel⟩
def b__law_row_1 (C : Addr) : WStm := wSeq (wAsg (wBin fAdd (wVar 4) (wBin fGet (wVal (wLst (wCons (wVar 6) (wCons (wCall (sp__law_draw C) (wCons (wVar 0) (wCons (wBin fAdd (wVar 6) (wC (.int 1))) (wNil)))) (wNil))))) (wCall (sp__law_draw C) (wCons (wVar 0) (wCons (wC (.int 2)) (wNil)))))) (.nm 8)) (
wSeq (wSetIx (wBin fAdd (wC (.int 1)) (wCall (sp__law_draw C) (wCons (wVar 0) (wCons (wBin fSub (wBin fGet (wVar 1) (wC (.int 0))) (wC (.int 1))) (wNil))))) (wVar 7) (wVar 8)) (
wSkip))
def w__law_row (C : Addr) : WStm := wSeq (wAsg (wBin fGet (wVal (wLst (wCons (wC (.int 0)) (wCons (wBin fSub (wCall (sp__law_draw C) (wCons (wVar 0) (wCons (wC (.int 21)) (wNil)))) (wC (.int 10))) (wCons (wBin fSub (wCall (sp__law_draw C) (wCons (wVar 0) (wCons (wBin fAdd (wBin fMul (wC (.int 2)) (wVar 3)) (wC (.int 1))) (wNil)))) (wVar 3)) (wNil)))))) (wCall (sp__law_draw C) (wCons (wVar 0) (wCons (wC (.int 3)) (wNil))))) (.nm 4)) (
wSeq (wPar2 6 7 (wCons (wBin fGet (wVal (wLst (wCons (wCall (sp__law_draw C) (wCons (wVar 0) (wCons (wC (.int 9)) (wNil)))) (wCons (wC (.int 40)) (wCons (wCall (sp__law_draw C) (wCons (wVar 0) (wCons (wC (.int 41)) (wNil)))) (wNil)))))) (wCall (sp__law_draw C) (wCons (wVar 0) (wCons (wC (.int 3)) (wNil))))) (wCons (wBox (wDnK)) (wNil)))) (
wSeq (wSetIx (wBin fAdd (wC (.int 1)) (wCall (sp__law_draw C) (wCons (wVar 0) (wCons (wBin fSub (wBin fGet (wVar 1) (wC (.int 0))) (wC (.int 1))) (wNil))))) (wVar 7) (wVar 4)) (
wSeq (wFor (wRng1 (wCons (wCall (sp__law_draw C) (wCons (wVar 0) (wCons (wVar 2) (wNil)))) (wNil))) (.nm 5) (b__law_row_1 C)) (
wSeq (wRet (wVal (wSortIt (wVar 7)))) (
wSkip)))))
theorem r__law_row (Z : Tab P K mg C) (Q__law_draw : FnG P w K mg base 1 "_law_draw" "_law_draw" st__law_draw P__law_draw ((sp__law_draw C))) {f : Addr} {cdv : Value} {A : Around} {outer : List Env} {s : Shared} {H : Hp} {E : XK} (T : Sit (cxOf (L2.CX P w) P w K mg base N__law_row "_law_row" (defScope st__law_row) f cdv A outer s H E) E 2) :
    ∀ B, PSs (cxOf (L2.CX P w) P w K mg base N__law_row "_law_row" (defScope st__law_row) f cdv A outer s H E) (defBody st__law_row) (liftS K B E (w__law_row C)) := fun B => S_cons (asg_ (get_ T (s_val (s_lst (ca_ (ci_) (ca_ (sub_ (call_ T Q__law_draw (by decide) (ca_ (v_ 0) (ca_ (ci_) (na_)))) (ci_)) (ca_ (sub_ (call_ T Q__law_draw (by decide) (ca_ (v_ 0) (ca_ (add_ (mul_ (ci_) (v_ 3)) (ci_)) (na_)))) (v_ 3)) (na_)))))) (call_ T Q__law_draw (by decide) (ca_ (v_ 0) (ca_ (ci_) (na_))))) (gn_ T 4)) (
S_cons (par2_ T 6 7 (ca_ (get_ T (s_val (s_lst (ca_ (call_ T Q__law_draw (by decide) (ca_ (v_ 0) (ca_ (ci_) (na_)))) (ca_ (ci_) (ca_ (call_ T Q__law_draw (by decide) (ca_ (v_ 0) (ca_ (ci_) (na_)))) (na_)))))) (call_ T Q__law_draw (by decide) (ca_ (v_ 0) (ca_ (ci_) (na_))))) (ca_ (s_box (s_dnK)) (na_)))) (
S_cons (setIx_ T (add_ (ci_) (call_ T Q__law_draw (by decide) (ca_ (v_ 0) (ca_ (sub_ (get_ T (v_ 1) (ci_)) (ci_)) (na_))))) (v_ 7) (v_ 4)) (
S_cons (S_for (passes_of rfl) T.hc (i_rng1 rfl Z.b_range (ca_ (call_ T Q__law_draw (by decide) (ca_ (v_ 0) (ca_ (v_ 2) (na_)))) (na_)) rfl) (gn_ T 5) (S_cons (asg_ (add_ (v_ 4) (get_ T (s_val (s_lst (ca_ (v_ 6) (ca_ (call_ T Q__law_draw (by decide) (ca_ (v_ 0) (ca_ (add_ (v_ 6) (ci_)) (na_)))) (na_))))) (call_ T Q__law_draw (by decide) (ca_ (v_ 0) (ca_ (ci_) (na_)))))) (gn_ T 8)) (
S_cons (setIx_ T (add_ (ci_) (call_ T Q__law_draw (by decide) (ca_ (v_ 0) (ca_ (sub_ (get_ T (v_ 1) (ci_)) (ci_)) (na_))))) (v_ 7) (v_ 8)) (
S_nil))) (fun _ => rfl)) (
S_cons (S_ret (s_val (sortIt_ T Z.b_sorted (v_ 7)))) (
S_nil)))))
def N__law_step : List Str := ["kind", "there", "found", "spot", "factor", "deep"]
def P__law_step : List Str := ["kind", "there"]
abbrev st__law_step : Stmt := (top 35)
theorem sc__law_step : FnScope N__law_step P__law_step (defScope st__law_step) := ⟨rfl, rfl, rfl, by decide +kernel, rfl, by decide +kernel, by decide +kernel⟩
def b__law_step_1 (C : Addr) : WStm := wSeq (wSetIx (wBin fMod (wApp fInt (wCons (wBin fAdd (wGet2 (wVar 2) (wBin fAdd (wVar 3) (wVar 5)) (wC (.int 0))) (wBin fMul (wVar 4) (wBin fGet (wVar 1) (wVar 3)))) (wNil))) (wBin fGet (wVar 0) (wC (.int 0)))) (wVar 2) (wBin fAdd (wVar 3) (wVar 5))) (
wSkip)
def b__law_step_2 (C : Addr) : WStm := wSeq (wFor (wIter (wBin fGet (wVar 0) (wC (.int 1)))) (.tu (.tp (.nm 4) (.tp (.nm 5) (.nl)))) (b__law_step_1 C)) (
wSkip)
def w__law_step (C : Addr) : WStm := wSeq (wAsg (wBox (wDnK)) (.nm 2)) (
wSeq (wForLk keysOf (wVar 1) (.nm 3) (b__law_step_2 C)) (
wSeq (wRet (wVal (wAppF fDict (wCons (wVal (wLcLk keysOf (wFrz 2) (.nm 3) (wB (wBin (fEqK true) (wBin fGet (wVar 2) (wVar 3)) (wC (.int 0)))) (wTup (wCons (wVar 3) (wCons (wBin fGet (wVar 2) (wVar 3)) (wNil)))) [3])) (wNil))))) (
wSkip)))
theorem r__law_step (Z : Tab P K mg C) {f : Addr} {cdv : Value} {A : Around} {outer : List Env} {s : Shared} {H : Hp} {E : XK} (T : Sit (cxOf (L2.CX P w) P w K mg base N__law_step "_law_step" (defScope st__law_step) f cdv A outer s H E) E 0) :
    ∀ B, PSs (cxOf (L2.CX P w) P w K mg base N__law_step "_law_step" (defScope st__law_step) f cdv A outer s H E) (defBody st__law_step) (liftS K B E (w__law_step C)) := fun B => S_cons (asg_ (s_box (s_dnK)) (gn_ T 2)) (
S_cons (S_forLk wk_keys (passes_of rfl) T.hc (v_ 1) (fun B => gn_ T 3) (fun B => S_cons (S_for (passes_of rfl) T.hc (i_iter (get_ T (v_ 0) (ci_))) (gt2_ T (gc_ (gn_ T 4) (gc_ (gn_ T 5) (gz_)))) (S_cons (setIx_ T (mod_ (biT_ c_int Z.b_int (ca_ (add_ (get2_ T (v_ 2) (add_ (v_ 3) (v_ 5)) (ci_)) (mul_ (v_ 4) (get_ T (v_ 1) (v_ 3)))) (na_))) (get_ T (v_ 0) (ci_))) (v_ 2) (add_ (v_ 3) (v_ 5))) (
S_nil)) (fun _ => rfl)) (
S_nil)) (fun _ => rfl)) (
S_cons (S_ret (s_val (biTF_ (c_dict T.hc) Z.b_dict (ca_ (s_val (s_lcLk (own := [("spot", 3)]) wk_keys T.hc T.nd (vf_ 2) (blkOk_by (by kernel_rfl)) (fun s H D cl fp B => gn_ T.blk 3) (fun s H D cl fp B => ts_one (tcmp_ (o_ne T.blk.hu4) (get_ T.blk (v_ 2) (v_ 3)) (ci_))) (fun s H D cl fp B => s_tup (ca_ (v_ 3) (ca_ (get_ T.blk (v_ 2) (v_ 3)) (na_)))) (fun _ => rfl) (by decide))) (na_))))) (
S_nil)))
def N__law_walk : List Str := ["kind", "begin_row", "many", "found", "turn"]
def P__law_walk : List Str := ["kind", "begin_row", "many"]
abbrev st__law_walk : Stmt := (top 36)
theorem sc__law_walk : FnScope N__law_walk P__law_walk (defScope st__law_walk) := ⟨rfl, rfl, rfl, by decide +kernel, rfl, by decide +kernel, by decide +kernel⟩
def b__law_walk_1 (C : Addr) : WStm := wSeq (wDrop (wMu mAppend (wVar 3) (wCons (wCall (sp__law_step C) (wCons (wVar 0) (wCons (wBin fGet (wVar 3) (wUn fNeg (wC (.int 1)))) (wNil)))) (wNil)))) (
wSkip)
def w__law_walk (C : Addr) : WStm := wSeq (wAsg (wBox (wLst (wCons (wVal (wAppF fDict (wCons (wVar 1) (wNil)))) (wNil)))) (.nm 3)) (
wSeq (wFor (wRng1 (wCons (wVar 2) (wNil))) (.nm 4) (b__law_walk_1 C)) (
wSeq (wRet (wFrz 3)) (
wSkip)))
theorem r__law_walk (Z : Tab P K mg C) (Q__law_step : FnG P w K mg base 1 "_law_step" "_law_step" st__law_step P__law_step ((sp__law_step C))) {f : Addr} {cdv : Value} {A : Around} {outer : List Env} {s : Shared} {H : Hp} {E : XK} (T : Sit (cxOf (L2.CX P w) P w K mg base N__law_walk "_law_walk" (defScope st__law_walk) f cdv A outer s H E) E 2) :
    ∀ B, PSs (cxOf (L2.CX P w) P w K mg base N__law_walk "_law_walk" (defScope st__law_walk) f cdv A outer s H E) (defBody st__law_walk) (liftS K B E (w__law_walk C)) := fun B => S_cons (asg_ (s_box (s_lst (ca_ (s_val (biTF_ (c_dict T.hc) Z.b_dict (ca_ (v_ 1) (na_)))) (na_)))) (gn_ T 3)) (
S_cons (S_for (passes_of rfl) T.hc (i_rng1 rfl Z.b_range (ca_ (v_ 2) (na_)) rfl) (gn_ T 4) (S_cons (drop_ (append_ (v_ 3) (ca_ (call_ T Q__law_step (by decide) (ca_ (v_ 0) (ca_ (get_ T (v_ 3) (s_neg (ci_))) (na_)))) (na_)))) (
S_nil)) (fun _ => rfl)) (
S_cons (S_ret (vf_ 3)) (
S_nil)))
def N_check_stretch : List Str := ["low", "high"]
def P_check_stretch : List Str := ["low", "high"]
abbrev st_check_stretch : Stmt := (top 21)
theorem sc_check_stretch : FnScope N_check_stretch P_check_stretch (defScope st_check_stretch) := ⟨rfl, rfl, rfl, by decide +kernel, rfl, by decide +kernel, by decide +kernel⟩
def w_check_stretch (C : Addr) : WStm := wSeq (wIf (wB (wBin fGt (wVar 0) (wVar 1))) (wSeq (wNo) (
wSkip)) (wSkip)) (
wSkip)
theorem r_check_stretch (Z : Tab P K mg C) {f : Addr} {cdv : Value} {A : Around} {outer : List Env} {s : Shared} {H : Hp} {E : XK} (T : Sit (cxOf (L2.CX P w) P w K mg base N_check_stretch "check_stretch" (defScope st_check_stretch) f cdv A outer s H E) E 0) :
    ∀ B, PSs (cxOf (L2.CX P w) P w K mg base N_check_stretch "check_stretch" (defScope st_check_stretch) f cdv A outer s H E) (defBody st_check_stretch) (liftS K B E (w_check_stretch C)) := fun B => S_cons (S_if (tcmp_ o_gt (v_ 0) (v_ 1)) (S_cons (S_never) (
S_nil)) (S_nil)) (
S_nil)
def N_Rule_prime : List Str := ["self"]
def P_Rule_prime : List Str := ["self"]
abbrev st_Rule_prime : Stmt := (inClass (top 17) 2)
theorem sc_Rule_prime : FnScope N_Rule_prime P_Rule_prime (defScope st_Rule_prime) := ⟨rfl, rfl, rfl, by decide +kernel, rfl, by decide +kernel, by decide +kernel⟩
def w_Rule_prime (C : Addr) : WStm := wSeq (wRet (wFld C "modulus" (wVar 0))) (
wSkip)
theorem r_Rule_prime (Z : Tab P K mg C) {f : Addr} {cdv : Value} {A : Around} {outer : List Env} {s : Shared} {H : Hp} {E : XK} (T : Sit (cxOf (L2.CX P w) P w K mg base N_Rule_prime "Rule.prime" (defScope st_Rule_prime) f cdv A outer s H E) E 0) :
    ∀ B, PSs (cxOf (L2.CX P w) P w K mg base N_Rule_prime "Rule.prime" (defScope st_Rule_prime) f cdv A outer s H E) (defBody st_Rule_prime) (liftS K B E (w_Rule_prime C)) := fun B => S_cons (S_ret (fld_ Z.cl Z.n_modulus (v_ 0))) (
S_nil)
def N_parted : List Str := ["cells", "prime", "remainder", "place", "value"]
def P_parted : List Str := ["cells", "prime", "remainder"]
abbrev st_parted : Stmt := (top 13)
theorem sc_parted : FnScope N_parted P_parted (defScope st_parted) := ⟨rfl, rfl, rfl, by decide +kernel, rfl, by decide +kernel, by decide +kernel⟩
def w_parted (C : Addr) : WStm := wSeq (wRet (wVal (wDcLk itemsD (wVar 0) (.tu (.tp (.nm 3) (.tp (.nm 4) (.nl)))) (wB (wBin (fEqK false) (wBin fMod (wVar 3) (wVar 1)) (wVar 2))) (wBin fDiv (wVar 3) (wVar 1)) (wVar 4) [3, 4]))) (
wSkip)
theorem r_parted (Z : Tab P K mg C) {f : Addr} {cdv : Value} {A : Around} {outer : List Env} {s : Shared} {H : Hp} {E : XK} (T : Sit (cxOf (L2.CX P w) P w K mg base N_parted "parted" (defScope st_parted) f cdv A outer s H E) E 0) :
    ∀ B, PSs (cxOf (L2.CX P w) P w K mg base N_parted "parted" (defScope st_parted) f cdv A outer s H E) (defBody st_parted) (liftS K B E (w_parted C)) := fun B => S_cons (S_ret (s_val (s_dcLk (own := [("place", 3), ("value", 4)]) (wk_items rfl rfl) T.hc T.nd (v_ 0) (blkOk_by (by kernel_rfl)) (fun s H D cl fp B => gt2_ T.blk (gc_ (gn_ T.blk 3) (gc_ (gn_ T.blk 4) (gz_)))) (fun s H D cl fp B => ts_one (tcmp_ (o_eq T.blk.hu4) (mod_ (v_ 3) (v_ 1)) (v_ 2))) (fun s H D cl fp B => div_ (v_ 3) (v_ 1)) (fun s H D cl fp B => v_ 4) (fun _ => rfl) (by decide)))) (
S_nil)
def N_far_stretch : List Str := ["rule", "cells", "number", "ends", "known", "low", "high", "key", "prime", "remainder", "found", "product", "fewer", "values", "place", "first", "last", "step", "value"]
def P_far_stretch : List Str := ["rule", "cells", "number", "ends", "known"]
abbrev st_far_stretch : Stmt := (top 25)
theorem sc_far_stretch : FnScope N_far_stretch P_far_stretch (defScope st_far_stretch) := ⟨rfl, rfl, rfl, by decide +kernel, rfl, by decide +kernel, by decide +kernel⟩
def b_far_stretch_1 (C : Addr) (spR : DSp) : WStm := wSeq (wSetIx (wVar 18) (wVar 10) (wBin fSub (wBin fAdd (wBin fMul (wBin fAdd (wVar 15) (wVar 17)) (wVar 8)) (wVar 9)) (wVar 5))) (
wSkip)
def b_far_stretch_2 (C : Addr) (spR : DSp) : WStm := wSeq (wPar2 15 16 (wCons (wUn fNeg (wBin fDiv (wBin fSub (wVar 9) (wVar 5)) (wVar 8))) (wCons (wBin fDiv (wBin fSub (wVar 6) (wVar 9)) (wVar 8)) (wNil)))) (
wSeq (wAsg (wApp fPTup (wCons (wVal (wSortIt (wCall (sp_parted C) (wCons (wVar 11) (wCons (wVar 8) (wCons (wVar 9) (wNil))))))) (wNil))) (.nm 12)) (
wSeq (wAsg (wIte (wB (wBin fLe (wVar 15) (wVar 16))) (wCall spR (wCons (wVar 0) (wCons (wVar 12) (wCons (wBin fDiv (wVar 2) (wVar 8)) (wCons (wTup (wCons (wVar 15) (wCons (wVar 16) (wNil)))) (wCons (wVar 4) (wNil))))))) (wVal (wLst (wNil)))) (.nm 13)) (
wSeq (wForEn (wCons (wVar 13) (wNil)) (.tu (.tp (.nm 17) (.tp (.nm 18) (.nl)))) (b_far_stretch_1 C spR)) (
wSkip))))
def w_far_stretch (C : Addr) (spR : DSp) : WStm := wSeq (wAsg (wVar 3) (.tu (.tp (.nm 5) (.tp (.nm 6) (.nl))))) (
wSeq (wIf (wB (wBin (fEqK false) (wVar 2) (wC (.int 0)))) (wSeq (wRet (wBox (wLc (wRngB (wCons (wVar 5) (wCons (wBin fAdd (wVar 6) (wC (.int 1))) (wNil)))) (.nm 14) (wYes) (wGet2 (wVal (wAppF fDict (wCons (wVar 1) (wNil)))) (wVar 14) (wC (.int 0))) [14]))) (
wSkip)) (wSkip)) (
wSeq (wPar2 7 8 (wCons (wTup (wCons (wVar 1) (wCons (wVar 2) (wCons (wVar 3) (wNil))))) (wCons (wProp C (sp_Rule_prime C) (wVar 0)) (wNil)))) (
wSeq (wIf (wB (wBin fNotInN (wVar 7) (wVar 4))) (wSeq (wPar2 10 11 (wCons (wBox (wRep (wVal (wLst (wCons (wC (.int 0)) (wNil)))) (wBin fAdd (wBin fSub (wVar 6) (wVar 5)) (wC (.int 1))))) (wCons (wCall (sp_multiplied C) (wCons (wVal (wAppF fDict (wCons (wVar 1) (wNil)))) (wCons (wBin fGet (wFld C "powers" (wVar 0)) (wBin fMod (wVar 2) (wVar 8))) (wCons (wVar 8) (wNil))))) (wNil)))) (
wSeq (wFor (wRng1 (wCons (wVar 8) (wNil))) (.nm 9) (b_far_stretch_2 C spR)) (
wSeq (wSetIxN (wVar 10) (wVar 4) (wVar 7)) (
wSkip)))) (wSkip)) (
wSeq (wRet (wBin fGetN (wVar 4) (wVar 7))) (
wSkip)))))
theorem r_far_stretch (Z : Tab P K mg C) (Q_prime : PrG P w K mg base C 1 "prime" ((sp_Rule_prime C))) (Q_multiplied : FnG P w K mg base 3 "multiplied" "multiplied" st_multiplied P_multiplied ((sp_multiplied C))) {kR k : Nat} {spR : DSp} (hk : 10 ≤ k) (hkR : kR ≤ k) (Q_far_stretch : FnG P w K mg base kR "far_stretch" "far_stretch" st_far_stretch P_far_stretch spR) (Q_parted : FnG P w K mg base 1 "parted" "parted" st_parted P_parted ((sp_parted C))) {f : Addr} {cdv : Value} {A : Around} {outer : List Env} {s : Shared} {H : Hp} {E : XK} (T : Sit (cxOf (L2.CX P w) P w K mg base N_far_stretch "far_stretch" (defScope st_far_stretch) f cdv A outer s H E) E k) :
    ∀ B, PSs (cxOf (L2.CX P w) P w K mg base N_far_stretch "far_stretch" (defScope st_far_stretch) f cdv A outer s H E) (defBody st_far_stretch) (liftS K B E (w_far_stretch C spR)) := fun B => S_cons (asg_ (v_ 3) (gt2_ T (gc_ (gn_ T 5) (gc_ (gn_ T 6) (gz_))))) (
S_cons (S_if (tcmp_ (o_eq T.hu4) (v_ 2) (ci_)) (S_cons (S_ret (s_box (s_lc (own := [("place", 14)]) T.hc T.nd (i_rngB rfl Z.b_range (ca_ (v_ 5) (ca_ (add_ (v_ 6) (ci_)) (na_))) rfl rfl) (blkOk_by (by kernel_rfl)) (fun s H D cl fp B => gn_ T.blk 14) (fun s H D cl fp B => ts_nil) (fun s H D cl fp B => get2_ T.blk (s_val (biTF_ (c_dict T.blk.hc) Z.b_dict (ca_ (v_ 1) (na_)))) (v_ 14) (ci_)) (fun _ => rfl) (by first | decide | omega)))) (
S_nil)) (S_nil)) (
S_cons (par2_ T 7 8 (ca_ (s_tup (ca_ (v_ 1) (ca_ (v_ 2) (ca_ (v_ 3) (na_))))) (ca_ (prop_ T Z.cl Q_prime (by first | decide | omega) (v_ 0)) (na_)))) (
S_cons (S_if (tcmp_ (o_notInN T.hu9) (v_ 7) (v_ 4)) (S_cons (par2_ T 10 11 (ca_ (s_box (s_rep (s_val (s_lst (ca_ (ci_) (na_)))) (add_ (sub_ (v_ 6) (v_ 5)) (ci_)))) (ca_ (call_ T Q_multiplied (by first | decide | omega) (ca_ (s_val (biTF_ (c_dict T.hc) Z.b_dict (ca_ (v_ 1) (na_)))) (ca_ (get_ T (fld_ Z.cl Z.n_powers (v_ 0)) (mod_ (v_ 2) (v_ 8))) (ca_ (v_ 8) (na_))))) (na_)))) (
S_cons (S_for (passes_of rfl) T.hc (i_rng1 rfl Z.b_range (ca_ (v_ 8) (na_)) rfl) (gn_ T 9) (S_cons (par2_ T 15 16 (ca_ (s_neg (div_ (sub_ (v_ 9) (v_ 5)) (v_ 8))) (ca_ (div_ (sub_ (v_ 6) (v_ 9)) (v_ 8)) (na_)))) (
S_cons (asg_ (biT_ c_ptup Z.b_tuple (ca_ (s_val (sortIt_ T Z.b_sorted (call_ T Q_parted (by first | decide | omega) (ca_ (v_ 11) (ca_ (v_ 8) (ca_ (v_ 9) (na_))))))) (na_))) (gn_ T 12)) (
S_cons (asg_ (s_ite (tcmp_ o_le (v_ 15) (v_ 16)) (call_ T Q_far_stretch (by first | decide | omega) (ca_ (v_ 0) (ca_ (v_ 12) (ca_ (div_ (v_ 2) (v_ 8)) (ca_ (s_tup (ca_ (v_ 15) (ca_ (v_ 16) (na_)))) (ca_ (v_ 4) (na_))))))) (s_val (s_lst (na_)))) (gn_ T 13)) (
S_cons (S_forEn (passes_of rfl) T.hc rfl Z.b_enumerate (ca_ (v_ 13) (na_)) rfl (gt2_ T (gc_ (gn_ T 17) (gc_ (gn_ T 18) (gz_)))) (S_cons (setIx_ T (v_ 18) (v_ 10) (sub_ (add_ (mul_ (add_ (v_ 15) (v_ 17)) (v_ 8)) (v_ 9)) (v_ 5))) (
S_nil)) (fun _ => rfl)) (
S_nil))))) (fun _ => rfl)) (
S_cons (setIxN_ T (v_ 10) (v_ 4) (v_ 7)) (
S_nil)))) (S_nil)) (
S_cons (S_ret (getN_ T (v_ 4) (v_ 7))) (
S_nil)))))
def N_cells_between : List Str := ["rule", "row", "number", "low", "high"]
def P_cells_between : List Str := ["rule", "row", "number", "low", "high"]
abbrev st_cells_between : Stmt := (top 27)
theorem sc_cells_between : FnScope N_cells_between P_cells_between (defScope st_cells_between) := ⟨rfl, rfl, rfl, by decide +kernel, rfl, by decide +kernel, by decide +kernel⟩
def w_cells_between (C : Addr) : WStm := wSeq (wDrop (wCall (sp_check_far C) (wCons (wVar 0) (wCons (wVar 1) (wCons (wVar 2) (wNil)))))) (
wSeq (wDrop (wCall (sp_check_stretch C) (wCons (wVar 3) (wCons (wVar 4) (wNil))))) (
wSeq (wRet (wCall (sp_far_stretch C) (wCons (wVar 0) (wCons (wApp fPTup (wCons (wVar 1) (wNil))) (wCons (wVar 2) (wCons (wTup (wCons (wVar 3) (wCons (wVar 4) (wNil)))) (wCons (wBoxN) (wNil)))))))) (
wSkip)))
theorem r_cells_between (Z : Tab P K mg C) (Q_check_far : FnG P w K mg base 3 "check_far" "check_far" st_check_far P_check_far ((sp_check_far C))) (Q_check_stretch : FnG P w K mg base 1 "check_stretch" "check_stretch" st_check_stretch P_check_stretch ((sp_check_stretch C))) (Q_far_stretch : FnG P w K mg base 111 "far_stretch" "far_stretch" st_far_stretch P_far_stretch ((sp_far_stretch C))) {f : Addr} {cdv : Value} {A : Around} {outer : List Env} {s : Shared} {H : Hp} {E : XK} (T : Sit (cxOf (L2.CX P w) P w K mg base N_cells_between "cells_between" (defScope st_cells_between) f cdv A outer s H E) E 112) :
    ∀ B, PSs (cxOf (L2.CX P w) P w K mg base N_cells_between "cells_between" (defScope st_cells_between) f cdv A outer s H E) (defBody st_cells_between) (liftS K B E (w_cells_between C)) := fun B => S_cons (drop_ (call_ T Q_check_far (by decide) (ca_ (v_ 0) (ca_ (v_ 1) (ca_ (v_ 2) (na_)))))) (
S_cons (drop_ (call_ T Q_check_stretch (by decide) (ca_ (v_ 3) (ca_ (v_ 4) (na_))))) (
S_cons (S_ret (call_ T Q_far_stretch (by decide) (ca_ (v_ 0) (ca_ (biT_ c_ptup Z.b_tuple (ca_ (v_ 1) (na_))) (ca_ (v_ 2) (ca_ (s_tup (ca_ (v_ 3) (ca_ (v_ 4) (na_)))) (ca_ (s_boxN) (na_)))))))) (
S_nil)))
def N_far_value : List Str := ["cells", "prime", "turns", "place", "rule", "number"]
def P_far_value : List Str := ["cells", "prime", "turns", "place"]
abbrev st_far_value : Stmt := (top 23)
theorem sc_far_value : FnScope N_far_value P_far_value (defScope st_far_value) := ⟨rfl, rfl, rfl, by decide +kernel, rfl, by decide +kernel, by decide +kernel⟩
def b_far_value_1 (C : Addr) : WStm := wSeq (wAsg (wCall (sp_multiplied C) (wCons (wVar 0) (wCons (wBin fGet (wFld C "powers" (wVar 4)) (wBin fMod (wVar 5) (wVar 1))) (wCons (wVar 1) (wNil))))) (.nm 0)) (
wSkip)
def b_far_value_2 (C : Addr) : WStm := wSeq (wFor (wIter (wVar 2)) (.tu (.tp (.nm 4) (.tp (.nm 5) (.nl)))) (b_far_value_1 C)) (
wSeq (wPar2 0 3 (wCons (wCall (sp_parted C) (wCons (wVar 0) (wCons (wVar 1) (wCons (wBin fMod (wVar 3) (wVar 1)) (wNil))))) (wCons (wBin fDiv (wVar 3) (wVar 1)) (wNil)))) (
wSeq (wSetV (wLc (wIter (wVar 2)) (.tu (.tp (.nm 4) (.tp (.nm 5) (.nl)))) (wB (wBin fGe (wVar 5) (wVar 1))) (wTup (wCons (wVar 4) (wCons (wBin fDiv (wVar 5) (wVar 1)) (wNil)))) [4, 5]) 2) (
wSkip)))
def w_far_value (C : Addr) : WStm := wSeq (wWhile (wB (wBin (fEqE true) (wVar 2) (wVal (wLst (wNil))))) (b_far_value_2 C)) (
wSeq (wRet (wGet2 (wVar 0) (wVar 3) (wC (.int 0)))) (
wSkip))
theorem r_far_value (Z : Tab P K mg C) (Q_multiplied : FnG P w K mg base 3 "multiplied" "multiplied" st_multiplied P_multiplied ((sp_multiplied C))) (Q_parted : FnG P w K mg base 1 "parted" "parted" st_parted P_parted ((sp_parted C))) {f : Addr} {cdv : Value} {A : Around} {outer : List Env} {s : Shared} {H : Hp} {E : XK} (T : Sit (cxOf (L2.CX P w) P w K mg base N_far_value "far_value" (defScope st_far_value) f cdv A outer s H E) E 4) :
    ∀ B, PSs (cxOf (L2.CX P w) P w K mg base N_far_value "far_value" (defScope st_far_value) f cdv A outer s H E) (defBody st_far_value) (liftS K B E (w_far_value C)) := fun B => S_cons (S_while (passes_of rfl) (tcmp_ (o_neE T.hu4) (v_ 2) (s_val (s_lst (na_)))) (S_cons (S_for (passes_of rfl) T.hc (i_iter (v_ 2)) (gt2_ T (gc_ (gn_ T 4) (gc_ (gn_ T 5) (gz_)))) (S_cons (asg_ (call_ T Q_multiplied (by decide) (ca_ (v_ 0) (ca_ (get_ T (fld_ Z.cl Z.n_powers (v_ 4)) (mod_ (v_ 5) (v_ 1))) (ca_ (v_ 1) (na_))))) (gn_ T 0)) (
S_nil)) (fun _ => rfl)) (
S_cons (par2_ T 0 3 (ca_ (call_ T Q_parted (by decide) (ca_ (v_ 0) (ca_ (v_ 1) (ca_ (mod_ (v_ 3) (v_ 1)) (na_))))) (ca_ (div_ (v_ 3) (v_ 1)) (na_)))) (
S_cons (S_setLc (own := [("rule", 4), ("number", 5)]) T.hc T.nd (i := 2) rfl rfl rfl (i_iter (v_ 2)) (blkOk_by (by kernel_rfl)) (fun s H D cl fp B => gt2_ T.blk (gc_ (gn_ T.blk 4) (gc_ (gn_ T.blk 5) (gz_)))) (fun s H D cl fp B => ts_one (tcmp_ o_ge (v_ 5) (v_ 1))) (fun s H D cl fp B => s_tup (ca_ (v_ 4) (ca_ (div_ (v_ 5) (v_ 1)) (na_)))) (fun _ => rfl) (by decide)) (
S_nil))))) (
S_cons (S_ret (get2_ T (v_ 0) (v_ 3) (ci_))) (
S_nil))
def N_value_in : List Str := ["rule", "row", "number", "place"]
def P_value_in : List Str := ["rule", "row", "number", "place"]
abbrev st_value_in : Stmt := (top 24)
theorem sc_value_in : FnScope N_value_in P_value_in (defScope st_value_in) := ⟨rfl, rfl, rfl, by decide +kernel, rfl, by decide +kernel, by decide +kernel⟩
def w_value_in (C : Addr) : WStm := wSeq (wRet (wCall (sp_far_value C) (wCons (wCall (sp_cells_of C) (wCons (wVar 1) (wNil))) (wCons (wProp C (sp_Rule_prime C) (wVar 0)) (wCons (wVal (wLst (wCons (wTup (wCons (wVar 0) (wCons (wVar 2) (wNil)))) (wNil)))) (wCons (wVar 3) (wNil))))))) (
wSkip)
theorem r_value_in (Z : Tab P K mg C) (Q_far_value : FnG P w K mg base 5 "far_value" "far_value" st_far_value P_far_value ((sp_far_value C))) (Q_cells_of : FnG P w K mg base 1 "cells_of" "cells_of" st_cells_of P_cells_of ((sp_cells_of C))) (Q_prime : PrG P w K mg base C 1 "prime" ((sp_Rule_prime C))) {f : Addr} {cdv : Value} {A : Around} {outer : List Env} {s : Shared} {H : Hp} {E : XK} (T : Sit (cxOf (L2.CX P w) P w K mg base N_value_in "value_in" (defScope st_value_in) f cdv A outer s H E) E 6) :
    ∀ B, PSs (cxOf (L2.CX P w) P w K mg base N_value_in "value_in" (defScope st_value_in) f cdv A outer s H E) (defBody st_value_in) (liftS K B E (w_value_in C)) := fun B => S_cons (S_ret (call_ T Q_far_value (by decide) (ca_ (call_ T Q_cells_of (by decide) (ca_ (v_ 1) (na_))) (ca_ (prop_ T Z.cl Q_prime (by decide) (v_ 0)) (ca_ (s_val (s_lst (ca_ (s_tup (ca_ (v_ 0) (ca_ (v_ 2) (na_)))) (na_)))) (ca_ (v_ 3) (na_))))))) (
S_nil)
def N_cell_at : List Str := ["rule", "row", "number", "place"]
def P_cell_at : List Str := ["rule", "row", "number", "place"]
abbrev st_cell_at : Stmt := (top 26)
theorem sc_cell_at : FnScope N_cell_at P_cell_at (defScope st_cell_at) := ⟨rfl, rfl, rfl, by decide +kernel, rfl, by decide +kernel, by decide +kernel⟩
def w_cell_at (C : Addr) : WStm := wSeq (wDrop (wCall (sp_check_far C) (wCons (wVar 0) (wCons (wVar 1) (wCons (wVar 2) (wNil)))))) (
wSeq (wRet (wCall (sp_value_in C) (wCons (wVar 0) (wCons (wVar 1) (wCons (wVar 2) (wCons (wVar 3) (wNil))))))) (
wSkip))
theorem r_cell_at (Z : Tab P K mg C) (Q_check_far : FnG P w K mg base 3 "check_far" "check_far" st_check_far P_check_far ((sp_check_far C))) (Q_value_in : FnG P w K mg base 7 "value_in" "value_in" st_value_in P_value_in ((sp_value_in C))) {f : Addr} {cdv : Value} {A : Around} {outer : List Env} {s : Shared} {H : Hp} {E : XK} (T : Sit (cxOf (L2.CX P w) P w K mg base N_cell_at "cell_at" (defScope st_cell_at) f cdv A outer s H E) E 8) :
    ∀ B, PSs (cxOf (L2.CX P w) P w K mg base N_cell_at "cell_at" (defScope st_cell_at) f cdv A outer s H E) (defBody st_cell_at) (liftS K B E (w_cell_at C)) := fun B => S_cons (drop_ (call_ T Q_check_far (by decide) (ca_ (v_ 0) (ca_ (v_ 1) (ca_ (v_ 2) (na_)))))) (
S_cons (S_ret (call_ T Q_value_in (by decide) (ca_ (v_ 0) (ca_ (v_ 1) (ca_ (v_ 2) (ca_ (v_ 3) (na_))))))) (
S_nil))
def N__law_right : List Str := ["pool", "kind", "many", "due", "told", "turn", "made", "begin_row", "kept", "walk", "there", "edge", "pair", "line", "found", "spot"]
def P__law_right : List Str := ["pool"]
abbrev st__law_right : Stmt := (top 37)
theorem sc__law_right : FnScope N__law_right P__law_right (defScope st__law_right) := ⟨rfl, rfl, rfl, by decide +kernel, rfl, by decide +kernel, by decide +kernel⟩
def b__law_right_1 (C : Addr) : WStm := wSeq (wAsg (wBin fGet (wVar 9) (wVar 5)) (.nm 10)) (
wSeq (wAsg (wIte (wAnd (wB (wBin (fEqD true) (wVar 10) (wVal (wDnK)))) (wB (wBin (fEqK false) (wCall (sp__law_draw C) (wCons (wVar 0) (wCons (wC (.int 2)) (wNil)))) (wC (.int 0))))) (wApp fMin (wCons (wVal (wAppF fListK (wCons (wVar 10) (wNil)))) (wNil))) (wBin fSub (wCall (sp__law_draw C) (wCons (wVar 0) (wCons (wC (.int 99)) (wNil)))) (wC (.int 50)))) (.nm 11)) (
wSeq (wAsg (wTup (wCons (wBin fSub (wVar 11) (wCall (sp__law_draw C) (wCons (wVar 0) (wCons (wC (.int 4)) (wNil))))) (wCons (wBin fAdd (wVar 11) (wCall (sp__law_draw C) (wCons (wVar 0) (wCons (wC (.int 60)) (wNil))))) (wNil)))) (.nm 12)) (
wSeq (wSetV (wLc (wRngB (wCons (wBin fGet (wVar 12) (wC (.int 0))) (wCons (wBin fAdd (wBin fGet (wVar 12) (wC (.int 1))) (wC (.int 1))) (wNil)))) (.nm 15) (wYes) (wGet2 (wVar 10) (wVar 15) (wC (.int 0))) [15]) 13) (
wSeq (wAsg (wBox (wLst (wCons (wCall (sp_cells_between C) (wCons (wVar 6) (wCons (wVar 7) (wCons (wVar 5) (wCons (wBin fGet (wVar 12) (wC (.int 0))) (wCons (wBin fGet (wVar 12) (wC (.int 1))) (wNil))))))) (wNil)))) (.nm 14)) (
wSeq (wDrop (wMu mAppend (wVar 14) (wCons (wSeal (wCallK (sp_cells_between C) 0 5 [4, 3, 2, 1, 0] wNil (wCons (wBin fGet (wVar 12) (wC (.int 1))) (wCons (wBin fGet (wVar 12) (wC (.int 0))) (wCons (wVar 5) (wCons (wVar 7) (wCons (wVar 6) (wNil)))))))) (wNil)))) (
wSeq (wIf (wB (wBin (fEqS true) (wApp fReprV (wCons (wVar 14) (wNil))) (wApp fReprV (wCons (wVal (wLst (wCons (wVar 13) (wCons (wVar 13) (wNil))))) (wNil))))) (wSeq (wRet (wC (.bl false))) (
wSkip)) (wSkip)) (
wSeq (wDrop (wMu mClear (wBin fGet (wVar 14) (wC (.int 0))) wNil)) (
wSeq (wAsg (wBin fAdd (wBin fGet (wVar 12) (wC (.int 0))) (wCall (sp__law_draw C) (wCons (wVar 0) (wCons (wApp fLen (wCons (wVar 13) (wNil))) (wNil))))) (.nm 15)) (
wSeq (wAsg (wBox (wLst (wCons (wCall (sp_cell_at C) (wCons (wVar 6) (wCons (wVar 7) (wCons (wVar 5) (wCons (wVar 15) (wNil)))))) (wCons (wCallK (sp_cell_at C) 0 4 [3, 2, 1, 0] wNil (wCons (wVar 15) (wCons (wVar 5) (wCons (wVar 7) (wCons (wVar 6) (wNil)))))) (wNil))))) (.nm 4)) (
wSeq (wIf (wB (wBin (fEqS true) (wApp fReprV (wCons (wVar 4) (wNil))) (wApp fReprV (wCons (wVal (wRep (wVal (wLst (wCons (wGet2 (wVar 10) (wVar 15) (wC (.int 0))) (wNil)))) (wC (.int 2)))) (wNil))))) (wSeq (wRet (wC (.bl false))) (
wSkip)) (wSkip)) (
wSkip)))))))))))
def q__law_right_4 (C : Addr) : WStm := wSeq (wPar2 8 9 (wCons (wVal (wAppF fList (wCons (wVar 7) (wNil)))) (wCons (wCall (sp__law_walk C) (wCons (wVar 1) (wCons (wVar 7) (wCons (wVar 2) (wNil))))) (wNil)))) (
wSeq (wSetV (wLc (wIter (wVar 9)) (.nm 10) (wYes) (wVal (wSortIt (wVar 10))) [10]) 3) (
wSeq (wAsg (wCall (sp_rows_untilO C) (wCons (wVar 6) (wCons (wVar 7) (wCons (wVar 2) (wNil))))) (.nm 4)) (
wSeq (wIf (wB (wBin (fEqS true) (wApp fReprV (wCons (wVal (wLst (wCons (wVar 4) (wCons (wSeal (wCallK (sp_rows_untilO C) 0 3 [2, 1, 0] wNil (wCons (wVar 2) (wCons (wVar 7) (wCons (wVar 6) (wNil)))))) (wNil))))) (wNil))) (wApp fReprV (wCons (wVal (wLst (wCons (wVar 3) (wCons (wVar 3) (wNil))))) (wNil))))) (wSeq (wRet (wC (.bl false))) (
wSkip)) (wSkip)) (
wSeq (wDrop (wMu mAppend (wBin fGet (wVar 4) (wC (.int 0))) (wCons (wTup (wCons (wC (.int 0)) (wCons (wC (.int 1)) (wNil)))) (wNil)))) (
wSeq (wDrop (wMu mPop (wVar 4) wNil)) (
wSeq (wFor (wIter (wTup (wCons (wC (.int 0)) (wCons (wVar 2) (wCons (wCall (sp__law_draw C) (wCons (wVar 0) (wCons (wBin fAdd (wVar 2) (wC (.int 1))) (wNil)))) (wNil)))))) (.nm 5) (b__law_right_1 C)) (
wSeq (wRet (wAndV (wBin (fEqK false) (wVar 7) (wVar 8)) (wBin (fEqS false) (wApp fReprV (wCons (wSeal (wCall (sp_rows_untilO C) (wCons (wVar 6) (wCons (wVar 7) (wCons (wVar 2) (wNil)))))) (wNil))) (wApp fReprV (wCons (wVar 3) (wNil)))))) (
wSkip))))))))
def w__law_right (C : Addr) : WStm := wSeq (wAsg (wCall (sp__law_kind C) (wCons (wVar 0) (wNil))) (.nm 1)) (
wSeq (wPar2 6 7 (wCons (wCall (sp__law_made C) (wCons (wVar 1) (wNil))) (wCons (wCall (sp__law_row C) (wCons (wVar 0) (wCons (wVar 1) (wCons (wC (.int 12)) (wCons (wBin fPow (wC (.int 10)) (wC (.int 30))) (wNil)))))) (wNil)))) (
wSeq (wAsg (wBin fGet (wVal (wLst (wCons (wC (.int 0)) (wCons (wC (.int 1)) (wCons (wCall (sp__law_draw C) (wCons (wVar 0) (wCons (wC (.int 41)) (wNil)))) (wCons (wC (.int 40)) (wNil))))))) (wCall (sp__law_draw C) (wCons (wVar 0) (wCons (wC (.int 4)) (wNil))))) (.nm 2)) (
wSeq (wIf (wB (wBin (fEqK false) (wCall (sp__law_draw C) (wCons (wVar 0) (wCons (wC (.int 8)) (wNil)))) (wC (.int 0)))) (wSeq (wAsg (wVal (wLst (wNil))) (.nm 7)) (
wSkip)) (wSkip)) (
q__law_right_4 C))))
theorem r__law_right (Z : Tab P K mg C) (Q__law_kind : FnG P w K mg base 3 "_law_kind" "_law_kind" st__law_kind P__law_kind ((sp__law_kind C))) (Q_rows_until : FnG P w K mg base 7 "rows_until" "rows_until" st_rows_until P_rows_until ((sp_rows_untilO C))) (Q__law_made : FnG P w K mg base 7 "_law_made" "_law_made" st__law_made P__law_made ((sp__law_made C))) (Q__law_row : FnG P w K mg base 3 "_law_row" "_law_row" st__law_row P__law_row ((sp__law_row C))) (Q__law_draw : FnG P w K mg base 1 "_law_draw" "_law_draw" st__law_draw P__law_draw ((sp__law_draw C))) (Q__law_walk : FnG P w K mg base 3 "_law_walk" "_law_walk" st__law_walk P__law_walk ((sp__law_walk C))) (Q_cells_between : FnG P w K mg base 113 "cells_between" "cells_between" st_cells_between P_cells_between ((sp_cells_between C))) (Q_cell_at : FnG P w K mg base 9 "cell_at" "cell_at" st_cell_at P_cell_at ((sp_cell_at C))) {f : Addr} {cdv : Value} {A : Around} {outer : List Env} {s : Shared} {H : Hp} {E : XK} (T : Sit (cxOf (L2.CX P w) P w K mg base N__law_right "_law_right" (defScope st__law_right) f cdv A outer s H E) E 114) :
    ∀ B, PSs (cxOf (L2.CX P w) P w K mg base N__law_right "_law_right" (defScope st__law_right) f cdv A outer s H E) (defBody st__law_right) (liftS K B E (w__law_right C)) := fun B => S_cons (asg_ (call_ T Q__law_kind (by decide) (ca_ (v_ 0) (na_))) (gn_ T 1)) (
S_cons (par2_ T 6 7 (ca_ (call_ T Q__law_made (by decide) (ca_ (v_ 1) (na_))) (ca_ (call_ T Q__law_row (by decide) (ca_ (v_ 0) (ca_ (v_ 1) (ca_ (ci_) (ca_ (pow_ (ci_) (ci_)) (na_)))))) (na_)))) (
S_cons (asg_ (get_ T (s_val (s_lst (ca_ (ci_) (ca_ (ci_) (ca_ (call_ T Q__law_draw (by decide) (ca_ (v_ 0) (ca_ (ci_) (na_)))) (ca_ (ci_) (na_))))))) (call_ T Q__law_draw (by decide) (ca_ (v_ 0) (ca_ (ci_) (na_))))) (gn_ T 2)) (
S_cons (S_if (tcmp_ (o_eq T.hu4) (call_ T Q__law_draw (by decide) (ca_ (v_ 0) (ca_ (ci_) (na_)))) (ci_)) (S_cons (asg_ (s_val (s_lst (na_))) (gn_ T 7)) (
S_nil)) (S_nil)) (
S_cons (par2_ T 8 9 (ca_ (s_val (biTF_ c_list Z.b_list (ca_ (v_ 7) (na_)))) (ca_ (call_ T Q__law_walk (by decide) (ca_ (v_ 1) (ca_ (v_ 7) (ca_ (v_ 2) (na_))))) (na_)))) (
S_cons (S_setLc (own := [("there", 10)]) T.hc T.nd (i := 3) rfl rfl rfl (i_iter (v_ 9)) (blkOk_by (by kernel_rfl)) (fun s H D cl fp B => gn_ T.blk 10) (fun s H D cl fp B => ts_nil) (fun s H D cl fp B => s_val (sortIt_ T.blk Z.b_sorted (v_ 10))) (fun _ => rfl) (by decide)) (
S_cons (asg_ (call_ T Q_rows_until (by decide) (ca_ (v_ 6) (ca_ (v_ 7) (ca_ (v_ 2) (na_))))) (gn_ T 4)) (
S_cons (S_if (tcmp_ o_neS (bi_ (c_reprV T.rg.g T.hu4) Z.b_repr (ca_ (s_val (s_lst (ca_ (v_ 4) (ca_ (s_seal (callK0_ (ks := ["number", "row", "rule"]) (pk := [2, 1, 0]) T Q_rows_until (by decide) (fun _ _ _ _ _ _ us ws h1 h2 => match us, ws, h1, h2 with | [], [_, _, _], _, _ => rfl) (s_pkcons (v_ 2) (s_pkcons (v_ 7) (s_pkcons (v_ 6) (s_pknil)))))) (na_))))) (na_))) (bi_ (c_reprV T.rg.g T.hu4) Z.b_repr (ca_ (s_val (s_lst (ca_ (v_ 3) (ca_ (v_ 3) (na_))))) (na_)))) (S_cons (S_ret (cb_)) (
S_nil)) (S_nil)) (
S_cons (drop_ (append_ (get_ T (v_ 4) (ci_)) (ca_ (s_tup (ca_ (ci_) (ca_ (ci_) (na_)))) (na_)))) (
S_cons (drop_ (mu0_ m_pop PySem.F.slot_list_pop PySem.F.type_list_pop (v_ 4))) (
S_cons (S_for (passes_of rfl) T.hc (i_iter (s_tup (ca_ (ci_) (ca_ (v_ 2) (ca_ (call_ T Q__law_draw (by decide) (ca_ (v_ 0) (ca_ (add_ (v_ 2) (ci_)) (na_)))) (na_)))))) (gn_ T 5) (S_cons (asg_ (get_ T (v_ 9) (v_ 5)) (gn_ T 10)) (
S_cons (asg_ (s_ite (PW.pt (andW_ (tcmp_ (o_neDE T.hu4) (v_ 10) (s_val (s_dnK))) (and1_ (tcmp_ (o_eq T.hu4) (call_ T Q__law_draw (by decide) (ca_ (v_ 0) (ca_ (ci_) (na_)))) (ci_))))) (bi_ (c_min T.hc) Z.b_min (ca_ (s_val (biTF_ (c_listK T.hc) Z.b_list (ca_ (v_ 10) (na_)))) (na_))) (sub_ (call_ T Q__law_draw (by decide) (ca_ (v_ 0) (ca_ (ci_) (na_)))) (ci_))) (gn_ T 11)) (
S_cons (asg_ (s_tup (ca_ (sub_ (v_ 11) (call_ T Q__law_draw (by decide) (ca_ (v_ 0) (ca_ (ci_) (na_))))) (ca_ (add_ (v_ 11) (call_ T Q__law_draw (by decide) (ca_ (v_ 0) (ca_ (ci_) (na_))))) (na_)))) (gn_ T 12)) (
S_cons (S_setLc (own := [("spot", 15)]) T.hc T.nd (i := 13) rfl rfl rfl (i_rngB rfl Z.b_range (ca_ (get_ T (v_ 12) (ci_)) (ca_ (add_ (get_ T (v_ 12) (ci_)) (ci_)) (na_))) rfl rfl) (blkOk_by (by kernel_rfl)) (fun s H D cl fp B => gn_ T.blk 15) (fun s H D cl fp B => ts_nil) (fun s H D cl fp B => get2_ T.blk (v_ 10) (v_ 15) (ci_)) (fun _ => rfl) (by decide)) (
S_cons (asg_ (s_box (s_lst (ca_ (call_ T Q_cells_between (by decide) (ca_ (v_ 6) (ca_ (v_ 7) (ca_ (v_ 5) (ca_ (get_ T (v_ 12) (ci_)) (ca_ (get_ T (v_ 12) (ci_)) (na_))))))) (na_)))) (gn_ T 14)) (
S_cons (drop_ (append_ (v_ 14) (ca_ (s_seal (callK0_ (ks := ["high", "low", "number", "row", "rule"]) (pk := [4, 3, 2, 1, 0]) T Q_cells_between (by decide) (fun _ _ _ _ _ _ us ws h1 h2 => match us, ws, h1, h2 with | [], [_, _, _, _, _], _, _ => rfl) (s_pkcons (get_ T (v_ 12) (ci_)) (s_pkcons (get_ T (v_ 12) (ci_)) (s_pkcons (v_ 5) (s_pkcons (v_ 7) (s_pkcons (v_ 6) (s_pknil)))))))) (na_)))) (
S_cons (S_if (tcmp_ o_neS (bi_ (c_reprV T.rg.g T.hu4) Z.b_repr (ca_ (v_ 14) (na_))) (bi_ (c_reprV T.rg.g T.hu4) Z.b_repr (ca_ (s_val (s_lst (ca_ (v_ 13) (ca_ (v_ 13) (na_))))) (na_)))) (S_cons (S_ret (cb_)) (
S_nil)) (S_nil)) (
S_cons (drop_ (mu0_ m_clear PySem.F.slot_list_clear PySem.F.type_list_clear (get_ T (v_ 14) (ci_)))) (
S_cons (asg_ (add_ (get_ T (v_ 12) (ci_)) (call_ T Q__law_draw (by decide) (ca_ (v_ 0) (ca_ (bi_ c_len Z.b_len (ca_ (v_ 13) (na_))) (na_))))) (gn_ T 15)) (
S_cons (asg_ (s_box (s_lst (ca_ (call_ T Q_cell_at (by decide) (ca_ (v_ 6) (ca_ (v_ 7) (ca_ (v_ 5) (ca_ (v_ 15) (na_)))))) (ca_ (callK0_ (ks := ["place", "number", "row", "rule"]) (pk := [3, 2, 1, 0]) T Q_cell_at (by decide) (fun _ _ _ _ _ _ us ws h1 h2 => match us, ws, h1, h2 with | [], [_, _, _, _], _, _ => rfl) (s_pkcons (v_ 15) (s_pkcons (v_ 5) (s_pkcons (v_ 7) (s_pkcons (v_ 6) (s_pknil)))))) (na_))))) (gn_ T 4)) (
S_cons (S_if (tcmp_ o_neS (bi_ (c_reprV T.rg.g T.hu4) Z.b_repr (ca_ (v_ 4) (na_))) (bi_ (c_reprV T.rg.g T.hu4) Z.b_repr (ca_ (s_val (s_rep (s_val (s_lst (ca_ (get2_ T (v_ 10) (v_ 15) (ci_)) (na_)))) (ci_))) (na_)))) (S_cons (S_ret (cb_)) (
S_nil)) (S_nil)) (
S_nil)))))))))))) (fun _ => rfl)) (
S_cons (S_ret (s_andV (cmp_ (o_eq T.hu4) (v_ 7) (v_ 8)) (s_one (cmp_ o_eqS (bi_ (c_reprV T.rg.g T.hu4) Z.b_repr (ca_ (s_seal (call_ T Q_rows_until (by decide) (ca_ (v_ 6) (ca_ (v_ 7) (ca_ (v_ 2) (na_)))))) (na_))) (bi_ (c_reprV T.rg.g T.hu4) Z.b_repr (ca_ (v_ 3) (na_))))))) (
S_nil))))))))))))
def N_law : List Str := ["script", "spot", "pool", "turn"]
def P_law : List Str := ["script"]
abbrev st_law : Stmt := (top 38)
theorem sc_law : FnScope N_law P_law (defScope st_law) := ⟨rfl, rfl, rfl, by decide +kernel, rfl, by decide +kernel, by decide +kernel⟩
def b_law_1 (C : Addr) : WStm := wSeq (wIf (wNot (wTru (wCall (sp__law_right C) (wCons (wVar 2) (wNil))))) (wSeq (wRet (wC (.bl false))) (
wSkip)) (wSkip)) (
wSkip)
def b_law_2 (C : Addr) : WStm := wSeq (wAsg (wCall (sp__law_pool C) (wCons (wVar 0) (wCons (wVar 1) (wNil)))) (.nm 2)) (
wSeq (wFor (wRng1 (wCons (wC (.int 3)) (wNil))) (.nm 3) (b_law_1 C)) (
wSkip))
def w_law (C : Addr) : WStm := wSeq (wFor (wRng1 (wCons (wApp fMax (wCons (wC (.int 1)) (wCons (wApp fMin (wCons (wC (.int 5)) (wCons (wApp fLen (wCons (wVar 0) (wNil))) (wNil)))) (wNil)))) (wNil))) (.nm 1) (b_law_2 C)) (
wSeq (wRet (wC (.bl true))) (
wSkip))
theorem r_law (Z : Tab P K mg C) (Q__law_pool : FnG P w K mg base 1 "_law_pool" "_law_pool" st__law_pool P__law_pool ((sp__law_pool C))) (Q__law_right : FnG P w K mg base 115 "_law_right" "_law_right" st__law_right P__law_right ((sp__law_right C))) {f : Addr} {cdv : Value} {A : Around} {outer : List Env} {s : Shared} {H : Hp} {E : XK} (T : Sit (cxOf (L2.CX P w) P w K mg base N_law "law" (defScope st_law) f cdv A outer s H E) E 116) :
    ∀ B, PSs (cxOf (L2.CX P w) P w K mg base N_law "law" (defScope st_law) f cdv A outer s H E) (defBody st_law) (liftS K B E (w_law C)) := fun B => S_cons (S_for (passes_of rfl) T.hc (i_rng1 rfl Z.b_range (ca_ (bi_ (c_max T.hc) Z.b_max (ca_ (ci_) (ca_ (bi_ (c_min T.hc) Z.b_min (ca_ (ci_) (ca_ (bi_ c_len Z.b_len (ca_ (v_ 0) (na_))) (na_)))) (na_)))) (na_)) rfl) (gn_ T 1) (S_cons (asg_ (call_ T Q__law_pool (by decide) (ca_ (v_ 0) (ca_ (v_ 1) (na_)))) (gn_ T 2)) (
S_cons (S_for (passes_of rfl) T.hc (i_rng1 rfl Z.b_range (ca_ (ci_) (na_)) rfl) (gn_ T 3) (S_cons (S_if (t_not (tru_ (call_ T Q__law_right (by decide) (ca_ (v_ 2) (na_))))) (S_cons (S_ret (cb_)) (
S_nil)) (S_nil)) (
S_nil)) (fun _ => rfl)) (
S_nil))) (fun _ => rfl)) (
S_cons (S_ret (cb_)) (
S_nil))
end
end DL

set_option maxRecDepth 100000
set_option maxHeartbeats 4000000
set_option linter.all false
namespace DL
open PySem PySem.Spec PyProof.Rows L2
theorem kit_self (K : Fg) (C : Addr) : PySem.W.kitOne K (.ref C) (.ref C) = some true := by
  unfold PySem.W.kitOne
  rw [if_pos (by simp)]
theorem atI_nat {α : Type} {ds : List α} {i : Nat} {d : α} (h : ds[i]? = some d) : atI ds (i : Int) = some d := by
  have hl : i < ds.length := (List.getElem?_eq_some_iff.mp h).1
  unfold atI ixN
  rw [if_pos (by omega), if_pos (by omega)]
  simpa using h
theorem law__law_pool (C : Addr) : ∀ ds W Q PX, sp__law_pool C ds W Q PX → ds.length = P__law_pool.length ∧ w__law_pool C PX { nx := fun _ W' => Q .non W', rt := Q } (env0 N__law_pool ds) W := by
  rintro ds W Q PX ⟨is, i, rfl, hi, hl, h⟩
  refine ⟨rfl, ?_⟩
  have key : ∀ c : Int, ∀ a, W a = none → PoolOk (W.put a (.lst [.int (max 0 ((if c < 0 then -c else c) - 10 ^ 18)), .int (c % 2305843009213693951 + 7368787 * ((i : Int) + 1)), .int 0])) a 0 := fun c a ha => by
    refine ⟨⟨_, _, _, WS.put_same, ?_, ?_, ?_, ?_, ?_⟩⟩
    · omega
    · have := Int.emod_nonneg c (show (2305843009213693951 : Int) ≠ 0 by decide); omega
    · have := Int.emod_lt_of_pos c (show (0 : Int) < 2305843009213693951 by decide); omega
    · omega
    · simp
  have pk : PowOk 10 18 := ⟨by decide, 4, by decide, by decide⟩
  simp only [w__law_pool, N__law_pool, wRaise, wTry, wXVal, wXIs, wXIsV, wCallX, fMulS, wSeq, wLRg1, wLRg2, wRngB, mExtend, wSetIxN, wBoxN, fNotInN, fGetN, wForEn, wSealQ, wPopD, wRep, wAug, wAsg, wSkip, wIf, wRet, wRetN, wDrop, wB, wTru, wBin, wUn, wApp, wAppF, wVal, wBox, wVar, wC, wFrz, wCons, wNil, wLst, wTup, wPar2, wPar3, wSetIx, wSetFld, wMu, wAnd, wOr, wNot, wAndV, wOrV, wNotV, wIte, wChain, wGet2, wFld, wProp, wMeth, wMethK, wCall, wCallK, wMakeK, wSeal, wOwn, wDisp, wPs, wDnK, wSortIt, wRev, wSlc, wONo, wOYes, wFor, wForLk, wIter, wRng1, wRng2, wEnum, wLc, wLcLk, wDc, wDcLk, wSetV, wSetB, wNo, wNoE, wYes, fAdd, fSub, fMul, fDiv, fMod, fPow, fLt, fLe, fGt, fGe, fNeg, fIsN, fNotN, isN, fInt, fAbs, fGet, fIx, bindG, Ob.toD, env0, List.map_cons, List.map_nil, List.cons_append, List.nil_append, List.append_nil, List.length_cons, List.length_nil, List.replicate_succ, List.replicate_zero, List.replicate, List.getElem?_cons_zero, List.getElem?_cons_succ, List.set_cons_zero, List.set_cons_succ, Option.some.injEq, exists_eq_left', exists_eq_left, D.int.injEq, D.bl.injEq, D.obj.injEq, keyD, keysD, fSet, mAppend, mInsert, mPop, mReverse, mClear, WS.put_same, dkD, lookD, truD, seqD, wipeD, List.set_nil, fLen, fMax, view]
  have cm : CMulW 7368787 ((i : Int) + 1) := by
    refine wide_mul (a := 30) (b := 30) ?_ ?_ (by omega) (by omega) (by omega)
    · decide
    · show ((i : Int) + 1).natAbs < 2 ^ 30; omega
  have fin : ∀ c : Int, ∀ a, W a = none → Q (.obj a) (W.put a (.lst [.int (max 0 ((if c < 0 then -c else c) - 10 ^ 18)), .int (c % 2305843009213693951 + 7368787 * ((i : Int) + 1)), .int 0])) := fun c a ha => h a _ ha (key c a ha)
  have mx : ∀ x : Int, (if x > 0 then x else 0) = max 0 x := fun x => by split <;> omega
  by_cases hc : i < is.length
  · have hd : decide ((i : Int) < ((is.map D.int).length : Nat)) = true := by rw [List.length_map]; exact decide_eq_true (by omega)
    rw [hd]
    refine ⟨.int is[i], atI_nat (by rw [List.getElem?_map, List.getElem?_eq_getElem hc]; rfl), ?_⟩
    simp only [wRaise, wTry, wXVal, wXIs, wXIsV, wCallX, fMulS, wSeq, wLRg1, wLRg2, wRngB, mExtend, wSetIxN, wBoxN, fNotInN, fGetN, wForEn, wSealQ, wPopD, wRep, wAug, wAsg, wSkip, wIf, wRet, wRetN, wDrop, wB, wTru, wBin, wUn, wApp, wAppF, wVal, wBox, wVar, wC, wFrz, wCons, wNil, wLst, wTup, wPar2, wPar3, wSetIx, wSetFld, wMu, wAnd, wOr, wNot, wAndV, wOrV, wNotV, wIte, wChain, wGet2, wFld, wProp, wMeth, wMethK, wCall, wCallK, wMakeK, wSeal, wOwn, wDisp, wPs, wDnK, wSortIt, wRev, wSlc, wONo, wOYes, wFor, wForLk, wIter, wRng1, wRng2, wEnum, wLc, wLcLk, wDc, wDcLk, wSetV, wSetB, wNo, wNoE, wYes, fAdd, fSub, fMul, fDiv, fMod, fPow, fLt, fLe, fGt, fGe, fNeg, fIsN, fNotN, isN, fInt, fAbs, fGet, fIx, bindG, Ob.toD, env0, List.map_cons, List.map_nil, List.cons_append, List.nil_append, List.append_nil, List.length_cons, List.length_nil, List.replicate_succ, List.replicate_zero, List.replicate, List.getElem?_cons_zero, List.getElem?_cons_succ, List.set_cons_zero, List.set_cons_succ, Option.some.injEq, exists_eq_left', exists_eq_left, D.int.injEq, D.bl.injEq, D.obj.injEq, keyD, keysD, fSet, mAppend, mInsert, mPop, mReverse, mClear, WS.put_same, dkD, lookD, truD, seqD, wipeD, List.set_nil, fLen, fMax, view]
    refine ⟨pk, by decide, cm, by decide, fun a ha => ?_⟩
    rw [mx]
    exact fin _ a ha
  · have hd : decide ((i : Int) < ((is.map D.int).length : Nat)) = false := by rw [List.length_map]; exact decide_eq_false (by omega)
    rw [hd]
    simp only [wRaise, wTry, wXVal, wXIs, wXIsV, wCallX, fMulS, wSeq, wLRg1, wLRg2, wRngB, mExtend, wSetIxN, wBoxN, fNotInN, fGetN, wForEn, wSealQ, wPopD, wRep, wAug, wAsg, wSkip, wIf, wRet, wRetN, wDrop, wB, wTru, wBin, wUn, wApp, wAppF, wVal, wBox, wVar, wC, wFrz, wCons, wNil, wLst, wTup, wPar2, wPar3, wSetIx, wSetFld, wMu, wAnd, wOr, wNot, wAndV, wOrV, wNotV, wIte, wChain, wGet2, wFld, wProp, wMeth, wMethK, wCall, wCallK, wMakeK, wSeal, wOwn, wDisp, wPs, wDnK, wSortIt, wRev, wSlc, wONo, wOYes, wFor, wForLk, wIter, wRng1, wRng2, wEnum, wLc, wLcLk, wDc, wDcLk, wSetV, wSetB, wNo, wNoE, wYes, fAdd, fSub, fMul, fDiv, fMod, fPow, fLt, fLe, fGt, fGe, fNeg, fIsN, fNotN, isN, fInt, fAbs, fGet, fIx, bindG, Ob.toD, env0, List.map_cons, List.map_nil, List.cons_append, List.nil_append, List.append_nil, List.length_cons, List.length_nil, List.replicate_succ, List.replicate_zero, List.replicate, List.getElem?_cons_zero, List.getElem?_cons_succ, List.set_cons_zero, List.set_cons_succ, Option.some.injEq, exists_eq_left', exists_eq_left, D.int.injEq, D.bl.injEq, D.obj.injEq, keyD, keysD, fSet, mAppend, mInsert, mPop, mReverse, mClear, WS.put_same, dkD, lookD, truD, seqD, wipeD, List.set_nil, fLen, fMax, view]
    refine ⟨pk, by decide, cm, by decide, fun a ha => ?_⟩
    rw [mx]
    exact fin 0 a ha
theorem pool_pow {p1 p2 : Int} {n : Nat} (h0 : 0 ≤ p1) (h1 : p1 < 2 ^ 64) (h2 : 0 ≤ p2) (h3 : p2 ≤ n) (hn : n ≤ 1000001) (c : Int) (hc : 0 ≤ c) (hc2 : c < 2 ^ 30) : PowOk (p1 + c * p2) 3 ∧ CMulW c p2 := by
  have a1 : c * p2 ≤ 2 ^ 30 * 1000001 := Int.mul_le_mul (by omega) (by omega) h2 (by omega)
  have a2 : 0 ≤ c * p2 := Int.mul_nonneg hc h2
  refine ⟨⟨by decide, 100, by omega, by decide⟩, ?_⟩
  refine wide_mul (a := 40) (b := 40) ?_ ?_ (by omega) (by omega) (by omega) <;> omega
theorem law__law_draw (C : Addr) : ∀ ds W Q PX, sp__law_draw C ds W Q PX → ds.length = P__law_draw.length ∧ w__law_draw C PX { nx := fun _ W' => Q .non W', rt := Q } (env0 N__law_draw ds) W := by
  rintro ds W Q PX ⟨a, m, n, rfl, hm, hm2, hn, ⟨p0, p1, p2, hw, h0, h1, h2, h3, h4⟩, h⟩
  refine ⟨rfl, ?_⟩
  have a0 : ∀ x y z : D, atI [x, y, z] 0 = some x := fun _ _ _ => rfl
  have a1 : ∀ x y z : D, atI [x, y, z] 1 = some y := fun _ _ _ => rfl
  have a2 : ∀ x y z : D, atI [x, y, z] 2 = some z := fun _ _ _ => rfl
  have i0 : ixN (0 + 1 + 1 + 1) 0 = some 0 := rfl
  have i2 : ixN (0 + 1 + 1 + 1) 2 = some 2 := rfl
  simp only [w__law_draw, N__law_draw, wRaise, wTry, wXVal, wXIs, wXIsV, wCallX, fMulS, wSeq, wLRg1, wLRg2, wRngB, mExtend, wSetIxN, wBoxN, fNotInN, fGetN, wForEn, wSealQ, wPopD, wRep, wAug, wAsg, wSkip, wIf, wRet, wRetN, wDrop, wB, wTru, wBin, wUn, wApp, wAppF, wVal, wBox, wVar, wC, wFrz, wCons, wNil, wLst, wTup, wPar2, wPar3, wSetIx, wSetFld, wMu, wAnd, wOr, wNot, wAndV, wOrV, wNotV, wIte, wChain, wGet2, wFld, wProp, wMeth, wMethK, wCall, wCallK, wMakeK, wSeal, wOwn, wDisp, wPs, wDnK, wSortIt, wRev, wSlc, wONo, wOYes, wFor, wForLk, wIter, wRng1, wRng2, wEnum, wLc, wLcLk, wDc, wDcLk, wSetV, wSetB, wNo, wNoE, wYes, fAdd, fSub, fMul, fDiv, fMod, fPow, fLt, fLe, fGt, fGe, fNeg, fIsN, fNotN, isN, fInt, fAbs, fGet, fIx, bindG, Ob.toD, env0, List.map_cons, List.map_nil, List.cons_append, List.nil_append, List.append_nil, List.length_cons, List.length_nil, List.replicate_succ, List.replicate_zero, List.replicate, List.getElem?_cons_zero, List.getElem?_cons_succ, List.set_cons_zero, List.set_cons_succ, Option.some.injEq, exists_eq_left', exists_eq_left, D.int.injEq, D.bl.injEq, D.obj.injEq, keyD, keysD, fSet, mAppend, mInsert, mPop, mReverse, mClear, WS.put_same, dkD, lookD, truD, seqD, wipeD, List.set_nil, view, hw, a0, a1, a2]
  by_cases hp : 0 < p0
  · rw [decide_eq_true hp]
    simp only [wRaise, wTry, wXVal, wXIs, wXIsV, wCallX, fMulS, wSeq, wLRg1, wLRg2, wRngB, mExtend, wSetIxN, wBoxN, fNotInN, fGetN, wForEn, wSealQ, wPopD, wRep, wAug, wAsg, wSkip, wIf, wRet, wRetN, wDrop, wB, wTru, wBin, wUn, wApp, wAppF, wVal, wBox, wVar, wC, wFrz, wCons, wNil, wLst, wTup, wPar2, wPar3, wSetIx, wSetFld, wMu, wAnd, wOr, wNot, wAndV, wOrV, wNotV, wIte, wChain, wGet2, wFld, wProp, wMeth, wMethK, wCall, wCallK, wMakeK, wSeal, wOwn, wDisp, wPs, wDnK, wSortIt, wRev, wSlc, wONo, wOYes, wFor, wForLk, wIter, wRng1, wRng2, wEnum, wLc, wLcLk, wDc, wDcLk, wSetV, wSetB, wNo, wNoE, wYes, fAdd, fSub, fMul, fDiv, fMod, fPow, fLt, fLe, fGt, fGe, fNeg, fIsN, fNotN, isN, fInt, fAbs, fGet, fIx, bindG, Ob.toD, env0, List.map_cons, List.map_nil, List.cons_append, List.nil_append, List.append_nil, List.length_cons, List.length_nil, List.replicate_succ, List.replicate_zero, List.replicate, List.getElem?_cons_zero, List.getElem?_cons_succ, List.set_cons_zero, List.set_cons_succ, Option.some.injEq, exists_eq_left', exists_eq_left, D.int.injEq, D.bl.injEq, D.obj.injEq, keyD, keysD, fSet, mAppend, mInsert, mPop, mReverse, mClear, WS.put_same, dkD, lookD, truD, seqD, wipeD, List.set_nil, view, hw, a0, a1, a2, i0]
    refine ⟨hm, wide_div hm (b := 150) (by omega) (by omega) (by omega), a, _, rfl, hw, ?_⟩
    simp only [wRaise, wTry, wXVal, wXIs, wXIsV, wCallX, fMulS, wSeq, wLRg1, wLRg2, wRngB, mExtend, wSetIxN, wBoxN, fNotInN, fGetN, wForEn, wSealQ, wPopD, wRep, wAug, wAsg, wSkip, wIf, wRet, wRetN, wDrop, wB, wTru, wBin, wUn, wApp, wAppF, wVal, wBox, wVar, wC, wFrz, wCons, wNil, wLst, wTup, wPar2, wPar3, wSetIx, wSetFld, wMu, wAnd, wOr, wNot, wAndV, wOrV, wNotV, wIte, wChain, wGet2, wFld, wProp, wMeth, wMethK, wCall, wCallK, wMakeK, wSeal, wOwn, wDisp, wPs, wDnK, wSortIt, wRev, wSlc, wONo, wOYes, wFor, wForLk, wIter, wRng1, wRng2, wEnum, wLc, wLcLk, wDc, wDcLk, wSetV, wSetB, wNo, wNoE, wYes, fAdd, fSub, fMul, fDiv, fMod, fPow, fLt, fLe, fGt, fGe, fNeg, fIsN, fNotN, isN, fInt, fAbs, fGet, fIx, bindG, Ob.toD, env0, List.map_cons, List.map_nil, List.cons_append, List.nil_append, List.append_nil, List.length_cons, List.length_nil, List.replicate_succ, List.replicate_zero, List.replicate, List.getElem?_cons_zero, List.getElem?_cons_succ, List.set_cons_zero, List.set_cons_succ, Option.some.injEq, exists_eq_left', exists_eq_left, D.int.injEq, D.bl.injEq, D.obj.injEq, keyD, keysD, fSet, mAppend, mInsert, mPop, mReverse, mClear, WS.put_same, dkD, lookD, truD, seqD, wipeD, List.set_nil, i0]
    refine h _ _ (Int.emod_nonneg _ (by omega)) (Int.emod_lt_of_pos _ hm) ⟨⟨_, _, _, WS.put_same, Int.ediv_nonneg h0 (by omega), h1, h2, h3, by omega⟩⟩
  · rw [decide_eq_false hp]
    simp only [wRaise, wTry, wXVal, wXIs, wXIsV, wCallX, fMulS, wSeq, wLRg1, wLRg2, wRngB, mExtend, wSetIxN, wBoxN, fNotInN, fGetN, wForEn, wSealQ, wPopD, wRep, wAug, wAsg, wSkip, wIf, wRet, wRetN, wDrop, wB, wTru, wBin, wUn, wApp, wAppF, wVal, wBox, wVar, wC, wFrz, wCons, wNil, wLst, wTup, wPar2, wPar3, wSetIx, wSetFld, wMu, wAnd, wOr, wNot, wAndV, wOrV, wNotV, wIte, wChain, wGet2, wFld, wProp, wMeth, wMethK, wCall, wCallK, wMakeK, wSeal, wOwn, wDisp, wPs, wDnK, wSortIt, wRev, wSlc, wONo, wOYes, wFor, wForLk, wIter, wRng1, wRng2, wEnum, wLc, wLcLk, wDc, wDcLk, wSetV, wSetB, wNo, wNoE, wYes, fAdd, fSub, fMul, fDiv, fMod, fPow, fLt, fLe, fGt, fGe, fNeg, fIsN, fNotN, isN, fInt, fAbs, fGet, fIx, bindG, Ob.toD, env0, List.map_cons, List.map_nil, List.cons_append, List.nil_append, List.append_nil, List.length_cons, List.length_nil, List.replicate_succ, List.replicate_zero, List.replicate, List.getElem?_cons_zero, List.getElem?_cons_succ, List.set_cons_zero, List.set_cons_succ, Option.some.injEq, exists_eq_left', exists_eq_left, D.int.injEq, D.bl.injEq, D.obj.injEq, keyD, keysD, fSet, mAppend, mInsert, mPop, mReverse, mClear, WS.put_same, dkD, lookD, truD, seqD, wipeD, List.set_nil, view, hw, a0, a1, a2, i2]
    refine ⟨a, _, rfl, hw, ?_⟩
    simp only [wRaise, wTry, wXVal, wXIs, wXIsV, wCallX, fMulS, wSeq, wLRg1, wLRg2, wRngB, mExtend, wSetIxN, wBoxN, fNotInN, fGetN, wForEn, wSealQ, wPopD, wRep, wAug, wAsg, wSkip, wIf, wRet, wRetN, wDrop, wB, wTru, wBin, wUn, wApp, wAppF, wVal, wBox, wVar, wC, wFrz, wCons, wNil, wLst, wTup, wPar2, wPar3, wSetIx, wSetFld, wMu, wAnd, wOr, wNot, wAndV, wOrV, wNotV, wIte, wChain, wGet2, wFld, wProp, wMeth, wMethK, wCall, wCallK, wMakeK, wSeal, wOwn, wDisp, wPs, wDnK, wSortIt, wRev, wSlc, wONo, wOYes, wFor, wForLk, wIter, wRng1, wRng2, wEnum, wLc, wLcLk, wDc, wDcLk, wSetV, wSetB, wNo, wNoE, wYes, fAdd, fSub, fMul, fDiv, fMod, fPow, fLt, fLe, fGt, fGe, fNeg, fIsN, fNotN, isN, fInt, fAbs, fGet, fIx, bindG, Ob.toD, env0, List.map_cons, List.map_nil, List.cons_append, List.nil_append, List.append_nil, List.length_cons, List.length_nil, List.replicate_succ, List.replicate_zero, List.replicate, List.getElem?_cons_zero, List.getElem?_cons_succ, List.set_cons_zero, List.set_cons_succ, Option.some.injEq, exists_eq_left', exists_eq_left, D.int.injEq, D.bl.injEq, D.obj.injEq, keyD, keysD, fSet, mAppend, mInsert, mPop, mReverse, mClear, WS.put_same, dkD, lookD, truD, seqD, wipeD, List.set_nil, view, hw, a0, a1, a2, i2]
    obtain ⟨q1, q2⟩ := pool_pow h1 h2 (p2 := p2 + 1) (n := n + 1) (by omega) (by omega) (by omega) 15485863 (by decide) (by decide)
    have r0 := Int.emod_nonneg ((p1 + 15485863 * (p2 + 1)) ^ Int.toNat 3) (show (162259276829213363391578010288127 : Int) ≠ 0 by decide)
    have r1 := Int.emod_lt_of_pos ((p1 + 15485863 * (p2 + 1)) ^ Int.toNat 3) (show (0 : Int) < 162259276829213363391578010288127 by decide)
    have r2 : 32452843 * (p2 + 1) ≤ 2 ^ 30 * 1000001 := Int.mul_le_mul (by omega) (by omega) (by omega) (by omega)
    have r3 : 0 ≤ 32452843 * (p2 + 1) := Int.mul_nonneg (by decide) (by omega)
    refine ⟨q2, q1, by decide, ?_, ⟨by decide, 120, by omega, by decide⟩, by decide, wide_div (by decide) (b := 30) (by decide) (by decide) (by decide), hm, ?_⟩
    · refine wide_mul (a := 40) (b := 40) ?_ ?_ (by omega) (by omega) (by omega) <;> omega
    · exact h _ _ (Int.emod_nonneg _ (by omega)) (Int.emod_lt_of_pos _ hm) ⟨⟨_, _, _, WS.put_same, h0, h1, h2, by omega, by omega⟩⟩
theorem PoolOk.keep {W W' : WS} {a : Addr} {n : Nat} (h : PoolOk W a n) (e : W' a = W a) : PoolOk W' a n := by
  obtain ⟨p0, p1, p2, hw, r⟩ := h.ex
  exact ⟨p0, p1, p2, by rw [e]; exact hw, r⟩
theorem PoolOk.more {W : WS} {a : Addr} {n m : Nat} (h : PoolOk W a n) (l : n ≤ m) : PoolOk W a m := by
  obtain ⟨p0, p1, p2, hw, h0, h1, h2, h3, h4⟩ := h.ex
  exact ⟨p0, p1, p2, hw, h0, h1, h2, h3, by omega⟩
theorem ExB.refl {S : List Addr} {W : WS} : ExB S W W := fun _ _ _ h => h
theorem ExB.trans {S : List Addr} {W W1 W2 : WS} (h : ExB S W W1) (g : ExB S W1 W2) : ExB S W W2 := fun b ob hb e => g b ob hb (h b ob hb e)
theorem ExB.put {S : List Addr} {W : WS} {a : Addr} {ob : Ob} (h : a ∈ S ∨ W a = none) : ExB S W (W.put a ob) := fun b o hb e => by
  rw [WS.put_ne (fun c => by subst c; rcases h with h | h; exact hb h; rw [e] at h; cases h)]
  exact e
theorem ExB.mono {S S' : List Addr} {W W' : WS} (h : ExB S W W') (i : ∀ b ∈ S, b ∈ S') : ExB S' W W' := fun b ob hb e => h b ob (fun z => hb (i b z)) e
/-- a draw, from what is wanted behind it -/
theorem draw_ok {C : Addr} {W : WS} {a : Addr} {m : Int} {n : Nat} {Q : D → WS → Prop} {PX : XP} (hp : PoolOk W a n) (hm : 0 < m) (hm2 : m < 2 ^ 150) (hn : n ≤ 1000000)
    (h : ∀ (r : Int) W', 0 ≤ r → r < m → ExB [a] W W' → (∀ b, b ≠ a → W' b = W b) → PoolOk W' a (n + 1) → Q (.int r) W') : sp__law_draw C [.obj a, .int m] W Q PX :=
  ⟨a, m, n, rfl, hm, hm2, hn, hp, fun r l h1 h2 h3 => h r _ h1 h2 (ExB.put (.inl List.mem_cons_self)) (fun b hb => WS.put_ne hb) h3⟩
end DL

set_option maxRecDepth 100000
set_option maxHeartbeats 4000000
set_option linter.all false
namespace DL
open PySem PySem.Spec PyProof.Rows L2
theorem rngD_succ (lo : Int) (n : Nat) : rngD lo (n + 1) = .int lo :: rngD (lo + 1) n := by
  unfold rngD
  rw [List.range_succ_eq_map, List.map_cons, List.map_map]
  refine congr (congrArg List.cons (by simp)) (List.map_congr_left fun i _ => ?_)
  show D.int (lo + ((i + 1 : Nat) : Int)) = D.int (lo + 1 + (i : Int))
  congr 1
  omega
theorem rngD_zero (lo : Int) : rngD lo 0 = [] := rfl
theorem eqK_int {neg : Bool} {i j : Int} {W : WS} {P : D → Prop} (h : P (.bl (if neg then !decide (i = j) else decide (i = j)))) : fEqK neg (.int i) (.int j) W P := by
  have e : PyData.eqv (.int i) (.int j) = decide (i = j) := by
    show (i == j) = decide (i = j)
    by_cases h : i = j
    · subst h; simp
    · simp [h]
  refine ⟨rfl, rfl, rfl, rfl, ?_⟩
  show P (.bl (if neg then !PyData.eqv (.int i) (.int j) else PyData.eqv (.int i) (.int j)))
  rw [e]; exact h
theorem inK_tup {neg : Bool} {i : Int} {ns : List Int} {W : WS} {P : D → Prop} (h : P (.bl (if neg then !(decide (i ∈ ns)) else decide (i ∈ ns)))) : fInK neg (.int i) (.tup (ns.map D.int)) W P := ⟨i, ns, rfl, rfl, h⟩
/-- terms that are being made: offsets from least on, below least + lo -/
structure Half (p least lo : Int) (ts : IP) : Prop where
  co : ∀ q ∈ ts, 1 ≤ q.1 ∧ q.1 < p
  bd : ∀ q ∈ ts, least ≤ q.2 ∧ q.2 < least + lo
  nd : (ts.map (·.2)).Nodup
  len : (ts.length : Int) ≤ lo
theorem Half.step {p least lo : Int} {ts : IP} (h : Half p least lo ts) : Half p least (lo + 1) ts := ⟨h.co, fun q hq => by have := h.bd q hq; omega, h.nd, by have := h.len; omega⟩
theorem mem_ins {α : Type} {k : Nat} {x q : α} {ts : List α} : q ∈ ts.take k ++ [x] ++ ts.drop k → q = x ∨ q ∈ ts := fun h => by
  rw [List.append_assoc, List.mem_append, List.mem_append, List.mem_singleton] at h
  rcases h with h | h | h
  · exact .inr (List.mem_of_mem_take h)
  · exact .inl h
  · exact .inr (List.mem_of_mem_drop h)
theorem Half.ins {p least lo c : Int} {ts : IP} (h : Half p least lo ts) (h1 : 1 ≤ c) (h2 : c < p) (h0 : 0 ≤ lo) (k : Nat) : Half p least (lo + 1) (ts.take k ++ [(c, least + lo)] ++ ts.drop k) := by
  refine ⟨fun q hq => ?_, fun q hq => ?_, ?_, ?_⟩
  · rcases mem_ins hq with rfl | hq
    · exact ⟨h1, h2⟩
    · exact h.co q hq
  · rcases mem_ins hq with rfl | hq
    · exact ⟨by omega, by omega⟩
    · have := h.bd q hq; omega
  · have hp : (ts.take k ++ [(c, least + lo)] ++ ts.drop k).Perm ((c, least + lo) :: ts) := by
      rw [List.append_assoc]
      refine (List.perm_append_comm).trans ?_
      show (([(c, least + lo)] ++ ts.drop k) ++ ts.take k).Perm _
      rw [List.append_assoc]
      show ((c, least + lo) :: (ts.drop k ++ ts.take k)).Perm _
      refine .cons _ ?_
      refine List.perm_append_comm.trans ?_
      rw [List.take_append_drop]
    rw [(hp.map (·.2)).nodup_iff, List.map_cons, List.nodup_cons]
    refine ⟨fun c => ?_, h.nd⟩
    obtain ⟨q, hq, e⟩ := List.mem_map.mp c
    have := h.bd q hq
    have e' : q.2 = least + lo := e
    omega
  · have := h.len
    rw [List.length_append, List.length_append, List.length_take, List.length_drop, List.length_singleton]
    omega
theorem ins_map {k : Nat} {x : Int × Int} {ts : IP} : (ts.map prD).take k ++ [prD x] ++ (ts.map prD).drop k = (ts.take k ++ [x] ++ ts.drop k).map prD := by
  rw [List.map_append, List.map_append, List.map_take, List.map_drop, List.map_singleton]
theorem sz_small {n : Nat} (h : n ≤ 10000000) : n < sizeLine := by rw [sizeLine_eq]; omega
theorem kind_loop {C a b : Addr} {p wide least : Int} {PX : XP} {P : WEnds} (hp : 2 ≤ p) (hp5 : p ≤ 5) (hab : a ≠ b) : ∀ (nn : Nat) (lo : Int) (ts : IP) (x5 x6 : Option D) (W : WS) (m : Nat), lo + nn = wide + 1 → 0 ≤ lo → lo ≤ 7 → wide ≤ 6 → Half p least lo ts → (lo = 0 ∨ ts ≠ []) →
    W b = some (.lst (ts.map prD)) → PoolOk W a m → m + 3 * nn ≤ 999000 →
    (∀ ts' W' x5 x6, Half p least (wide + 1) ts' → ts' ≠ [] → W' b = some (.lst (ts'.map prD)) → ExB [a, b] W W' → PoolOk W' a (m + 3 * nn) → P.nx [some (.obj a), some (.int p), some (.int wide), some (.int least), some (.obj b), x5, x6] W') → 0 ≤ wide →
    forW (.nm 5) (b__law_kind_1 C) PX P (rngD lo nn) [some (.obj a), some (.int p), some (.int wide), some (.int least), some (.obj b), x5, x6] W
  | 0, lo, ts, x5, x6, W, m, e, h0, h7, hw, H, hne, hb, hpool, hm, k, hw0 => by
    have e' : lo = wide + 1 := by omega
    subst e'
    exact k ts W x5 x6 H (hne.resolve_left (by omega)) hb ExB.refl (hpool.more (by omega))
  | nn + 1, lo, ts, x5, x6, W, m, e, h0, h7, hw, H, hne, hb, hpool, hm, k, hw0 => by
    have hn7 : ts.length ≤ 7 := by have := H.len; omega
    rw [rngD_succ]
    have ih := kind_loop (C := C) (b := b) (wide := wide) (least := least) (PX := PX) (P := P) hp hp5 hab nn (lo + 1)
    show bindG _ _ _ _
    generalize hK : forW (.nm 5) (b__law_kind_1 C) PX P (rngD (lo + 1) nn) = Kf
    simp only [hK] at ih
    simp only [b__law_kind_1, wRaise, wTry, wXVal, wXIs, wXIsV, wCallX, fMulS, wSeq, wLRg1, wLRg2, wRngB, mExtend, wSetIxN, wBoxN, fNotInN, fGetN, wForEn, wSealQ, wPopD, wRep, wAug, wAsg, wSkip, wIf, wRet, wRetN, wDrop, wB, wTru, wBin, wUn, wApp, wAppF, wVal, wBox, wVar, wC, wFrz, wCons, wNil, wLst, wTup, wPar2, wPar3, wSetIx, wSetFld, wMu, wAnd, wOr, wNot, wAndV, wOrV, wNotV, wIte, wChain, wGet2, wFld, wProp, wMeth, wMethK, wCall, wCallK, wMakeK, wSeal, wOwn, wDisp, wPs, wDnK, wSortIt, wRev, wSlc, wONo, wOYes, wFor, wForLk, wIter, wRng1, wRng2, wEnum, wLc, wLcLk, wDc, wDcLk, wSetV, wSetB, wNo, wNoE, wYes, fAdd, fSub, fMul, fDiv, fMod, fPow, fLt, fLe, fGt, fGe, fNeg, fIsN, fNotN, isN, fInt, fAbs, fGet, fIx, bindG, Ob.toD, env0, List.map_cons, List.map_nil, List.cons_append, List.nil_append, List.append_nil, List.length_cons, List.length_nil, List.replicate_succ, List.replicate_zero, List.replicate, List.getElem?_cons_zero, List.getElem?_cons_succ, List.set_cons_zero, List.set_cons_succ, Option.some.injEq, exists_eq_left', exists_eq_left, D.int.injEq, D.bl.injEq, D.obj.injEq, keyD, keysD, fSet, mAppend, mInsert, mPop, mReverse, mClear, WS.put_same, dkD, lookD, truD, seqD, wipeD, List.set_nil]
    refine ⟨by decide, inK_tup (ns := [0, wide]) ⟨_, rfl, ?_⟩⟩
    have ins : ∀ (W1 W2 W3 : WS) (m1 : Nat) (r r' : Int), m1 ≤ m + 1 → ExB [a, b] W W1 → W1 b = some (.lst (ts.map prD)) → 0 ≤ r → r < ts.length + 1 → 0 ≤ r' → r' < p - 1 → ExB [a] W1 W2 → ExB [a] W2 W3 → (∀ c, c ≠ a → W2 c = W1 c) → (∀ c, c ≠ a → W3 c = W2 c) → PoolOk W3 a (m1 + 1 + 1) →
        (∃ xs, W2 b = some (.lst xs)) ∧ W3 b = some (.lst (ts.map prD)) ∧ (ts.map prD).length < sizeLine ∧ r < 2 ^ 63 ∧ Kf [some (.obj a), some (.int p), some (.int wide), some (.int least), some (.obj b), some (.int lo), some (.int r)] (W3.put b (.lst ((ts.map prD).take r.toNat ++ [.tup [.int (1 + r'), .int (least + lo)]] ++ (ts.map prD).drop r.toNat))) := fun W1 W2 W3 m1 r r' hm1 x1 hb1 r0 r1 r0' r1' e2 e3 k2 k3 p3 => by
      have hb2 : W2 b = some (.lst (ts.map prD)) := by rw [k2 b (Ne.symm hab)]; exact hb1
      have hb3 : W3 b = some (.lst (ts.map prD)) := by rw [k3 b (Ne.symm hab)]; exact hb2
      refine ⟨⟨_, hb2⟩, hb3, sz_small (by rw [List.length_map]; omega), by omega, ?_⟩
      have x4 : ExB [a, b] W (W3.put b (.lst ((ts.map prD).take r.toNat ++ [prD (1 + r', least + lo)] ++ (ts.map prD).drop r.toNat))) :=
        ((x1.trans (e2.mono (by simp))).trans (e3.mono (by simp))).trans (ExB.put (.inl (by simp)))
      refine ih _ _ _ _ (m1 + 2) (by omega) (by omega) (by omega) hw (H.ins (c := 1 + r') (by omega) (by omega) h0 r.toNat) (.inr (by simp)) ?_ (PoolOk.keep (p3.more (by omega)) (WS.put_ne hab)) (by omega) (fun ts' W' x5 x6 q1 q2 q3 q4 q5 => k ts' W' x5 x6 q1 q2 q3 (x4.trans q4) (q5.more (by omega))) hw0
      rw [WS.put_same, ← ins_map]
    by_cases hin : lo ∈ [0, wide]
    · rw [if_neg Bool.false_ne_true, decide_eq_true hin]
      simp only [fLen, view, hb, wRaise, wTry, wXVal, wXIs, wXIsV, wCallX, fMulS, wSeq, wLRg1, wLRg2, wRngB, mExtend, wSetIxN, wBoxN, fNotInN, fGetN, wForEn, wSealQ, wPopD, wRep, wAug, wAsg, wSkip, wIf, wRet, wRetN, wDrop, wB, wTru, wBin, wUn, wApp, wAppF, wVal, wBox, wVar, wC, wFrz, wCons, wNil, wLst, wTup, wPar2, wPar3, wSetIx, wSetFld, wMu, wAnd, wOr, wNot, wAndV, wOrV, wNotV, wIte, wChain, wGet2, wFld, wProp, wMeth, wMethK, wCall, wCallK, wMakeK, wSeal, wOwn, wDisp, wPs, wDnK, wSortIt, wRev, wSlc, wONo, wOYes, wFor, wForLk, wIter, wRng1, wRng2, wEnum, wLc, wLcLk, wDc, wDcLk, wSetV, wSetB, wNo, wNoE, wYes, fAdd, fSub, fMul, fDiv, fMod, fPow, fLt, fLe, fGt, fGe, fNeg, fIsN, fNotN, isN, fInt, fAbs, fGet, fIx, bindG, Ob.toD, env0, List.map_cons, List.map_nil, List.cons_append, List.nil_append, List.append_nil, List.length_cons, List.length_nil, List.replicate_succ, List.replicate_zero, List.replicate, List.getElem?_cons_zero, List.getElem?_cons_succ, List.set_cons_zero, List.set_cons_succ, Option.some.injEq, exists_eq_left', exists_eq_left, D.int.injEq, D.bl.injEq, D.obj.injEq, keyD, keysD, fSet, mAppend, mInsert, mPop, mReverse, mClear, WS.put_same, dkD, lookD, truD, seqD, wipeD, List.set_nil]
      refine draw_ok hpool (by omega) (by rw [List.length_map]; omega) (by omega) fun r W2 r0 r1 e2 k2 p2 => ?_
      rw [List.length_map] at r1
      have hb2 : W2 b = some (.lst (ts.map prD)) := by rw [k2 b (Ne.symm hab)]; exact hb
      refine ⟨⟨_, hb2⟩, draw_ok p2 (by omega) (by omega) (by omega) fun r' W3 r0' r1' e3 k3 p3 => ?_⟩
      obtain ⟨g1, g2, g3, g4, g5⟩ := ins W W2 W3 m r r' (by omega) ExB.refl hb r0 r1 r0' r1' e2 e3 k2 k3 p3
      exact ⟨by decide, _, g2, g3, r0, g4, g5⟩
    · rw [if_neg Bool.false_ne_true, decide_eq_false hin]
      simp only [wRaise, wTry, wXVal, wXIs, wXIsV, wCallX, fMulS, wSeq, wLRg1, wLRg2, wRngB, mExtend, wSetIxN, wBoxN, fNotInN, fGetN, wForEn, wSealQ, wPopD, wRep, wAug, wAsg, wSkip, wIf, wRet, wRetN, wDrop, wB, wTru, wBin, wUn, wApp, wAppF, wVal, wBox, wVar, wC, wFrz, wCons, wNil, wLst, wTup, wPar2, wPar3, wSetIx, wSetFld, wMu, wAnd, wOr, wNot, wAndV, wOrV, wNotV, wIte, wChain, wGet2, wFld, wProp, wMeth, wMethK, wCall, wCallK, wMakeK, wSeal, wOwn, wDisp, wPs, wDnK, wSortIt, wRev, wSlc, wONo, wOYes, wFor, wForLk, wIter, wRng1, wRng2, wEnum, wLc, wLcLk, wDc, wDcLk, wSetV, wSetB, wNo, wNoE, wYes, fAdd, fSub, fMul, fDiv, fMod, fPow, fLt, fLe, fGt, fGe, fNeg, fIsN, fNotN, isN, fInt, fAbs, fGet, fIx, bindG, Ob.toD, env0, List.map_cons, List.map_nil, List.cons_append, List.nil_append, List.append_nil, List.length_cons, List.length_nil, List.replicate_succ, List.replicate_zero, List.replicate, List.getElem?_cons_zero, List.getElem?_cons_succ, List.set_cons_zero, List.set_cons_succ, Option.some.injEq, exists_eq_left', exists_eq_left, D.int.injEq, D.bl.injEq, D.obj.injEq, keyD, keysD, fSet, mAppend, mInsert, mPop, mReverse, mClear, WS.put_same, dkD, lookD, truD, seqD, wipeD, List.set_nil]
      have hlo : lo ≠ 0 := fun c => hin (by simp [c])
      refine draw_ok hpool (by omega) (by omega) (by omega) fun z W1 z0 z1 e1 k1 p1 => eqK_int ⟨_, rfl, ?_⟩
      have hb1 : W1 b = some (.lst (ts.map prD)) := by rw [k1 b (Ne.symm hab)]; exact hb
      rw [if_neg Bool.false_ne_true]
      by_cases hz : z = 0
      · rw [decide_eq_true hz]
        simp only [fLen, view, hb1, wRaise, wTry, wXVal, wXIs, wXIsV, wCallX, fMulS, wSeq, wLRg1, wLRg2, wRngB, mExtend, wSetIxN, wBoxN, fNotInN, fGetN, wForEn, wSealQ, wPopD, wRep, wAug, wAsg, wSkip, wIf, wRet, wRetN, wDrop, wB, wTru, wBin, wUn, wApp, wAppF, wVal, wBox, wVar, wC, wFrz, wCons, wNil, wLst, wTup, wPar2, wPar3, wSetIx, wSetFld, wMu, wAnd, wOr, wNot, wAndV, wOrV, wNotV, wIte, wChain, wGet2, wFld, wProp, wMeth, wMethK, wCall, wCallK, wMakeK, wSeal, wOwn, wDisp, wPs, wDnK, wSortIt, wRev, wSlc, wONo, wOYes, wFor, wForLk, wIter, wRng1, wRng2, wEnum, wLc, wLcLk, wDc, wDcLk, wSetV, wSetB, wNo, wNoE, wYes, fAdd, fSub, fMul, fDiv, fMod, fPow, fLt, fLe, fGt, fGe, fNeg, fIsN, fNotN, isN, fInt, fAbs, fGet, fIx, bindG, Ob.toD, env0, List.map_cons, List.map_nil, List.cons_append, List.nil_append, List.append_nil, List.length_cons, List.length_nil, List.replicate_succ, List.replicate_zero, List.replicate, List.getElem?_cons_zero, List.getElem?_cons_succ, List.set_cons_zero, List.set_cons_succ, Option.some.injEq, exists_eq_left', exists_eq_left, D.int.injEq, D.bl.injEq, D.obj.injEq, keyD, keysD, fSet, mAppend, mInsert, mPop, mReverse, mClear, WS.put_same, dkD, lookD, truD, seqD, wipeD, List.set_nil]
        refine draw_ok p1 (by omega) (by rw [List.length_map]; omega) (by omega) fun r W2 r0 r1 e2 k2 p2 => ?_
        rw [List.length_map] at r1
        have hb2 : W2 b = some (.lst (ts.map prD)) := by rw [k2 b (Ne.symm hab)]; exact hb1
        refine ⟨⟨_, hb2⟩, draw_ok p2 (by omega) (by omega) (by omega) fun r' W3 r0' r1' e3 k3 p3 => ?_⟩
        obtain ⟨g1, g2, g3, g4, g5⟩ := ins W1 W2 W3 (m + 1) r r' (by omega) (e1.mono (by simp)) hb1 r0 r1 r0' r1' e2 e3 k2 k3 p3
        exact ⟨by decide, _, g2, g3, r0, g4, g5⟩
      · rw [decide_eq_false hz]
        exact ih ts _ _ W1 (m + 1) (by omega) (by omega) (by omega) hw H.step (.inr (hne.resolve_left hlo)) hb1 p1 (by omega) (fun ts' W' x5 x6 q1 q2 q3 q4 q5 => k ts' W' x5 x6 q1 q2 q3 ((e1.mono (by simp)).trans q4) (q5.more (by omega))) hw0
theorem law__law_kind (C : Addr) : ∀ ds W Q PX, sp__law_kind C ds W Q PX → ds.length = P__law_kind.length ∧ w__law_kind C PX { nx := fun _ W' => Q .non W', rt := Q } (env0 N__law_kind ds) W := by
  rintro ds W Q PX ⟨a, n, rfl, hn, hp, h⟩
  refine ⟨rfl, ?_⟩
  generalize hB : b__law_kind_1 C = Bd
  simp only [w__law_kind, N__law_kind, wRaise, wTry, wXVal, wXIs, wXIsV, wCallX, fMulS, wSeq, wLRg1, wLRg2, wRngB, mExtend, wSetIxN, wBoxN, fNotInN, fGetN, wForEn, wSealQ, wPopD, wRep, wAug, wAsg, wSkip, wIf, wRet, wRetN, wDrop, wB, wTru, wBin, wUn, wApp, wAppF, wVal, wBox, wVar, wC, wFrz, wCons, wNil, wLst, wTup, wPar2, wPar3, wSetIx, wSetFld, wMu, wAnd, wOr, wNot, wAndV, wOrV, wNotV, wIte, wChain, wGet2, wFld, wProp, wMeth, wMethK, wCall, wCallK, wMakeK, wSeal, wOwn, wDisp, wPs, wDnK, wSortIt, wRev, wSlc, wONo, wOYes, wFor, wForLk, wIter, wRng1, wRng2, wEnum, wLc, wLcLk, wDc, wDcLk, wSetV, wSetB, wNo, wNoE, wYes, fAdd, fSub, fMul, fDiv, fMod, fPow, fLt, fLe, fGt, fGe, fNeg, fIsN, fNotN, isN, fInt, fAbs, fGet, fIx, bindG, Ob.toD, env0, List.map_cons, List.map_nil, List.cons_append, List.nil_append, List.append_nil, List.length_cons, List.length_nil, List.replicate_succ, List.replicate_zero, List.replicate, List.getElem?_cons_zero, List.getElem?_cons_succ, List.set_cons_zero, List.set_cons_succ, Option.some.injEq, exists_eq_left', exists_eq_left, D.int.injEq, D.bl.injEq, D.obj.injEq, keyD, keysD, fSet, mAppend, mInsert, mPop, mReverse, mClear, WS.put_same, dkD, lookD, truD, seqD, wipeD, List.set_nil, view, hB]
  refine ⟨by decide, draw_ok hp (by decide) (by decide) (by omega) fun r W1 r0 r1 e1 k1 p1 => ?_⟩
  have hpr : ∃ p, atI [D.int 2, D.int 2, D.int 3, D.int 5] r = some (.int p) ∧ (p = 2 ∨ p = 3 ∨ p = 5) := by
    have : r = 0 ∨ r = 1 ∨ r = 2 ∨ r = 3 := by omega
    rcases this with rfl | rfl | rfl | rfl
    · exact ⟨2, rfl, .inl rfl⟩
    · exact ⟨2, rfl, .inl rfl⟩
    · exact ⟨3, rfl, .inr (.inl rfl)⟩
    · exact ⟨5, rfl, .inr (.inr rfl)⟩
  obtain ⟨p, hp1, hpr⟩ := hpr
  have hw : ∃ x, dget W1 (.dK (mergeD [] [(.inl 2, .int 5), (.inl 3, .int 4), (.inl 5, .int 3)])) (.int p) = some (some (.int x)) ∧ 3 ≤ x ∧ x ≤ 5 := by
    rcases hpr with rfl | rfl | rfl
    · exact ⟨5, rfl, by omega, by omega⟩
    · exact ⟨4, rfl, by omega, by omega⟩
    · exact ⟨3, rfl, by omega, by omega⟩
  obtain ⟨x, hx, x3, x5⟩ := hw
  refine ⟨_, hp1, [(.inl 2, .int 5), (.inl 3, .int 4), (.inl 5, .int 3)], rfl, by decide, _, hx, ?_⟩
  refine draw_ok p1 (by omega) (by omega) (by omega) fun wide W2 w0 w1 e2 k2 p2 => ?_
  refine draw_ok p2 (by omega) (by omega) (by omega) fun y W3 y0 y1 e3 k3 p3 => ?_
  refine ⟨by decide, draw_ok p3 (by omega) (by omega) (by omega) fun z W4 z0 z1 e4 k4 p4 => ?_⟩
  have hl : ∃ q, atI [D.int 0, D.int (0 - wide), D.int (-1), D.int (y - 8)] z = some (.int q) ∧ -20 ≤ q ∧ q ≤ 20 := by
    have : z = 0 ∨ z = 1 ∨ z = 2 ∨ z = 3 := by omega
    rcases this with rfl | rfl | rfl | rfl
    · exact ⟨_, rfl, by omega, by omega⟩
    · exact ⟨_, rfl, by omega, by omega⟩
    · exact ⟨_, rfl, by omega, by omega⟩
    · exact ⟨_, rfl, by omega, by omega⟩
  obtain ⟨least, hq, q0, q1⟩ := hl
  refine ⟨_, hq, by decide, fun b hb => ?_⟩
  have hab : a ≠ b := fun c => by
    subst c
    obtain ⟨_, _, _, hw, _⟩ := p4.ex
    rw [hb] at hw
    cases hw
  have x0 : ExB [a] W (W4.put b (.lst [])) := ((((e1.trans e2).trans e3).trans e4)).trans (ExB.put (.inr hb))
  refine ⟨⟨by omega, by omega⟩, ?_⟩
  subst hB
  have ht : (wide + 1).toNat = (wide.toNat + 1) := by omega
  refine kind_loop (by rcases hpr with rfl | rfl | rfl <;> omega) (by rcases hpr with rfl | rfl | rfl <;> omega) hab _ 0 [] _ _ _ (n + 4) (by omega) (by omega) (by omega) (by omega) ⟨fun _ h => (nomatch h), fun _ h => (nomatch h), List.nodup_nil, by simp⟩ (.inl rfl) WS.put_same (PoolOk.keep p4 (WS.put_ne hab)) (by omega) (fun ts' W' x5' x6' H hne hb' ex pp => ?_) w0
  simp only [wRaise, wTry, wXVal, wXIs, wXIsV, wCallX, fMulS, wSeq, wLRg1, wLRg2, wRngB, mExtend, wSetIxN, wBoxN, fNotInN, fGetN, wForEn, wSealQ, wPopD, wRep, wAug, wAsg, wSkip, wIf, wRet, wRetN, wDrop, wB, wTru, wBin, wUn, wApp, wAppF, wVal, wBox, wVar, wC, wFrz, wCons, wNil, wLst, wTup, wPar2, wPar3, wSetIx, wSetFld, wMu, wAnd, wOr, wNot, wAndV, wOrV, wNotV, wIte, wChain, wGet2, wFld, wProp, wMeth, wMethK, wCall, wCallK, wMakeK, wSeal, wOwn, wDisp, wPs, wDnK, wSortIt, wRev, wSlc, wONo, wOYes, wFor, wForLk, wIter, wRng1, wRng2, wEnum, wLc, wLcLk, wDc, wDcLk, wSetV, wSetB, wNo, wNoE, wYes, fAdd, fSub, fMul, fDiv, fMod, fPow, fLt, fLe, fGt, fGe, fNeg, fIsN, fNotN, isN, fInt, fAbs, fGet, fIx, bindG, Ob.toD, env0, List.map_cons, List.map_nil, List.cons_append, List.nil_append, List.append_nil, List.length_cons, List.length_nil, List.replicate_succ, List.replicate_zero, List.replicate, List.getElem?_cons_zero, List.getElem?_cons_succ, List.set_cons_zero, List.set_cons_succ, Option.some.injEq, exists_eq_left', exists_eq_left, D.int.injEq, D.bl.injEq, D.obj.injEq, keyD, keysD, fSet, mAppend, mInsert, mPop, mReverse, mClear, WS.put_same, dkD, lookD, truD, seqD, wipeD, List.set_nil]
  refine ⟨_, hb', by decide, h p ts' _ ⟨hpr, hne, ?_, H.co, H.nd, fun q hq => ?_⟩ ?_ ?_ ?_ ?_⟩
  · have := H.len; omega
  · have := H.bd q hq; omega
  · have := H.len; omega
  · intro q hq z hz
    have := H.bd q hq
    have := H.bd z hz
    omega
  · intro c ob hc ec
    have hcb : c ≠ b := fun z => by
      subst z
      have := ((((e1.trans e2).trans e3).trans e4)) c ob hc ec
      rw [hb] at this
      cases this
    rw [WS.del_ne hcb]
    refine ex c ob ?_ (x0 c ob hc ec)
    intro z
    rcases List.mem_cons.mp z with z | z
    · exact hc (by rw [z]; exact List.mem_cons_self)
    · exact hcb (List.mem_singleton.mp z)
  · exact PoolOk.keep (pp.more (by omega)) (WS.del_ne hab)
end DL

set_option maxRecDepth 100000
set_option maxHeartbeats 4000000
set_option linter.all false
namespace DL
open PySem PySem.Spec PyProof.Rows L2
theorem hasKD_mk (k : Int) : ∀ ps : IP, hasKD (.inl k) (mkI ps) = hasI k ps
  | [] => rfl
  | (g, v) :: r => by
    have ih := hasKD_mk k r
    show (if (Sum.inl g : Key) = .inl k then true else hasKD (.inl k) (mkI r)) = if g = k then true else hasI k r
    by_cases c : g = k
    · subst c; rw [if_pos rfl, if_pos rfl]
    · rw [if_neg c, if_neg (fun e => c (Sum.inl.inj e)), ih]
theorem getKD_mk (k : Int) : ∀ ps : IP, getKD (.inl k) (mkI ps) = (getI k ps).map D.int
  | [] => rfl
  | (g, v) :: r => by
    have ih := getKD_mk k r
    show (if (Sum.inl g : Key) = .inl k then some (D.int v) else getKD (.inl k) (mkI r)) = (if g = k then some v else getI k r).map D.int
    by_cases c : g = k
    · subst c; rw [if_pos rfl, if_pos rfl]; rfl
    · rw [if_neg c, if_neg (fun e => c (Sum.inl.inj e)), ih]
theorem setKD_mk (k v : Int) : ∀ ps : IP, setKD (.inl k) (.int v) (mkI ps) = mkI (setI k v ps)
  | [] => rfl
  | (g, u) :: r => by
    have ih := setKD_mk k v r
    show (if (Sum.inl g : Key) = .inl k then ((Sum.inl g : Key), D.int v) :: setKD (.inl k) (.int v) (mkI r) else (.inl g, .int u) :: setKD (.inl k) (.int v) (mkI r)) = mkI (if g = k then (g, v) :: setI k v r else (g, u) :: setI k v r)
    by_cases c : g = k
    · subst c; rw [if_pos rfl, if_pos rfl, ih]; rfl
    · rw [if_neg c, if_neg (fun e => c (Sum.inl.inj e)), ih]; rfl
theorem putKD_mk (ps : IP) (k v : Int) : putKD (mkI ps) (.inl k) (.int v) = mkI (putI ps k v) := by
  unfold putKD putI
  rw [hasKD_mk]
  split
  · exact setKD_mk k v ps
  · unfold mkI; rw [List.map_append]; rfl
theorem mergeD_mk : ∀ (ps acc : IP), mergeD (mkI acc) (mkI ps) = mkI (mergeI acc ps)
  | [], _ => rfl
  | (k, v) :: r, acc => by
    show mergeD (putKD (mkI acc) (.inl k) (.int v)) (mkI r) = mkI (mergeI (putI acc k v) r)
    rw [putKD_mk, mergeD_mk r]
theorem pairsK_mk : ∀ ps : IP, pairsK (ps.map prD) = some (mkI ps)
  | [] => rfl
  | (k, v) :: r => by
    have ih := pairsK_mk r
    show (match keyD (.int k), pairsK (r.map prD) with | some q, some s => some ((q, D.int v) :: s) | _, _ => none) = _
    rw [ih]; rfl
theorem dget_mk (W : WS) (d : D) (ps : IP) (k : Int) (h : view W d = .dK (mkI ps)) : dget W d (.int k) = some ((getI k ps).map D.int) := by
  unfold dget
  rw [h]
  show some (getKD (.inl k) (mkI ps)) = _
  rw [getKD_mk]
/-! keys -/
theorem hasI_iff {k : Int} : ∀ {ps : IP}, hasI k ps = true ↔ k ∈ ps.map (·.1)
  | [] => by simp [hasI]
  | (g, v) :: r => by
    have ih := hasI_iff (k := k) (ps := r)
    show (if g = k then true else hasI k r) = true ↔ k ∈ g :: r.map (·.1)
    by_cases c : g = k
    · subst c; simp
    · rw [if_neg c, ih, List.mem_cons]; exact ⟨.inr, fun h => h.resolve_left (fun e => c e.symm)⟩
theorem setI_keys (k v : Int) : ∀ ps : IP, (setI k v ps).map (·.1) = ps.map (·.1)
  | [] => rfl
  | (g, u) :: r => by
    have ih := setI_keys k v r
    show ((if g = k then (g, v) :: setI k v r else (g, u) :: setI k v r) : IP).map (·.1) = g :: r.map (·.1)
    split <;> rw [List.map_cons, ih]
theorem putI_keys (ps : IP) (k v : Int) : (putI ps k v).map (·.1) = if hasI k ps = true then ps.map (·.1) else ps.map (·.1) ++ [k] := by
  unfold putI
  split
  · exact setI_keys k v ps
  · rw [List.map_append]; rfl
theorem putI_nodup {ps : IP} (h : (ps.map (·.1)).Nodup) (k v : Int) : ((putI ps k v).map (·.1)).Nodup := by
  rw [putI_keys]
  split
  · exact h
  · rename_i c
    rw [List.nodup_append]
    refine ⟨h, List.nodup_cons.mpr ⟨List.not_mem_nil, List.nodup_nil⟩, fun a ha b hb e => ?_⟩
    rw [List.mem_singleton] at hb
    subst hb e
    exact c (hasI_iff.mpr ha)
theorem putI_mem {ps : IP} {k v x : Int} (h : x ∈ (putI ps k v).map (·.1)) : x = k ∨ x ∈ ps.map (·.1) := by
  rw [putI_keys] at h
  split at h
  · exact .inr h
  · rcases List.mem_append.mp h with h | h
    · exact .inr h
    · exact .inl (List.mem_singleton.mp h)
theorem putI_len (ps : IP) (k v : Int) : (putI ps k v).length ≤ ps.length + 1 := by
  have := congrArg List.length (putI_keys ps k v)
  rw [List.length_map] at this
  rw [this]
  split
  · rw [List.length_map]; omega
  · rw [List.length_append, List.length_map]; exact Nat.le_refl _
theorem getI_set (k v x : Int) : ∀ ps : IP, getI x (setI k v ps) = if x = k then (getI k ps).map (fun _ => v) else getI x ps
  | [] => by simp [setI, getI]
  | (g, u) :: r => by
    have ih := getI_set k v x r
    by_cases c : g = k
    · subst c
      have e : setI g v ((g, u) :: r) = (g, v) :: setI g v r := if_pos rfl
      rw [e]
      show (if g = x then some v else getI x (setI g v r)) = if x = g then (if g = g then some u else getI g r).map (fun _ => v) else if g = x then some u else getI x r
      by_cases d : x = g
      · subst d; rw [if_pos rfl, if_pos rfl, if_pos rfl]; rfl
      · rw [if_neg (fun e => d e.symm), if_neg d, if_neg (fun e => d e.symm), ih, if_neg d]
    · have e : setI k v ((g, u) :: r) = (g, u) :: setI k v r := if_neg c
      rw [e]
      show (if g = x then some u else getI x (setI k v r)) = if x = k then (if g = k then some u else getI k r).map (fun _ => v) else if g = x then some u else getI x r
      rw [if_neg c, ih]
      by_cases d : x = k
      · subst d; rw [if_neg c, if_pos rfl, if_pos rfl]
      · rw [if_neg d, if_neg d]
theorem getI_none {k : Int} {ps : IP} : getI k ps = none ↔ k ∉ ps.map (·.1) := by
  induction ps with
  | nil => simp [getI]
  | cons q r ih =>
    obtain ⟨g, v⟩ := q
    show (if g = k then some v else getI k r) = none ↔ k ∉ g :: r.map (·.1)
    by_cases c : g = k
    · subst c; simp
    · rw [if_neg c, ih, List.mem_cons]
      exact ⟨fun h e => e.elim (fun z => c z.symm) h, fun h e => h (.inr e)⟩
theorem getI_app {x : Int} : ∀ (ps qs : IP), getI x (ps ++ qs) = (getI x ps).or (getI x qs)
  | [], _ => by simp [getI]
  | (g, v) :: r, qs => by
    have ih := getI_app (x := x) r qs
    show (if g = x then some v else getI x (r ++ qs)) = (if g = x then some v else getI x r).or (getI x qs)
    split
    · rfl
    · exact ih
theorem getI_put (ps : IP) (k v x : Int) : getI x (putI ps k v) = if x = k then some v else getI x ps := by
  unfold putI
  split
  · rename_i h
    rw [getI_set]
    by_cases c : x = k
    · subst c
      rw [if_pos rfl, if_pos rfl]
      cases e : getI x ps with
      | none => exact absurd (hasI_iff.mp h) (getI_none.mp e)
      | some u => rfl
    · rw [if_neg c, if_neg c]
  · rename_i h
    rw [getI_app]
    by_cases c : x = k
    · subst c
      have : getI x ps = none := getI_none.mpr fun z => h (hasI_iff.mpr z)
      rw [this, if_pos rfl]
      show getI x [(x, v)] = some v
      exact if_pos rfl
    · rw [if_neg c]
      have : getI x [(k, v)] = none := if_neg (fun e => c e.symm)
      rw [this]
      cases getI x ps <;> rfl
theorem lookI_put (ps : IP) (k v x : Int) : lookI (putI ps k v) x = if x = k then v else lookI ps x := by
  unfold lookI
  rw [getI_put]
  split <;> rfl
theorem getI_mem {ps : IP} (h : (ps.map (·.1)).Nodup) {q : Int × Int} (hq : q ∈ ps) : getI q.1 ps = some q.2 := by
  induction ps with
  | nil => cases hq
  | cons p r ih =>
    obtain ⟨g, v⟩ := p
    rw [List.map_cons, List.nodup_cons] at h
    show (if g = q.1 then some v else getI q.1 r) = some q.2
    rcases List.mem_cons.mp hq with rfl | hq
    · exact if_pos rfl
    · rw [if_neg (fun e => h.1 (by show g ∈ _; rw [e]; exact List.mem_map.mpr ⟨q, hq, rfl⟩)), ih h.2 hq]
theorem getI_some {k v : Int} {ps : IP} (h : getI k ps = some v) : (k, v) ∈ ps := by
  induction ps with
  | nil => cases h
  | cons p r ih =>
    obtain ⟨g, u⟩ := p
    have h' : (if g = k then some u else getI k r) = some v := h
    by_cases c : g = k
    · subst c; rw [if_pos rfl] at h'; cases h'; exact List.mem_cons_self
    · rw [if_neg c] at h'; exact List.mem_cons_of_mem _ (ih h')
/-- keys that are new are put behind -/
theorem mergeI_app : ∀ (ps acc : IP), (ps.map (·.1)).Nodup → (∀ q ∈ ps, q.1 ∉ acc.map (·.1)) → mergeI acc ps = acc ++ ps
  | [], acc, _, _ => by rw [List.append_nil]; rfl
  | (k, v) :: r, acc, h, hn => by
    rw [List.map_cons, List.nodup_cons] at h
    have h1 : putI acc k v = acc ++ [(k, v)] := by
      unfold putI
      rw [if_neg (fun c => hn _ List.mem_cons_self (hasI_iff.mp c))]
    show mergeI (putI acc k v) r = _
    rw [h1, mergeI_app r _ h.2 fun q hq c => ?_, List.append_assoc]
    · rfl
    · rw [List.map_append, List.mem_append] at c
      rcases c with c | c
      · exact hn q (List.mem_cons_of_mem _ hq) c
      · have : q.1 = k := by simpa using c
        exact h.1 (by rw [← this]; exact List.mem_map.mpr ⟨q, hq, rfl⟩)
theorem mergeI_nil {ps : IP} (h : (ps.map (·.1)).Nodup) : mergeI [] ps = ps := by
  rw [mergeI_app ps [] h (fun q _ c => by cases c), List.nil_append]
theorem plainI_keys {ps : IP} {p : Int} : (plainI ps p).map (·.1) = (ps.filter fun q => q.2 % p != 0).map (·.1) := by
  unfold plainI; rw [List.map_map]; rfl
theorem plainI_nodup {ps : IP} {p : Int} (h : (ps.map (·.1)).Nodup) : ((plainI ps p).map (·.1)).Nodup := by
  rw [plainI_keys]
  exact h.sublist (List.filter_sublist.map _)
theorem law_cells_of (C : Addr) : ∀ ds W Q PX, sp_cells_of C ds W Q PX → ds.length = P_cells_of.length ∧ w_cells_of C PX { nx := fun _ W' => Q .non W', rt := Q } (env0 N_cells_of ds) W := by
  rintro ds W Q PX ⟨d, ps, rfl, hv, h⟩
  refine ⟨rfl, ?_⟩
  rcases hv with hv | rfl
  rotate_left
  · simp only [w_cells_of, N_cells_of, wRaise, wTry, wXVal, wXIs, wXIsV, wCallX, fMulS, wSeq, wLRg1, wLRg2, wRngB, mExtend, wSetIxN, wBoxN, fNotInN, fGetN, wForEn, wSealQ, wPopD, wRep, wAug, wAsg, wSkip, wIf, wRet, wRetN, wDrop, wB, wTru, wBin, wUn, wApp, wAppF, wVal, wBox, wVar, wC, wFrz, wCons, wNil, wLst, wTup, wPar2, wPar3, wSetIx, wSetFld, wMu, wAnd, wOr, wNot, wAndV, wOrV, wNotV, wIte, wChain, wGet2, wFld, wProp, wMeth, wMethK, wCall, wCallK, wMakeK, wSeal, wOwn, wDisp, wPs, wDnK, wSortIt, wRev, wSlc, wONo, wOYes, wFor, wForLk, wIter, wRng1, wRng2, wEnum, wLc, wLcLk, wDc, wDcLk, wSetV, wSetB, wNo, wNoE, wYes, fAdd, fSub, fMul, fDiv, fMod, fPow, fLt, fLe, fGt, fGe, fNeg, fIsN, fNotN, isN, fInt, fAbs, fGet, fIx, bindG, Ob.toD, env0, List.map_cons, List.map_nil, List.cons_append, List.nil_append, List.append_nil, List.length_cons, List.length_nil, List.replicate_succ, List.replicate_zero, List.replicate, List.getElem?_cons_zero, List.getElem?_cons_succ, List.set_cons_zero, List.set_cons_succ, Option.some.injEq, exists_eq_left', exists_eq_left, D.int.injEq, D.bl.injEq, D.obj.injEq, keyD, keysD, fSet, mAppend, mInsert, mPop, mReverse, mClear, WS.put_same, dkD, lookD, truD, seqD, wipeD, List.set_nil]
    refine ⟨mkI ps, pairsK_mk ps, ?_⟩
    rw [show mergeD [] (mkI ps) = mkI (mergeI [] ps) from mergeD_mk ps []]
    exact h
  simp only [w_cells_of, N_cells_of, wRaise, wTry, wXVal, wXIs, wXIsV, wCallX, fMulS, wSeq, wLRg1, wLRg2, wRngB, mExtend, wSetIxN, wBoxN, fNotInN, fGetN, wForEn, wSealQ, wPopD, wRep, wAug, wAsg, wSkip, wIf, wRet, wRetN, wDrop, wB, wTru, wBin, wUn, wApp, wAppF, wVal, wBox, wVar, wC, wFrz, wCons, wNil, wLst, wTup, wPar2, wPar3, wSetIx, wSetFld, wMu, wAnd, wOr, wNot, wAndV, wOrV, wNotV, wIte, wChain, wGet2, wFld, wProp, wMeth, wMethK, wCall, wCallK, wMakeK, wSeal, wOwn, wDisp, wPs, wDnK, wSortIt, wRev, wSlc, wONo, wOYes, wFor, wForLk, wIter, wRng1, wRng2, wEnum, wLc, wLcLk, wDc, wDcLk, wSetV, wSetB, wNo, wNoE, wYes, fAdd, fSub, fMul, fDiv, fMod, fPow, fLt, fLe, fGt, fGe, fNeg, fIsN, fNotN, isN, fInt, fAbs, fGet, fIx, bindG, Ob.toD, env0, List.map_cons, List.map_nil, List.cons_append, List.nil_append, List.append_nil, List.length_cons, List.length_nil, List.replicate_succ, List.replicate_zero, List.replicate, List.getElem?_cons_zero, List.getElem?_cons_succ, List.set_cons_zero, List.set_cons_succ, Option.some.injEq, exists_eq_left', exists_eq_left, D.int.injEq, D.bl.injEq, D.obj.injEq, keyD, keysD, fSet, mAppend, mInsert, mPop, mReverse, mClear, WS.put_same, dkD, lookD, truD, seqD, wipeD, List.set_nil, fDict, hv]
  refine ⟨_, pairsK_mk ps, ?_⟩
  rw [show mergeD [] (mkI ps) = mkI (mergeI [] ps) from mergeD_mk ps []]
  exact h
theorem law_row_of (C : Addr) : ∀ ds W Q PX, sp_row_of C ds W Q PX → ds.length = P_row_of.length ∧ w_row_of C PX { nx := fun _ W' => Q .non W', rt := Q } (env0 N_row_of ds) W := by
  rintro ds W Q PX ⟨ps, rfl, h⟩
  refine ⟨rfl, ?_⟩
  simp only [w_row_of, N_row_of, wRaise, wTry, wXVal, wXIs, wXIsV, wCallX, fMulS, wSeq, wLRg1, wLRg2, wRngB, mExtend, wSetIxN, wBoxN, fNotInN, fGetN, wForEn, wSealQ, wPopD, wRep, wAug, wAsg, wSkip, wIf, wRet, wRetN, wDrop, wB, wTru, wBin, wUn, wApp, wAppF, wVal, wBox, wVar, wC, wFrz, wCons, wNil, wLst, wTup, wPar2, wPar3, wSetIx, wSetFld, wMu, wAnd, wOr, wNot, wAndV, wOrV, wNotV, wIte, wChain, wGet2, wFld, wProp, wMeth, wMethK, wCall, wCallK, wMakeK, wSeal, wOwn, wDisp, wPs, wDnK, wSortIt, wRev, wSlc, wONo, wOYes, wFor, wForLk, wIter, wRng1, wRng2, wEnum, wLc, wLcLk, wDc, wDcLk, wSetV, wSetB, wNo, wNoE, wYes, fAdd, fSub, fMul, fDiv, fMod, fPow, fLt, fLe, fGt, fGe, fNeg, fIsN, fNotN, isN, fInt, fAbs, fGet, fIx, bindG, Ob.toD, env0, List.map_cons, List.map_nil, List.cons_append, List.nil_append, List.append_nil, List.length_cons, List.length_nil, List.replicate_succ, List.replicate_zero, List.replicate, List.getElem?_cons_zero, List.getElem?_cons_succ, List.set_cons_zero, List.set_cons_succ, Option.some.injEq, exists_eq_left', exists_eq_left, D.int.injEq, D.bl.injEq, D.obj.injEq, keyD, keysD, fSet, mAppend, mInsert, mPop, mReverse, mClear, WS.put_same, dkD, lookD, truD, seqD, wipeD, List.set_nil, view]
  exact ⟨_, ps, rfl, ipD_mk ps, fun qs h1 h2 a ha => h qs a h1 h2 ha⟩
end DL

set_option maxRecDepth 100000
set_option maxHeartbeats 4000000
set_option linter.all false
namespace DL
open PySem PySem.Spec PyProof.Rows L2
theorem itemsD_cons (k v : Int) (r : IP) : itemsD (mkI ((k, v) :: r)) = .tup [.int k, .int v] :: itemsD (mkI r) := rfl
theorem len_mk (ps : IP) : (mkI ps).length = ps.length := by unfold mkI; rw [List.length_map]
theorem law_plain (C : Addr) : ∀ ds W Q PX, sp_plain C ds W Q PX → ds.length = P_plain.length ∧ w_plain C PX { nx := fun _ W' => Q .non W', rt := Q } (env0 N_plain ds) W := by
  rintro ds W Q PX ⟨ps, p, rfl, hp, hn, hz, h⟩
  refine ⟨rfl, ?_⟩
  simp only [w_plain, N_plain, wRaise, wTry, wXVal, wXIs, wXIsV, wCallX, fMulS, wSeq, wLRg1, wLRg2, wRngB, mExtend, wSetIxN, wBoxN, fNotInN, fGetN, wForEn, wSealQ, wPopD, wRep, wAug, wAsg, wSkip, wIf, wRet, wRetN, wDrop, wB, wTru, wBin, wUn, wApp, wAppF, wVal, wBox, wVar, wC, wFrz, wCons, wNil, wLst, wTup, wPar2, wPar3, wSetIx, wSetFld, wMu, wAnd, wOr, wNot, wAndV, wOrV, wNotV, wIte, wChain, wGet2, wFld, wProp, wMeth, wMethK, wCall, wCallK, wMakeK, wSeal, wOwn, wDisp, wPs, wDnK, wSortIt, wRev, wSlc, wONo, wOYes, wFor, wForLk, wIter, wRng1, wRng2, wEnum, wLc, wLcLk, wDc, wDcLk, wSetV, wSetB, wNo, wNoE, wYes, fAdd, fSub, fMul, fDiv, fMod, fPow, fLt, fLe, fGt, fGe, fNeg, fIsN, fNotN, isN, fInt, fAbs, fGet, fIx, bindG, Ob.toD, env0, List.map_cons, List.map_nil, List.cons_append, List.nil_append, List.append_nil, List.length_cons, List.length_nil, List.replicate_succ, List.replicate_zero, List.replicate, List.getElem?_cons_zero, List.getElem?_cons_succ, List.set_cons_zero, List.set_cons_succ, Option.some.injEq, exists_eq_left', exists_eq_left, D.int.injEq, D.bl.injEq, D.obj.injEq, keyD, keysD, fSet, mAppend, mInsert, mPop, mReverse, mClear, WS.put_same, dkD, lookD, truD, seqD, wipeD, List.set_nil]
  have key : ∀ (rest : IP) (acc : IP), acc.length + rest.length < sizeLine → (∀ P : List (Key × D) → WS → Prop, P (mkI (mergeI acc (plainI rest p))) W →
      dcW (.tu (.tp (.nm 2) (.tp (.nm 3) .nl))) (wB (wBin (fEqK true) (wBin fMod (wVar 3) (wVar 1)) (wC (.int 0)))) (wVar 2) (wBin fMod (wVar 3) (wVar 1)) (itemsD (mkI rest)) [some (.dK (mkI ps)), some (.int p), none, none] W (mkI acc) P) := by
    intro rest
    induction rest with
    | nil => intro acc _ P hP; exact hP
    | cons q r ih =>
      intro acc hl P hP
      obtain ⟨k, v⟩ := q
      rw [List.length_cons] at hl
      rw [itemsD_cons]
      show bindG _ _ _ _
      generalize hK : dcW (.tu (.tp (.nm 2) (.tp (.nm 3) .nl))) (wB (wBin (fEqK true) (wBin fMod (wVar 3) (wVar 1)) (wC (.int 0)))) (wVar 2) (wBin fMod (wVar 3) (wVar 1)) (itemsD (mkI r)) [some (.dK (mkI ps)), some (.int p), none, none] = Kf at ih ⊢
      simp only [wRaise, wTry, wXVal, wXIs, wXIsV, wCallX, fMulS, wSeq, wLRg1, wLRg2, wRngB, mExtend, wSetIxN, wBoxN, fNotInN, fGetN, wForEn, wSealQ, wPopD, wRep, wAug, wAsg, wSkip, wIf, wRet, wRetN, wDrop, wB, wTru, wBin, wUn, wApp, wAppF, wVal, wBox, wVar, wC, wFrz, wCons, wNil, wLst, wTup, wPar2, wPar3, wSetIx, wSetFld, wMu, wAnd, wOr, wNot, wAndV, wOrV, wNotV, wIte, wChain, wGet2, wFld, wProp, wMeth, wMethK, wCall, wCallK, wMakeK, wSeal, wOwn, wDisp, wPs, wDnK, wSortIt, wRev, wSlc, wONo, wOYes, wFor, wForLk, wIter, wRng1, wRng2, wEnum, wLc, wLcLk, wDc, wDcLk, wSetV, wSetB, wNo, wNoE, wYes, fAdd, fSub, fMul, fDiv, fMod, fPow, fLt, fLe, fGt, fGe, fNeg, fIsN, fNotN, isN, fInt, fAbs, fGet, fIx, bindG, Ob.toD, env0, List.map_cons, List.map_nil, List.cons_append, List.nil_append, List.append_nil, List.length_cons, List.length_nil, List.replicate_succ, List.replicate_zero, List.replicate, List.getElem?_cons_zero, List.getElem?_cons_succ, List.set_cons_zero, List.set_cons_succ, Option.some.injEq, exists_eq_left', exists_eq_left, D.int.injEq, D.bl.injEq, D.obj.injEq, keyD, keysD, fSet, mAppend, mInsert, mPop, mReverse, mClear, WS.put_same, dkD, lookD, truD, seqD, wipeD, List.set_nil]
      refine ⟨hp, eqK_int ⟨_, rfl, ?_⟩⟩
      rw [if_pos rfl]
      by_cases c : v % p = 0
      · rw [decide_eq_true c]
        refine ih acc (by omega) P ?_
        have e : plainI ((k, v) :: r) p = plainI r p := by
          unfold plainI
          rw [List.filter_cons_of_neg (by simp [c])]
        rw [e] at hP
        exact hP
      · rw [decide_eq_false c]
        simp only [Bool.not_false, wRaise, wTry, wXVal, wXIs, wXIsV, wCallX, fMulS, wSeq, wLRg1, wLRg2, wRngB, mExtend, wSetIxN, wBoxN, fNotInN, fGetN, wForEn, wSealQ, wPopD, wRep, wAug, wAsg, wSkip, wIf, wRet, wRetN, wDrop, wB, wTru, wBin, wUn, wApp, wAppF, wVal, wBox, wVar, wC, wFrz, wCons, wNil, wLst, wTup, wPar2, wPar3, wSetIx, wSetFld, wMu, wAnd, wOr, wNot, wAndV, wOrV, wNotV, wIte, wChain, wGet2, wFld, wProp, wMeth, wMethK, wCall, wCallK, wMakeK, wSeal, wOwn, wDisp, wPs, wDnK, wSortIt, wRev, wSlc, wONo, wOYes, wFor, wForLk, wIter, wRng1, wRng2, wEnum, wLc, wLcLk, wDc, wDcLk, wSetV, wSetB, wNo, wNoE, wYes, fAdd, fSub, fMul, fDiv, fMod, fPow, fLt, fLe, fGt, fGe, fNeg, fIsN, fNotN, isN, fInt, fAbs, fGet, fIx, bindG, Ob.toD, env0, List.map_cons, List.map_nil, List.cons_append, List.nil_append, List.append_nil, List.length_cons, List.length_nil, List.replicate_succ, List.replicate_zero, List.replicate, List.getElem?_cons_zero, List.getElem?_cons_succ, List.set_cons_zero, List.set_cons_succ, Option.some.injEq, exists_eq_left', exists_eq_left, D.int.injEq, D.bl.injEq, D.obj.injEq, keyD, keysD, fSet, mAppend, mInsert, mPop, mReverse, mClear, WS.put_same, dkD, lookD, truD, seqD, wipeD, List.set_nil]
        refine ⟨hp, by rw [len_mk]; omega, ?_⟩
        rw [putKD_mk]
        have e : plainI ((k, v) :: r) p = (k, v % p) :: plainI r p := by
          unfold plainI
          rw [List.filter_cons_of_pos (by simpa using c), List.map_cons]
        rw [e] at hP
        refine ih _ ?_ P hP
        have := putI_len acc k (v % p)
        omega
  refine key ps [] (by simpa using hz) _ ?_
  rw [mergeI_nil (plainI_nodup hn)]
  exact h
theorem rowI_len (k v : Int) : ∀ (other acc : IP), (rowI k v other acc).length ≤ acc.length + other.length
  | [], acc => by show acc.length ≤ _; omega
  | q :: r, acc => by
    have ih := rowI_len k v r (putI acc (k + q.1) (lookI acc (k + q.1) + v * q.2))
    have := putI_len acc (k + q.1) (lookI acc (k + q.1) + v * q.2)
    have e : (q :: r).length = r.length + 1 := rfl
    show (rowI k v r (putI acc (k + q.1) (lookI acc (k + q.1) + v * q.2))).length ≤ _
    omega
theorem rowI_nodup (k v : Int) : ∀ (other acc : IP), (acc.map (·.1)).Nodup → ((rowI k v other acc).map (·.1)).Nodup
  | [], _, h => h
  | q :: r, _, h => rowI_nodup k v r _ (putI_nodup h _ _)
theorem mul_inner {C b : Addr} {k v : Int} {d0 d1 d2 : D} {W : WS} {P : WEnds} {PX : XP} (hv : v.natAbs < 2 ^ 60) : ∀ (rest acc : IP) (x6 x7 : Option D), (∀ q ∈ rest, q.2.natAbs < 2 ^ 60) → acc.length + rest.length < sizeLine →
    (∀ x6 x7, P.nx [some d0, some d1, some d2, some (.obj b), some (.int k), some (.int v), x6, x7] (W.put b (.dK (mkI (rowI k v rest acc))))) →
    forW (.tu (.tp (.nm 6) (.tp (.nm 7) .nl))) (b_multiplied_1 C) PX P (itemsD (mkI rest)) [some d0, some d1, some d2, some (.obj b), some (.int k), some (.int v), x6, x7] (W.put b (.dK (mkI acc)))
  | [], acc, x6, x7, _, _, h => h x6 x7
  | (o, f) :: r, acc, x6, x7, hf, hl, h => by
    have ih := mul_inner (C := C) (k := k) (d0 := d0) (d1 := d1) (d2 := d2) (W := W) (P := P) (PX := PX) (b := b) hv r
    rw [itemsD_cons]
    show bindG _ _ _ _
    generalize hK : forW (.tu (.tp (.nm 6) (.tp (.nm 7) .nl))) (b_multiplied_1 C) PX P (itemsD (mkI r)) = Kf
    simp only [hK] at ih
    simp only [b_multiplied_1, wRaise, wTry, wXVal, wXIs, wXIsV, wCallX, fMulS, wSeq, wLRg1, wLRg2, wRngB, mExtend, wSetIxN, wBoxN, fNotInN, fGetN, wForEn, wSealQ, wPopD, wRep, wAug, wAsg, wSkip, wIf, wRet, wRetN, wDrop, wB, wTru, wBin, wUn, wApp, wAppF, wVal, wBox, wVar, wC, wFrz, wCons, wNil, wLst, wTup, wPar2, wPar3, wSetIx, wSetFld, wMu, wAnd, wOr, wNot, wAndV, wOrV, wNotV, wIte, wChain, wGet2, wFld, wProp, wMeth, wMethK, wCall, wCallK, wMakeK, wSeal, wOwn, wDisp, wPs, wDnK, wSortIt, wRev, wSlc, wONo, wOYes, wFor, wForLk, wIter, wRng1, wRng2, wEnum, wLc, wLcLk, wDc, wDcLk, wSetV, wSetB, wNo, wNoE, wYes, fAdd, fSub, fMul, fDiv, fMod, fPow, fLt, fLe, fGt, fGe, fNeg, fIsN, fNotN, isN, fInt, fAbs, fGet, fIx, bindG, Ob.toD, env0, List.map_cons, List.map_nil, List.cons_append, List.nil_append, List.append_nil, List.length_cons, List.length_nil, List.replicate_succ, List.replicate_zero, List.replicate, List.getElem?_cons_zero, List.getElem?_cons_succ, List.set_cons_zero, List.set_cons_succ, Option.some.injEq, exists_eq_left', exists_eq_left, D.int.injEq, D.bl.injEq, D.obj.injEq, keyD, keysD, fSet, mAppend, mInsert, mPop, mReverse, mClear, WS.put_same, dkD, lookD, truD, seqD, wipeD, List.set_nil, view]
    rw [List.length_cons] at hl
    have hf1 := hf (o, f) List.mem_cons_self
    refine ⟨rfl, _, dget_mk _ _ acc (k + o) (by simp only [view, WS.put_same]), ?_⟩
    have eg : ((getI (k + o) acc).map D.int).getD (.int 0) = .int (lookI acc (k + o)) := by
      unfold lookI
      cases getI (k + o) acc <;> rfl
    rw [eg]
    simp only [wRaise, wTry, wXVal, wXIs, wXIsV, wCallX, fMulS, wSeq, wLRg1, wLRg2, wRngB, mExtend, wSetIxN, wBoxN, fNotInN, fGetN, wForEn, wSealQ, wPopD, wRep, wAug, wAsg, wSkip, wIf, wRet, wRetN, wDrop, wB, wTru, wBin, wUn, wApp, wAppF, wVal, wBox, wVar, wC, wFrz, wCons, wNil, wLst, wTup, wPar2, wPar3, wSetIx, wSetFld, wMu, wAnd, wOr, wNot, wAndV, wOrV, wNotV, wIte, wChain, wGet2, wFld, wProp, wMeth, wMethK, wCall, wCallK, wMakeK, wSeal, wOwn, wDisp, wPs, wDnK, wSortIt, wRev, wSlc, wONo, wOYes, wFor, wForLk, wIter, wRng1, wRng2, wEnum, wLc, wLcLk, wDc, wDcLk, wSetV, wSetB, wNo, wNoE, wYes, fAdd, fSub, fMul, fDiv, fMod, fPow, fLt, fLe, fGt, fGe, fNeg, fIsN, fNotN, isN, fInt, fAbs, fGet, fIx, bindG, Ob.toD, env0, List.map_cons, List.map_nil, List.cons_append, List.nil_append, List.append_nil, List.length_cons, List.length_nil, List.replicate_succ, List.replicate_zero, List.replicate, List.getElem?_cons_zero, List.getElem?_cons_succ, List.set_cons_zero, List.set_cons_succ, Option.some.injEq, exists_eq_left', exists_eq_left, D.int.injEq, D.bl.injEq, D.obj.injEq, keyD, keysD, fSet, mAppend, mInsert, mPop, mReverse, mClear, WS.put_same, dkD, lookD, truD, seqD, wipeD, List.set_nil]
    refine ⟨wide_mul hv hf1 (by omega) (by omega) (by omega), _, _, rfl, WS.put_same, _, rfl, by rw [len_mk]; omega, ?_⟩
    simp only [putKD_mk, WS.put_put]
    have := putI_len acc (k + o) (lookI acc (k + o) + v * f)
    exact ih _ _ _ (fun q hq => hf q (List.mem_cons_of_mem _ hq)) (by omega) h
theorem mul_outer {C b : Addr} {other : IP} {d0 d2 : D} {W : WS} {P : WEnds} {PX : XP} (ho : ∀ q ∈ other, q.2.natAbs < 2 ^ 60) : ∀ (rest acc : IP) (x4 x5 x6 x7 : Option D), (∀ q ∈ rest, q.2.natAbs < 2 ^ 60) → acc.length + rest.length * other.length < sizeLine →
    (∀ x4 x5 x6 x7, P.nx [some d0, some (.dK (mkI other)), some d2, some (.obj b), x4, x5, x6, x7] (W.put b (.dK (mkI (rest.foldl (fun a q => rowI q.1 q.2 other a) acc))))) →
    forW (.tu (.tp (.nm 4) (.tp (.nm 5) .nl))) (b_multiplied_2 C) PX P (itemsD (mkI rest)) [some d0, some (.dK (mkI other)), some d2, some (.obj b), x4, x5, x6, x7] (W.put b (.dK (mkI acc)))
  | [], acc, x4, x5, x6, x7, _, _, h => h x4 x5 x6 x7
  | (k, v) :: r, acc, x4, x5, x6, x7, hf, hl, h => by
    have ih := mul_outer (C := C) (d0 := d0) (d2 := d2) (W := W) (P := P) (PX := PX) (b := b) ho r
    rw [itemsD_cons]
    show bindG _ _ _ _
    generalize hK : forW (.tu (.tp (.nm 4) (.tp (.nm 5) .nl))) (b_multiplied_2 C) PX P (itemsD (mkI r)) = Kf
    simp only [hK] at ih
    generalize hB : b_multiplied_1 C = Bd1
    simp only [b_multiplied_2, wRaise, wTry, wXVal, wXIs, wXIsV, wCallX, fMulS, wSeq, wLRg1, wLRg2, wRngB, mExtend, wSetIxN, wBoxN, fNotInN, fGetN, wForEn, wSealQ, wPopD, wRep, wAug, wAsg, wSkip, wIf, wRet, wRetN, wDrop, wB, wTru, wBin, wUn, wApp, wAppF, wVal, wBox, wVar, wC, wFrz, wCons, wNil, wLst, wTup, wPar2, wPar3, wSetIx, wSetFld, wMu, wAnd, wOr, wNot, wAndV, wOrV, wNotV, wIte, wChain, wGet2, wFld, wProp, wMeth, wMethK, wCall, wCallK, wMakeK, wSeal, wOwn, wDisp, wPs, wDnK, wSortIt, wRev, wSlc, wONo, wOYes, wFor, wForLk, wIter, wRng1, wRng2, wEnum, wLc, wLcLk, wDc, wDcLk, wSetV, wSetB, wNo, wNoE, wYes, fAdd, fSub, fMul, fDiv, fMod, fPow, fLt, fLe, fGt, fGe, fNeg, fIsN, fNotN, isN, fInt, fAbs, fGet, fIx, bindG, Ob.toD, env0, List.map_cons, List.map_nil, List.cons_append, List.nil_append, List.append_nil, List.length_cons, List.length_nil, List.replicate_succ, List.replicate_zero, List.replicate, List.getElem?_cons_zero, List.getElem?_cons_succ, List.set_cons_zero, List.set_cons_succ, Option.some.injEq, exists_eq_left', exists_eq_left, D.int.injEq, D.bl.injEq, D.obj.injEq, keyD, keysD, fSet, mAppend, mInsert, mPop, mReverse, mClear, WS.put_same, dkD, lookD, truD, seqD, wipeD, List.set_nil, hB]
    subst hB
    have hl' : (r.length + 1) * other.length = r.length * other.length + other.length := Nat.succ_mul _ _
    rw [List.length_cons, hl'] at hl
    refine mul_inner (hf (k, v) List.mem_cons_self) other acc _ _ ho (by omega) fun x6' x7' => ?_
    have h3 : (rowI k v other acc).length ≤ acc.length + other.length := rowI_len k v other acc
    exact ih (rowI k v other acc) _ _ _ _ (fun q hq => hf q (List.mem_cons_of_mem _ hq)) (by omega) h
theorem mulI_nodup (one other : IP) : ((mulI one other).map (·.1)).Nodup := by
  have key : ∀ (one acc : IP), (acc.map (·.1)).Nodup → ((one.foldl (fun a q => rowI q.1 q.2 other a) acc).map (·.1)).Nodup := by
    intro one
    induction one with
    | nil => intro acc h; exact h
    | cons q r ih => intro acc h; exact ih _ (rowI_nodup _ _ _ _ h)
  exact key one [] List.nodup_nil
theorem mulI_len (one other : IP) : (mulI one other).length ≤ one.length * other.length := by
  have key : ∀ (one acc : IP), (one.foldl (fun a q => rowI q.1 q.2 other a) acc).length ≤ acc.length + one.length * other.length := by
    intro one
    induction one with
    | nil => intro acc; show acc.length ≤ _; omega
    | cons q r ih =>
      intro acc
      have h1 := ih (rowI q.1 q.2 other acc)
      have h2 := rowI_len q.1 q.2 other acc
      have hl' : (r.length + 1) * other.length = r.length * other.length + other.length := Nat.succ_mul _ _
      rw [List.length_cons, hl']
      show (r.foldl _ (rowI q.1 q.2 other acc)).length ≤ _
      omega
  have := key one []
  rw [List.length_nil, Nat.zero_add] at this
  exact this
theorem law_multiplied (C : Addr) : ∀ ds W Q PX, sp_multiplied C ds W Q PX → ds.length = P_multiplied.length ∧ w_multiplied C PX { nx := fun _ W' => Q .non W', rt := Q } (env0 N_multiplied ds) W := by
  rintro ds W Q PX ⟨one, other, p, rfl, hp, hl, h1, h2, h⟩
  refine ⟨rfl, ?_⟩
  generalize hB : b_multiplied_2 C = Bd2
  simp only [w_multiplied, N_multiplied, wRaise, wTry, wXVal, wXIs, wXIsV, wCallX, fMulS, wSeq, wLRg1, wLRg2, wRngB, mExtend, wSetIxN, wBoxN, fNotInN, fGetN, wForEn, wSealQ, wPopD, wRep, wAug, wAsg, wSkip, wIf, wRet, wRetN, wDrop, wB, wTru, wBin, wUn, wApp, wAppF, wVal, wBox, wVar, wC, wFrz, wCons, wNil, wLst, wTup, wPar2, wPar3, wSetIx, wSetFld, wMu, wAnd, wOr, wNot, wAndV, wOrV, wNotV, wIte, wChain, wGet2, wFld, wProp, wMeth, wMethK, wCall, wCallK, wMakeK, wSeal, wOwn, wDisp, wPs, wDnK, wSortIt, wRev, wSlc, wONo, wOYes, wFor, wForLk, wIter, wRng1, wRng2, wEnum, wLc, wLcLk, wDc, wDcLk, wSetV, wSetB, wNo, wNoE, wYes, fAdd, fSub, fMul, fDiv, fMod, fPow, fLt, fLe, fGt, fGe, fNeg, fIsN, fNotN, isN, fInt, fAbs, fGet, fIx, bindG, Ob.toD, env0, List.map_cons, List.map_nil, List.cons_append, List.nil_append, List.append_nil, List.length_cons, List.length_nil, List.replicate_succ, List.replicate_zero, List.replicate, List.getElem?_cons_zero, List.getElem?_cons_succ, List.set_cons_zero, List.set_cons_succ, Option.some.injEq, exists_eq_left', exists_eq_left, D.int.injEq, D.bl.injEq, D.obj.injEq, keyD, keysD, fSet, mAppend, mInsert, mPop, mReverse, mClear, WS.put_same, dkD, lookD, truD, seqD, wipeD, List.set_nil, hB]
  intro b hb
  subst hB
  refine mul_outer h2 one [] _ _ _ _ h1 (sz_small (by show 0 + _ ≤ _; omega)) fun x4 x5 x6 x7 => ?_
  simp only [wRaise, wTry, wXVal, wXIs, wXIsV, wCallX, fMulS, wSeq, wLRg1, wLRg2, wRngB, mExtend, wSetIxN, wBoxN, fNotInN, fGetN, wForEn, wSealQ, wPopD, wRep, wAug, wAsg, wSkip, wIf, wRet, wRetN, wDrop, wB, wTru, wBin, wUn, wApp, wAppF, wVal, wBox, wVar, wC, wFrz, wCons, wNil, wLst, wTup, wPar2, wPar3, wSetIx, wSetFld, wMu, wAnd, wOr, wNot, wAndV, wOrV, wNotV, wIte, wChain, wGet2, wFld, wProp, wMeth, wMethK, wCall, wCallK, wMakeK, wSeal, wOwn, wDisp, wPs, wDnK, wSortIt, wRev, wSlc, wONo, wOYes, wFor, wForLk, wIter, wRng1, wRng2, wEnum, wLc, wLcLk, wDc, wDcLk, wSetV, wSetB, wNo, wNoE, wYes, fAdd, fSub, fMul, fDiv, fMod, fPow, fLt, fLe, fGt, fGe, fNeg, fIsN, fNotN, isN, fInt, fAbs, fGet, fIx, bindG, Ob.toD, env0, List.map_cons, List.map_nil, List.cons_append, List.nil_append, List.append_nil, List.length_cons, List.length_nil, List.replicate_succ, List.replicate_zero, List.replicate, List.getElem?_cons_zero, List.getElem?_cons_succ, List.set_cons_zero, List.set_cons_succ, Option.some.injEq, exists_eq_left', exists_eq_left, D.int.injEq, D.bl.injEq, D.obj.injEq, keyD, keysD, fSet, mAppend, mInsert, mPop, mReverse, mClear, WS.put_same, dkD, lookD, truD, seqD, wipeD, List.set_nil]
  refine ⟨mulI one other, p, rfl, hp, mulI_nodup _ _, sz_small (by have := mulI_len one other; omega), ?_⟩
  rw [WS.put_del, WS.del_none hb]
  exact h W ExB.refl
end DL

set_option maxRecDepth 100000
set_option maxHeartbeats 4000000
set_option linter.all false
namespace DL
open PySem PySem.Spec PyProof.Rows L2
def prP (q : Int × Int) : PyData := .tuple [.int q.1, .int q.2]
theorem toPs_pr : ∀ ps : IP, toPs (ps.map prD) = ps.map prP
  | [] => by simp only [List.map_nil, toPs]
  | q :: r => by simp only [List.map_cons, toPs, toP, prD, prP, toPs_pr r]
theorem plain_pr : ∀ ps : IP, plainDs (ps.map prD) = true
  | [] => by simp only [List.map_nil, plainDs]
  | q :: r => by simp only [List.map_cons, plainDs, plainD, prD, plain_pr r, Bool.and_self]
theorem lay_pr : ∀ ps : IP, PyData.canLayAll0 (ps.map prP) = true
  | [] => by simp only [List.map_nil, PyData.canLayAll0]
  | q :: r => by simp only [List.map_cons, PyData.canLayAll0, PyData.canLay0, prP, lay_pr r, Bool.and_self]
theorem depth_pr : ∀ ps : IP, PyData.depthAll (ps.map prP) ≤ 1
  | [] => by simp only [List.map_nil, PyData.depthAll]; omega
  | q :: r => by
    have ih := depth_pr r
    simp only [List.map_cons, PyData.depthAll, PyData.depth, prP]
    omega
theorem toPs_int : ∀ ns : List Int, toPs (ns.map D.int) = ns.map PyData.int
  | [] => by simp only [List.map_nil, toPs]
  | q :: r => by simp only [List.map_cons, toPs, toP, toPs_int r]
theorem plain_int : ∀ ns : List Int, plainDs (ns.map D.int) = true
  | [] => by simp only [List.map_nil, plainDs]
  | q :: r => by simp only [List.map_cons, plainDs, plainD, plain_int r, Bool.and_self]
theorem lay_int : ∀ ns : List Int, PyData.canLayAll0 (ns.map PyData.int) = true
  | [] => by simp only [List.map_nil, PyData.canLayAll0]
  | q :: r => by simp only [List.map_cons, PyData.canLayAll0, PyData.canLay0, lay_int r, Bool.and_self]
theorem depth_int : ∀ ns : List Int, PyData.depthAll (ns.map PyData.int) = 0
  | [] => by simp only [List.map_nil, PyData.depthAll]
  | q :: r => by simp only [List.map_cons, PyData.depthAll, PyData.depth, depth_int r]; rfl
theorem shaped_row (ps : IP) : SeqAt.shaped (.list (ps.map prP)) = true := by
  have h := depth_pr ps
  simp only [SeqAt.shaped, PyData.canLay0, PyData.depth, lay_pr, Bool.true_and]
  exact decide_eq_true (by omega)
theorem shaped_tup (ps : IP) : SeqAt.shaped (.tuple (ps.map prP)) = true := by
  have h := depth_pr ps
  simp only [SeqAt.shaped, PyData.canLay0, PyData.depth, lay_pr, Bool.true_and]
  exact decide_eq_true (by omega)
theorem shaped_ints (ns : List Int) : SeqAt.shaped (.list (ns.map PyData.int)) = true := by
  have h := depth_int ns
  simp only [SeqAt.shaped, PyData.canLay0, PyData.depth, lay_int, Bool.true_and]
  exact decide_eq_true (by omega)
theorem eqv_int (i j : Int) : PyData.eqv (.int i) (.int j) = decide (i = j) := by
  show (i == j) = decide (i = j)
  by_cases h : i = j
  · subst h; simp
  · simp [h]
theorem eqv_pr (p q : Int × Int) : PyData.eqv (prP p) (prP q) = decide (p = q) := by
  obtain ⟨a, b⟩ := p
  obtain ⟨c, d⟩ := q
  show (PyData.eqv (.int a) (.int c) && (PyData.eqv (.int b) (.int d) && true)) = _
  rw [eqv_int, eqv_int, Bool.and_true]
  by_cases h1 : a = c <;> by_cases h2 : b = d <;> simp [h1, h2]
theorem eqv_rows : ∀ ps qs : IP, PyData.eqvAll (ps.map prP) (qs.map prP) = decide (ps = qs)
  | [], [] => by simp [PyData.eqvAll]
  | [], _ :: _ => by simp [PyData.eqvAll]
  | _ :: _, [] => by simp [PyData.eqvAll]
  | p :: ps, q :: qs => by
    have ih := eqv_rows ps qs
    simp only [List.map_cons, PyData.eqvAll, eqv_pr, ih]
    by_cases h1 : p = q <;> by_cases h2 : ps = qs <;> simp [h1, h2]
/-- rows on both sides of == -/
theorem eqK_rows {neg : Bool} {d e : D} {ps qs : IP} {W : WS} {P : D → Prop} (hd : view W d = .lst (ps.map prD)) (he : view W e = .lst (qs.map prD)) (h : P (.bl (if neg then !decide (ps = qs) else decide (ps = qs)))) : fEqK neg d e W P := by
  unfold fEqK
  rw [hd, he]
  simp only [plainD, plain_pr, toP, toPs_pr, shaped_row, true_and]
  have e : PyData.eqv (.list (ps.map prP)) (.list (qs.map prP)) = decide (ps = qs) := eqv_rows ps qs
  rw [e]; exact h
theorem eqK_tups {neg : Bool} {d e : D} {ps qs : IP} {W : WS} {P : D → Prop} (hd : view W d = .tup (ps.map prD)) (he : view W e = .tup (qs.map prD)) (h : P (.bl (if neg then !decide (ps = qs) else decide (ps = qs)))) : fEqK neg d e W P := by
  unfold fEqK
  rw [hd, he]
  simp only [plainD, plain_pr, toP, toPs_pr, shaped_tup, true_and]
  have e : PyData.eqv (.tuple (ps.map prP)) (.tuple (qs.map prP)) = decide (ps = qs) := eqv_rows ps qs
  rw [e]; exact h
theorem any_int (i : Int) : ∀ ns : List Int, ((ns.map PyData.int).any fun z => PyData.eqv z (.int i)) = decide (i ∈ ns)
  | [] => by simp
  | n :: r => by
    have ih := any_int i r
    rw [List.map_cons, List.any_cons, ih, eqv_int]
    by_cases h1 : n = i
    · subst h1; simp
    · have h2 : ¬ i = n := fun z => h1 z.symm
      simp [h1, h2]
theorem inK_ints {neg : Bool} {d : D} {i : Int} {ns : List Int} {W : WS} {P : D → Prop} (hd : view W d = .lst (ns.map D.int)) (h : P (.bl (if neg then !decide (i ∈ ns) else decide (i ∈ ns)))) : fInK neg (.int i) d W P := by
  unfold fInK
  rw [hd]
  show plainD (.int i) = true ∧ plainDs (ns.map D.int) = true ∧ SeqAt.shaped (toP (.int i)) = true ∧ SeqAt.shaped (toP (.lst (ns.map D.int))) = true ∧ _
  refine ⟨rfl, plain_int ns, rfl, ?_, ?_⟩
  · simp only [toP, toPs_int, shaped_ints]
  · show P (.bl (if neg then !((toPs (ns.map D.int)).any fun z => PyData.eqv z (.int i)) else (toPs (ns.map D.int)).any fun z => PyData.eqv z (.int i)))
    rw [toPs_int, any_int]
    exact h
theorem check_loop {C b : Addr} {p : Int} {d1 : D} {W : WS} {P : WEnds} {PX : XP} : ∀ (rest : IP) (seen : List Int) (n : Nat) (x3 x4 x5 : Option D), (∀ q ∈ rest, 1 ≤ q.1 ∧ q.1 < p) → (rest.map (·.2)).Nodup → (∀ q ∈ rest, q.2 ∉ seen) → seen.length + rest.length ≤ 1000 →
    (∀ (seen' : List Int) x3 x4 x5, P.nx [some (.int p), some d1, some (.obj b), x3, x4, x5] (W.put b (.lst (seen'.map D.int)))) →
    forW (.tu (.tp (.nm 3) (.tp (.tu (.tp (.nm 4) (.tp (.nm 5) .nl))) .nl))) (b_check_terms_1 C) PX P (enumD n (rest.map prD)) [some (.int p), some d1, some (.obj b), x3, x4, x5] (W.put b (.lst (seen.map D.int)))
  | [], seen, n, x3, x4, x5, _, _, _, _, k => k seen x3 x4 x5
  | (c, o) :: r, seen, n, x3, x4, x5, hc, hn, hs, hl, k => by
    have ih := check_loop (C := C) (b := b) (p := p) (d1 := d1) (W := W) (P := P) (PX := PX) r
    show bindG _ _ _ _
    generalize hK : forW (.tu (.tp (.nm 3) (.tp (.tu (.tp (.nm 4) (.tp (.nm 5) .nl))) .nl))) (b_check_terms_1 C) PX P (enumD (n + 1) (r.map prD)) = Kf
    have ih' := ih (seen ++ [o]) (n + 1)
    simp only [hK] at ih'
    rw [List.map_cons, List.nodup_cons] at hn
    rw [List.length_cons] at hl
    have c1 := hc (c, o) List.mem_cons_self
    have o1 : o ∉ seen := hs (c, o) List.mem_cons_self
    have fin : Kf [some (.int p), some d1, some (.obj b), some (.int n), some (.int c), some (.int o)] ((W.put b (.lst (seen.map D.int))).put b (.lst (seen.map D.int ++ [.int o]))) := by
      rw [WS.put_put, show seen.map D.int ++ [D.int o] = (seen ++ [o]).map D.int by rw [List.map_append]; rfl]
      refine ih' _ _ _ (fun q hq => hc q (List.mem_cons_of_mem _ hq)) hn.2 (fun q hq z => ?_) (by rw [List.length_append, List.length_singleton]; omega) k
      rcases List.mem_append.mp z with z | z
      · exact hs q (List.mem_cons_of_mem _ hq) z
      · exact hn.1 (List.mem_map.mpr ⟨q, hq, List.mem_singleton.mp z⟩)
    have e1 : decide (1 ≤ c) = true := decide_eq_true c1.1
    have e2 : decide (c < p) = true := decide_eq_true c1.2
    simp only [b_check_terms_1, wRaise, wTry, wXVal, wXIs, wXIsV, wCallX, fMulS, wSeq, wLRg1, wLRg2, wRngB, mExtend, wSetIxN, wBoxN, fNotInN, fGetN, wForEn, wSealQ, wPopD, wRep, wAug, wAsg, wSkip, wIf, wRet, wRetN, wDrop, wB, wTru, wBin, wUn, wApp, wAppF, wVal, wBox, wVar, wC, wFrz, wCons, wNil, wLst, wTup, wPar2, wPar3, wSetIx, wSetFld, wMu, wAnd, wOr, wNot, wAndV, wOrV, wNotV, wIte, wChain, wGet2, wFld, wProp, wMeth, wMethK, wCall, wCallK, wMakeK, wSeal, wOwn, wDisp, wPs, wDnK, wSortIt, wRev, wSlc, wONo, wOYes, wFor, wForLk, wIter, wRng1, wRng2, wEnum, wLc, wLcLk, wDc, wDcLk, wSetV, wSetB, wNo, wNoE, wYes, fAdd, fSub, fMul, fDiv, fMod, fPow, fLt, fLe, fGt, fGe, fNeg, fIsN, fNotN, isN, fInt, fAbs, fGet, fIx, bindG, Ob.toD, env0, List.map_cons, List.map_nil, List.cons_append, List.nil_append, List.append_nil, List.length_cons, List.length_nil, List.replicate_succ, List.replicate_zero, List.replicate, List.getElem?_cons_zero, List.getElem?_cons_succ, List.set_cons_zero, List.set_cons_succ, Option.some.injEq, exists_eq_left', exists_eq_left, D.int.injEq, D.bl.injEq, D.obj.injEq, keyD, keysD, fSet, mAppend, mInsert, mPop, mReverse, mClear, WS.put_same, dkD, lookD, truD, seqD, wipeD, List.set_nil, prD, e1, e2, Bool.not_true]
    refine inK_ints (ns := seen) (by simp only [view, WS.put_same]) ⟨_, rfl, ?_⟩
    rw [if_neg Bool.false_ne_true, decide_eq_false o1]
    refine ⟨⟨_, rfl⟩, sz_small (by rw [List.length_map]; omega), fin⟩
theorem law_check_terms (C : Addr) : ∀ ds W Q PX, sp_check_terms C ds W Q PX → ds.length = P_check_terms.length ∧ w_check_terms C PX { nx := fun _ W' => Q .non W', rt := Q } (env0 N_check_terms ds) W := by
  rintro ds W Q PX ⟨p, ts, rfl, hk, h⟩
  refine ⟨rfl, ?_⟩
  generalize hB : b_check_terms_1 C = Bd
  simp only [w_check_terms, N_check_terms, wRaise, wTry, wXVal, wXIs, wXIsV, wCallX, fMulS, wSeq, wLRg1, wLRg2, wRngB, mExtend, wSetIxN, wBoxN, fNotInN, fGetN, wForEn, wSealQ, wPopD, wRep, wAug, wAsg, wSkip, wIf, wRet, wRetN, wDrop, wB, wTru, wBin, wUn, wApp, wAppF, wVal, wBox, wVar, wC, wFrz, wCons, wNil, wLst, wTup, wPar2, wPar3, wSetIx, wSetFld, wMu, wAnd, wOr, wNot, wAndV, wOrV, wNotV, wIte, wChain, wGet2, wFld, wProp, wMeth, wMethK, wCall, wCallK, wMakeK, wSeal, wOwn, wDisp, wPs, wDnK, wSortIt, wRev, wSlc, wONo, wOYes, wFor, wForLk, wIter, wRng1, wRng2, wEnum, wLc, wLcLk, wDc, wDcLk, wSetV, wSetB, wNo, wNoE, wYes, fAdd, fSub, fMul, fDiv, fMod, fPow, fLt, fLe, fGt, fGe, fNeg, fIsN, fNotN, isN, fInt, fAbs, fGet, fIx, bindG, Ob.toD, env0, List.map_cons, List.map_nil, List.cons_append, List.nil_append, List.append_nil, List.length_cons, List.length_nil, List.replicate_succ, List.replicate_zero, List.replicate, List.getElem?_cons_zero, List.getElem?_cons_succ, List.set_cons_zero, List.set_cons_succ, Option.some.injEq, exists_eq_left', exists_eq_left, D.int.injEq, D.bl.injEq, D.obj.injEq, keyD, keysD, fSet, mAppend, mInsert, mPop, mReverse, mClear, WS.put_same, dkD, lookD, truD, seqD, wipeD, List.set_nil, hB]
  refine ⟨by decide, eqK_rows (ps := ts) (qs := []) rfl rfl ⟨_, rfl, ?_⟩⟩
  rw [if_neg Bool.false_ne_true, decide_eq_false hk.ne]
  simp only [wRaise, wTry, wXVal, wXIs, wXIsV, wCallX, fMulS, wSeq, wLRg1, wLRg2, wRngB, mExtend, wSetIxN, wBoxN, fNotInN, fGetN, wForEn, wSealQ, wPopD, wRep, wAug, wAsg, wSkip, wIf, wRet, wRetN, wDrop, wB, wTru, wBin, wUn, wApp, wAppF, wVal, wBox, wVar, wC, wFrz, wCons, wNil, wLst, wTup, wPar2, wPar3, wSetIx, wSetFld, wMu, wAnd, wOr, wNot, wAndV, wOrV, wNotV, wIte, wChain, wGet2, wFld, wProp, wMeth, wMethK, wCall, wCallK, wMakeK, wSeal, wOwn, wDisp, wPs, wDnK, wSortIt, wRev, wSlc, wONo, wOYes, wFor, wForLk, wIter, wRng1, wRng2, wEnum, wLc, wLcLk, wDc, wDcLk, wSetV, wSetB, wNo, wNoE, wYes, fAdd, fSub, fMul, fDiv, fMod, fPow, fLt, fLe, fGt, fGe, fNeg, fIsN, fNotN, isN, fInt, fAbs, fGet, fIx, bindG, Ob.toD, env0, List.map_cons, List.map_nil, List.cons_append, List.nil_append, List.append_nil, List.length_cons, List.length_nil, List.replicate_succ, List.replicate_zero, List.replicate, List.getElem?_cons_zero, List.getElem?_cons_succ, List.set_cons_zero, List.set_cons_succ, Option.some.injEq, exists_eq_left', exists_eq_left, D.int.injEq, D.bl.injEq, D.obj.injEq, keyD, keysD, fSet, mAppend, mInsert, mPop, mReverse, mClear, WS.put_same, dkD, lookD, truD, seqD, wipeD, List.set_nil]
  refine ⟨by decide, fun b hb => ⟨_, rfl, ?_⟩⟩
  subst hB
  exact check_loop ts [] 0 _ _ _ hk.co hk.nd (fun _ _ z => nomatch z) (by have := hk.len; simp; omega) fun seen' _ _ _ => h _ (ExB.put (.inr hb))
end DL

set_option maxRecDepth 100000
set_option maxHeartbeats 4000000
set_option linter.all false
namespace DL
open PySem PySem.Spec PyProof.Rows L2
theorem s_mp : ¬ (("modulus" : Str) = "parts") := by decide +kernel
theorem s_mw : ¬ (("modulus" : Str) = "powers") := by decide +kernel
theorem s_ml : ¬ (("modulus" : Str) = "lowered") := by decide +kernel
theorem s_pw : ¬ (("parts" : Str) = "powers") := by decide +kernel
theorem s_pl : ¬ (("parts" : Str) = "lowered") := by decide +kernel
theorem s_wl : ¬ (("powers" : Str) = "lowered") := by decide +kernel
theorem s_pm : ¬ (("parts" : Str) = "modulus") := by decide +kernel
theorem s_wm : ¬ (("powers" : Str) = "modulus") := by decide +kernel
theorem s_wp : ¬ (("powers" : Str) = "parts") := by decide +kernel
theorem lookM {m : D} {r : List (Str × D)} : lookD "modulus" (("modulus", m) :: r) = some m := if_pos rfl
theorem lookP {m v : D} {r : List (Str × D)} : lookD "parts" (("modulus", m) :: ("parts", v) :: r) = some v := by
  show (if ("parts" : Str) = "modulus" then some m else if ("parts" : Str) = "parts" then some v else _) = some v
  rw [if_neg s_pm, if_pos rfl]
theorem lookW {m v u : D} {r : List (Str × D)} : lookD "powers" (("modulus", m) :: ("parts", v) :: ("powers", u) :: r) = some u := by
  show (if ("powers" : Str) = "modulus" then some m else if ("powers" : Str) = "parts" then some v else if ("powers" : Str) = "powers" then some u else _) = some u
  rw [if_neg s_wm, if_neg s_wp, if_pos rfl]
theorem putP {m v : D} : putD "parts" v [("modulus", m)] = ([("modulus", m), ("parts", v)] : List (Str × D)) := by
  simp only [putD, s_mp, if_false]
theorem putW {m v u : D} : putD "powers" u [("modulus", m), ("parts", v)] = ([("modulus", m), ("parts", v), ("powers", u)] : List (Str × D)) := by
  simp only [putD, s_mw, s_pw, if_false]
theorem putL {m v u z : D} : putD "lowered" z [("modulus", m), ("parts", v), ("powers", u)] = ([("modulus", m), ("parts", v), ("powers", u), ("lowered", z)] : List (Str × D)) := by
  simp only [putD, s_ml, s_pl, s_wl, if_false]
/-- [(y, x) for x, y in rows], from the i-th slot on -/
theorem lc_swap {env : DEnv} {i j : Nat} {W : WS} (hij : i ≠ j) (hi : i < env.length) (hj : j < env.length) : ∀ (rest acc : IP) (P : List D → WS → Prop), acc.length + rest.length < sizeLine → P ((acc ++ swapI rest).map prD) W →
    lcW (.tu (.tp (.nm i) (.tp (.nm j) .nl))) wYes (wTup (wCons (wVar j) (wCons (wVar i) wNil))) (rest.map prD) env W (acc.map prD) P
  | [], acc, P, _, h => by
    have : acc ++ swapI [] = acc := List.append_nil _
    rw [this] at h
    exact h
  | (x, y) :: r, acc, P, hl, h => by
    show bindG _ _ _ _
    rw [List.length_cons] at hl
    simp only [wRaise, wTry, wXVal, wXIs, wXIsV, wCallX, fMulS, wSeq, wLRg1, wLRg2, wRngB, mExtend, wSetIxN, wBoxN, fNotInN, fGetN, wForEn, wSealQ, wPopD, wRep, wAug, wAsg, wSkip, wIf, wRet, wRetN, wDrop, wB, wTru, wBin, wUn, wApp, wAppF, wVal, wBox, wVar, wC, wFrz, wCons, wNil, wLst, wTup, wPar2, wPar3, wSetIx, wSetFld, wMu, wAnd, wOr, wNot, wAndV, wOrV, wNotV, wIte, wChain, wGet2, wFld, wProp, wMeth, wMethK, wCall, wCallK, wMakeK, wSeal, wOwn, wDisp, wPs, wDnK, wSortIt, wRev, wSlc, wONo, wOYes, wFor, wForLk, wIter, wRng1, wRng2, wEnum, wLc, wLcLk, wDc, wDcLk, wSetV, wSetB, wNo, wNoE, wYes, fAdd, fSub, fMul, fDiv, fMod, fPow, fLt, fLe, fGt, fGe, fNeg, fIsN, fNotN, isN, fInt, fAbs, fGet, fIx, bindG, Ob.toD, env0, List.map_cons, List.map_nil, List.cons_append, List.nil_append, List.append_nil, List.length_cons, List.length_nil, List.replicate_succ, List.replicate_zero, List.replicate, List.getElem?_cons_zero, List.getElem?_cons_succ, List.set_cons_zero, List.set_cons_succ, Option.some.injEq, exists_eq_left', exists_eq_left, D.int.injEq, D.bl.injEq, D.obj.injEq, keyD, keysD, fSet, mAppend, mInsert, mPop, mReverse, mClear, WS.put_same, dkD, lookD, truD, seqD, wipeD, List.set_nil, prD]
    refine ⟨.int y, by rw [List.getElem?_set_self (by rw [List.length_set]; exact hj)], .int x, by rw [List.getElem?_set_ne (Ne.symm hij), List.getElem?_set_self hi], by decide, by rw [List.length_map]; omega, ?_⟩
    have := lc_swap (W := W) hij hi hj r (acc ++ [(y, x)]) P (by rw [List.length_append, List.length_singleton]; omega) (by rw [List.append_assoc]; exact h)
    rw [List.map_append] at this
    exact this
theorem swapI_swap (ps : IP) : swapI (swapI ps) = ps := by
  unfold swapI
  rw [List.map_map]
  exact List.map_id ps
theorem atI_last {α : Type} (L : List α) (x : α) : atI (L ++ [x]) (-1) = some x := by
  unfold atI ixN
  rw [if_neg (by decide), if_pos (by rw [List.length_append, List.length_singleton]; omega)]
  show (L ++ [x])[((-1 : Int) + ((L ++ [x]).length : Nat)).toNat]? = some x
  have e : ((-1 : Int) + ((L ++ [x]).length : Nat)).toNat = L.length := by rw [List.length_append, List.length_singleton]; omega
  rw [e]; simp
theorem plainI_vals {ps : IP} {p : Int} (hp : 0 < p) : ∀ q ∈ plainI ps p, 1 ≤ q.2 ∧ q.2 < p := by
  intro q hq
  obtain ⟨z, hz, rfl⟩ := List.mem_map.mp hq
  have h1 := (List.mem_filter.mp hz).2
  have h2 : z.2 % p ≠ 0 := by simpa using h1
  have h3 := Int.emod_nonneg z.2 (show p ≠ 0 by omega)
  have h4 := Int.emod_lt_of_pos z.2 hp
  exact ⟨by show 1 ≤ z.2 % p; omega, h4⟩
theorem plainI_len (ps : IP) (p : Int) : (plainI ps p).length ≤ ps.length := by
  unfold plainI
  rw [List.length_map]
  exact List.length_filter_le _ _
theorem parts_of {p : Int} {ts qs : IP} (hk : Kind p ts) (hp : qs.Perm (swapI ts)) (hs : qs.Pairwise lexLe) : Parts p qs := by
  have hm : ∀ q ∈ qs, (q.2, q.1) ∈ ts := fun q hq => by
    obtain ⟨z, hz, e⟩ := List.mem_map.mp (hp.mem_iff.mp hq)
    rw [← e]; exact hz
  have nd : (qs.map (·.1)).Nodup := by
    have e : (swapI ts).map (·.1) = ts.map (·.2) := by unfold swapI; rw [List.map_map]; rfl
    rw [(hp.map (·.1)).nodup_iff, e]
    exact hk.nd
  refine ⟨hk.pr, ?_, by rw [hp.length_eq]; unfold swapI; rw [List.length_map]; exact hk.len, fun q hq => hk.co _ (hm q hq), fun q hq => hk.bd _ (hm q hq), fun e => ?_⟩
  · have h2 : qs.Pairwise fun a b => a.1 ≠ b.1 := by
      have := nd
      unfold List.Nodup at this
      rwa [List.pairwise_map] at this
    exact List.Pairwise.imp (fun {a b} (z : lexLe a b ∧ a.1 ≠ b.1) => by
      obtain ⟨h, h'⟩ := z
      unfold lexLe at h
      omega) (List.Pairwise.and hs h2)
  · have := hp.length_eq
    rw [e] at this
    unfold swapI at this
    rw [List.length_map] at this
    exact hk.ne (List.eq_nil_of_length_eq_zero this.symm)
theorem Asc.nodup {ps : IP} (h : Asc ps) : (ps.map (·.1)).Nodup := by
  unfold List.Nodup
  rw [List.pairwise_map]
  exact List.Pairwise.imp (R := fun p q : Int × Int => p.1 < q.1) (fun {a b} (z : a.1 < b.1) => by omega) h
theorem mergeI_asc {ps : IP} (h : Asc ps) : mergeI [] ps = ps := mergeI_nil h.nodup
theorem fGet_lst {W : WS} {d x : D} {ds : List D} {i : Int} {P : D → Prop} (hv : view W d = .lst ds) (h : atI ds i = some x) (p : P x) : fGet d (.int i) W P := by
  unfold fGet
  rw [hv]
  show fIx d (.int i) W P
  unfold fIx
  rw [hv]
  exact ⟨x, h, p⟩
theorem fGet_tup {W : WS} {d x : D} {ds : List D} {i : Int} {P : D → Prop} (hv : view W d = .tup ds) (h : atI ds i = some x) (p : P x) : fGet d (.int i) W P := by
  unfold fGet
  rw [hv]
  show fIx d (.int i) W P
  unfold fIx
  rw [hv]
  exact ⟨x, h, p⟩
theorem fDict_ptup {W : WS} {qs : IP} {P : Ob → Prop} (p : P (.dK (mkI (mergeI [] qs)))) : fDict [.ptup (qs.map prD)] W P := by
  refine ⟨mkI qs, pairsK_mk qs, ?_⟩
  rw [show mergeD [] (mkI qs) = mkI (mergeI [] qs) from mergeD_mk qs []]
  exact p
theorem fDict_lst {W : WS} {d : D} {qs : IP} {P : Ob → Prop} (hv : view W d = .lst (qs.map prD)) (p : P (.dK (mkI (mergeI [] qs)))) : fDict [d] W P := by
  unfold fDict
  simp only [hv]
  refine ⟨mkI qs, pairsK_mk qs, ?_⟩
  rw [show mergeD [] (mkI qs) = mkI (mergeI [] qs) from mergeD_mk qs []]
  exact p
theorem view_ob {W : WS} {a : Addr} {ob : Ob} (h : W a = some ob) : view W (.obj a) = ob.toD := by
  show (match W a with | some ob => ob.toD | none => .obj a) = _
  rw [h]
theorem powI_vals {p : Int} {qs : IP} (h0 : 0 < p) (h5 : p ≤ 5) : ∀ k, ∀ q ∈ powI p qs k, q.2.natAbs < 2 ^ 60
  | 0, q, h => by rw [show powI p qs 0 = [(0, 1)] from rfl, List.mem_singleton] at h; subst h; decide
  | k + 1, q, h => by have := plainI_vals h0 q h; omega
theorem pwL_len (p : Int) (qs : IP) (n : Nat) : (pwL p qs n).length = n := by
  unfold pwL
  rw [List.length_map, List.length_range]
theorem powers_loop {C a pw : Addr} {p : Int} {qs : IP} {d2 d4 d5 : Option D} {PX : XP} {P : WEnds} (hq : Parts p qs) (hap : a ≠ pw) (fs : List (Str × D)) (hf1 : lookD "powers" fs = some (.obj pw)) (hf2 : lookD "parts" fs = some (.ptup (qs.map prD))) :
    ∀ (nn : Nat) (lo : Int) (k : Nat) (x3 : Option D) (W : WS), (powI p qs k).length ≤ 8 ^ (5 - nn) → nn ≤ 4 → k + nn ≤ 90 → W a = some (.ins C fs) → W pw = some (.lst (pwL p qs (k + 1))) →
    (∀ x3 W', W' a = some (.ins C fs) → W' pw = some (.lst (pwL p qs (k + 1 + nn))) → ExB [a, pw] W W' → P.nx [some (.obj a), some (.int p), d2, x3, d4, d5] W') →
    forW (.nm 3) (b_Rule_init_1 C) PX P (rngD lo nn) [some (.obj a), some (.int p), d2, x3, d4, d5] W
  | 0, lo, k, x3, W, _, _, _, ha, hw, K => K x3 W ha hw ExB.refl
  | nn + 1, lo, k, x3, W, hR, hn, hk, ha, hw, K => by
    rw [rngD_succ]
    have hp0 : 0 < p := by rcases hq.pr with h | h | h <;> omega
    have hp5 : p ≤ 5 := by rcases hq.pr with h | h | h <;> omega
    have ih := powers_loop (C := C) (a := a) (pw := pw) (p := p) (d2 := d2) (d4 := d4) (d5 := d5) (PX := PX) (P := P) hq hap fs hf1 hf2 nn (lo + 1)
    show bindG _ _ _ _
    generalize hK : forW (.nm 3) (b_Rule_init_1 C) PX P (rngD (lo + 1) nn) = Kf
    simp only [hK] at ih
    simp only [b_Rule_init_1, wRaise, wTry, wXVal, wXIs, wXIsV, wCallX, fMulS, wSeq, wLRg1, wLRg2, wRngB, mExtend, wSetIxN, wBoxN, fNotInN, fGetN, wForEn, wSealQ, wPopD, wRep, wAug, wAsg, wSkip, wIf, wRet, wRetN, wDrop, wB, wTru, wBin, wUn, wApp, wAppF, wVal, wBox, wVar, wC, wFrz, wCons, wNil, wLst, wTup, wPar2, wPar3, wSetIx, wSetFld, wMu, wAnd, wOr, wNot, wAndV, wOrV, wNotV, wIte, wChain, wGet2, wFld, wProp, wMeth, wMethK, wCall, wCallK, wMakeK, wSeal, wOwn, wDisp, wPs, wDnK, wSortIt, wRev, wSlc, wONo, wOYes, wFor, wForLk, wIter, wRng1, wRng2, wEnum, wLc, wLcLk, wDc, wDcLk, wSetV, wSetB, wNo, wNoE, wYes, fAdd, fSub, fMul, fDiv, fMod, fPow, fLt, fLe, fGt, fGe, fNeg, fIsN, fNotN, isN, fInt, fAbs, bindG, Ob.toD, env0, List.map_cons, List.map_nil, List.cons_append, List.nil_append, List.append_nil, List.length_cons, List.length_nil, List.replicate_succ, List.replicate_zero, List.replicate, List.getElem?_cons_zero, List.getElem?_cons_succ, List.set_cons_zero, List.set_cons_succ, Option.some.injEq, exists_eq_left', exists_eq_left, D.int.injEq, D.bl.injEq, D.obj.injEq, keyD, keysD, fSet, mAppend, mInsert, mPop, mReverse, mClear, WS.put_same, dkD, lookD, truD, seqD, wipeD, List.set_nil]
    refine ⟨fs, view_ob ha, _, hf1, pw, rfl, ⟨_, hw⟩, fs, view_ob ha, _, hf1, ?_⟩
    refine fGet_lst (view_ob hw) (by rw [pwL_succ]; exact atI_last _ _) ⟨fs, view_ob ha, _, hf2, fDict_ptup ?_⟩
    rw [mergeI_asc hq.asc]
    have h8 : (8 : Nat) ^ (5 - nn) = 8 ^ (5 - (nn + 1)) * 8 := by
      have : 5 - nn = (5 - (nn + 1)) + 1 := by omega
      rw [this, Nat.pow_succ]
    have hm : (powI p qs k).length * qs.length ≤ 8 ^ (5 - nn) := by
      rw [h8]
      exact Nat.mul_le_mul hR hq.len
    have h8' : (8 : Nat) ^ (5 - nn) ≤ 8 ^ 5 := Nat.pow_le_pow_right (by decide) (by omega)
    have h85 : (8 : Nat) ^ 5 = 32768 := by decide
    refine ⟨powI p qs k, qs, p, rfl, hp0, by omega, powI_vals hp0 hp5 k, fun q hq' => by have := hq.co q hq'; omega, fun W' e => ?_⟩
    have hpw' := e pw _ (by simp) hw
    have ha' := e a _ (by simp) ha
    refine ⟨_, hpw', sz_small (by rw [pwL_len]; omega), ?_⟩
    have ml := mulI_len (powI p qs k) qs
    have pl := plainI_len (mulI (powI p qs k) qs) p
    have e2 : pwL p qs (k + 1) ++ [.dK (mkI (plainI (mulI (powI p qs k) qs) p))] = pwL p qs (k + 1 + 1) := (pwL_succ p qs (k + 1)).symm
    rw [e2]
    refine ih (k + 1) _ _ (by show (plainI (mulI (powI p qs k) qs) p).length ≤ _; omega) (by omega) (by omega) (by rw [WS.put_ne hap]; exact ha') WS.put_same fun x3 W2 q1 q2 q3 => K x3 W2 q1 (by rw [show k + 1 + (nn + 1) = k + 1 + 1 + nn by omega]; exact q2) ?_
    exact ((e.mono (by simp)).trans (ExB.put (.inl (by simp)))).trans q3
theorem law_Rule_init (C : Addr) : ∀ ds W Q PX, sp_Rule_init C ds W Q PX → ds.length = P_Rule_init.length ∧ w_Rule_init C PX { nx := fun _ W' => Q .non W', rt := Q } (env0 N_Rule_init ds) W := by
  rintro ds W Q PX ⟨a, p, ts, rfl, ha, hk, h⟩
  refine ⟨rfl, ?_⟩
  have hp0 : 2 ≤ p ∧ p ≤ 5 := by rcases hk.pr with h | h | h <;> omega
  have hin : p ∈ ([2, 3, 5] : List Int) := by rcases hk.pr with h | h | h <;> simp [h]
  generalize hB : b_Rule_init_1 C = Bd
  simp only [w_Rule_init, N_Rule_init, wRaise, wTry, wXVal, wXIs, wXIsV, wCallX, fMulS, wSeq, wLRg1, wLRg2, wRngB, mExtend, wSetIxN, wBoxN, fNotInN, fGetN, wForEn, wSealQ, wPopD, wRep, wAug, wAsg, wSkip, wIf, wRet, wRetN, wDrop, wB, wTru, wBin, wUn, wApp, wAppF, wVal, wBox, wVar, wC, wFrz, wCons, wNil, wLst, wTup, wPar2, wPar3, wSetIx, wSetFld, wMu, wAnd, wOr, wNot, wAndV, wOrV, wNotV, wIte, wChain, wGet2, wFld, wProp, wMeth, wMethK, wCall, wCallK, wMakeK, wSeal, wOwn, wDisp, wPs, wDnK, wSortIt, wRev, wSlc, wONo, wOYes, wFor, wForLk, wIter, wRng1, wRng2, wEnum, wLc, wLcLk, wDc, wDcLk, wSetV, wSetB, wNo, wNoE, wYes, fAdd, fSub, fMul, fDiv, fMod, fPow, fLt, fLe, fGt, fGe, fNeg, fIsN, fNotN, isN, fInt, fAbs, bindG, Ob.toD, env0, List.map_cons, List.map_nil, List.cons_append, List.nil_append, List.append_nil, List.length_cons, List.length_nil, List.replicate_succ, List.replicate_zero, List.replicate, List.getElem?_cons_zero, List.getElem?_cons_succ, List.set_cons_zero, List.set_cons_succ, Option.some.injEq, exists_eq_left', exists_eq_left, D.int.injEq, D.bl.injEq, D.obj.injEq, keyD, keysD, fSet, mAppend, mInsert, mPop, mReverse, mClear, WS.put_same, dkD, lookD, truD, seqD, wipeD, List.set_nil, hB]
  refine ⟨p, [2, 3, 5], rfl, rfl, _, rfl, ?_⟩
  rw [if_pos rfl, decide_eq_true hin]
  refine ⟨p, ts, rfl, hk, fun W1 e1 => ?_⟩
  have ha1 := e1 a _ (by simp) ha
  refine ⟨a, [], rfl, ha1, by decide, ?_⟩
  have hl : ts.length ≤ 8 := hk.len
  refine lc_swap (i := 4) (j := 5) (by decide) (by show 4 < 6; decide) (by show 5 < 6; decide) ts [] _ (sz_small (by simp; omega)) ?_
  refine (show _ ∨ _ from .inr ⟨_, swapI ts, rfl, by rw [List.nil_append]; exact pairsD_map _, fun qs hp hs => ?_⟩)
  have hq := parts_of hk hp hs
  simp only [fPTup, view]
  refine ⟨a, _, rfl, WS.put_same, by show 1 < 1000; decide, [(.inl 0, .int 1)], rfl, by decide, by decide, fun pw hpw => ?_⟩
  have hap : a ≠ pw := fun c => by subst c; rw [WS.put_same] at hpw; cases hpw
  refine ⟨a, _, rfl, by rw [WS.put_ne hap, WS.put_same], ?_⟩
  rw [show putD "modulus" (.int p) [] = ([("modulus", D.int p)] : List (Str × D)) from rfl, putP, putW]
  refine ⟨by show 2 < 1000; decide, ⟨by decide, by decide⟩, ⟨by omega, by omega⟩, ?_⟩
  subst hB
  have hpw1 : W1 pw = none := by
    rw [WS.put_ne (Ne.symm hap), WS.put_ne (Ne.symm hap)] at hpw
    exact hpw
  refine powers_loop (C := C) (a := a) (pw := pw) hq hap _ lookW lookP _ _ 0 _ _ (by show 0 < _; exact Nat.pow_pos (by decide)) (by omega) (by omega) WS.put_same (by rw [WS.put_ne (Ne.symm hap), WS.put_same]; rfl) fun x3 W2 ha2 hw2 e2 => ?_
  simp only [wRaise, wTry, wXVal, wXIs, wXIsV, wCallX, fMulS, wSeq, wLRg1, wLRg2, wRngB, mExtend, wSetIxN, wBoxN, fNotInN, fGetN, wForEn, wSealQ, wPopD, wRep, wAug, wAsg, wSkip, wIf, wRet, wRetN, wDrop, wB, wTru, wBin, wUn, wApp, wAppF, wVal, wBox, wVar, wC, wFrz, wCons, wNil, wLst, wTup, wPar2, wPar3, wSetIx, wSetFld, wMu, wAnd, wOr, wNot, wAndV, wOrV, wNotV, wIte, wChain, wGet2, wFld, wProp, wMeth, wMethK, wCall, wCallK, wMakeK, wSeal, wOwn, wDisp, wPs, wDnK, wSortIt, wRev, wSlc, wONo, wOYes, wFor, wForLk, wIter, wRng1, wRng2, wEnum, wLc, wLcLk, wDc, wDcLk, wSetV, wSetB, wNo, wNoE, wYes, fAdd, fSub, fMul, fDiv, fMod, fPow, fLt, fLe, fGt, fGe, fNeg, fIsN, fNotN, isN, fInt, fAbs, bindG, Ob.toD, env0, List.map_cons, List.map_nil, List.cons_append, List.nil_append, List.append_nil, List.length_cons, List.length_nil, List.replicate_succ, List.replicate_zero, List.replicate, List.getElem?_cons_zero, List.getElem?_cons_succ, List.set_cons_zero, List.set_cons_succ, Option.some.injEq, exists_eq_left', exists_eq_left, D.int.injEq, D.bl.injEq, D.obj.injEq, keyD, keysD, fSet, mAppend, mInsert, mPop, mReverse, mClear, WS.put_same, dkD, lookD, truD, seqD, wipeD, List.set_nil]
  intro lo hlo
  have hal : a ≠ lo := fun c => by subst c; rw [ha2] at hlo; cases hlo
  refine ⟨a, _, rfl, by rw [WS.put_ne hal]; exact ha2, by show 3 < 1000; decide, ?_⟩
  rw [putL]
  have hwl : pw ≠ lo := fun c => by subst c; rw [hw2] at hlo; cases hlo
  refine h qs _ hp hq ?_ ⟨⟨pw, lo, WS.put_same, ?_⟩⟩
  rotate_left
  · rw [WS.put_ne (Ne.symm hap), WS.put_ne hwl, hw2]
    have : 0 + 1 + (p - 1).toNat = p.toNat := by omega
    first | rw [this] | (refine congrArg (fun n => some (Ob.lst (pwL p qs n))) ?_; omega)
  intro b ob hb eb
  have hba : b ≠ a := fun c => hb (by rw [c]; exact List.mem_cons_self)
  have e1b := e1 b ob (by simp) eb
  have hbp : b ≠ pw := fun c => by subst c; rw [hpw1] at e1b; cases e1b
  have hbl : b ≠ lo := fun c => by
    subst c
    have := e2 b ob (by simp [hba, hbp]) (by rw [WS.put_ne hba, WS.put_ne hbp, WS.put_ne hba, WS.put_ne hba]; exact e1b)
    rw [hlo] at this
    cases this
  rw [WS.put_ne hba, WS.put_ne hbl]
  exact e2 b ob (by simp [hba, hbp]) (by rw [WS.put_ne hba, WS.put_ne hbp, WS.put_ne hba, WS.put_ne hba]; exact e1b)
end DL

set_option maxRecDepth 100000
set_option maxHeartbeats 4000000
set_option linter.all false
namespace DL
open PySem PySem.Spec PyProof.Rows L2
theorem law_Rule_prime (C : Addr) : ∀ ds W Q PX, sp_Rule_prime C ds W Q PX → ds.length = P_Rule_prime.length ∧ w_Rule_prime C PX { nx := fun _ W' => Q .non W', rt := Q } (env0 N_Rule_prime ds) W := by
  rintro ds W Q PX ⟨a, p, ps, rfl, ⟨pw, lo, ha, hpw⟩, h⟩
  refine ⟨rfl, ?_⟩
  simp only [w_Rule_prime, N_Rule_prime, wRaise, wTry, wXVal, wXIs, wXIsV, wCallX, fMulS, wSeq, wLRg1, wLRg2, wRngB, mExtend, wSetIxN, wBoxN, fNotInN, fGetN, wForEn, wSealQ, wPopD, wRep, wAug, wAsg, wSkip, wIf, wRet, wRetN, wDrop, wB, wTru, wBin, wUn, wApp, wAppF, wVal, wBox, wVar, wC, wFrz, wCons, wNil, wLst, wTup, wPar2, wPar3, wSetIx, wSetFld, wMu, wAnd, wOr, wNot, wAndV, wOrV, wNotV, wIte, wChain, wGet2, wFld, wProp, wMeth, wMethK, wCall, wCallK, wMakeK, wSeal, wOwn, wDisp, wPs, wDnK, wSortIt, wRev, wSlc, wONo, wOYes, wFor, wForLk, wIter, wRng1, wRng2, wEnum, wLc, wLcLk, wDc, wDcLk, wSetV, wSetB, wNo, wNoE, wYes, fAdd, fSub, fMul, fDiv, fMod, fPow, fLt, fLe, fGt, fGe, fNeg, fIsN, fNotN, isN, fInt, fAbs, bindG, Ob.toD, env0, List.map_cons, List.map_nil, List.cons_append, List.nil_append, List.append_nil, List.length_cons, List.length_nil, List.replicate_succ, List.replicate_zero, List.replicate, List.getElem?_cons_zero, List.getElem?_cons_succ, List.set_cons_zero, List.set_cons_succ, Option.some.injEq, exists_eq_left', exists_eq_left, D.int.injEq, D.bl.injEq, D.obj.injEq, keyD, keysD, fSet, mAppend, mInsert, mPop, mReverse, mClear, WS.put_same, dkD, lookD, truD, seqD, wipeD, List.set_nil]
  exact ⟨_, view_ob ha, _, lookM, h⟩
theorem lc_neg {env : DEnv} {i j : Nat} {W : WS} (hij : i ≠ j) (hi : i < env.length) (hj : j < env.length) : ∀ (rest acc : IP) (P : List D → WS → Prop), acc.length + rest.length < sizeLine → P ((acc ++ swapI (negI rest)).map prD) W →
    lcW (.tu (.tp (.nm i) (.tp (.nm j) .nl))) wYes (wTup (wCons (wVar j) (wCons (wUn fNeg (wVar i)) wNil))) (rest.map prD) env W (acc.map prD) P
  | [], acc, P, _, h => by
    have : acc ++ swapI (negI []) = acc := List.append_nil _
    rw [this] at h
    exact h
  | (x, y) :: r, acc, P, hl, h => by
    show bindG _ _ _ _
    rw [List.length_cons] at hl
    simp only [wRaise, wTry, wXVal, wXIs, wXIsV, wCallX, fMulS, wSeq, wLRg1, wLRg2, wRngB, mExtend, wSetIxN, wBoxN, fNotInN, fGetN, wForEn, wSealQ, wPopD, wRep, wAug, wAsg, wSkip, wIf, wRet, wRetN, wDrop, wB, wTru, wBin, wUn, wApp, wAppF, wVal, wBox, wVar, wC, wFrz, wCons, wNil, wLst, wTup, wPar2, wPar3, wSetIx, wSetFld, wMu, wAnd, wOr, wNot, wAndV, wOrV, wNotV, wIte, wChain, wGet2, wFld, wProp, wMeth, wMethK, wCall, wCallK, wMakeK, wSeal, wOwn, wDisp, wPs, wDnK, wSortIt, wRev, wSlc, wONo, wOYes, wFor, wForLk, wIter, wRng1, wRng2, wEnum, wLc, wLcLk, wDc, wDcLk, wSetV, wSetB, wNo, wNoE, wYes, fAdd, fSub, fMul, fDiv, fMod, fPow, fLt, fLe, fGt, fGe, fNeg, fIsN, fNotN, isN, fInt, fAbs, fGet, fIx, bindG, Ob.toD, env0, List.map_cons, List.map_nil, List.cons_append, List.nil_append, List.append_nil, List.length_cons, List.length_nil, List.replicate_succ, List.replicate_zero, List.replicate, List.getElem?_cons_zero, List.getElem?_cons_succ, List.set_cons_zero, List.set_cons_succ, Option.some.injEq, exists_eq_left', exists_eq_left, D.int.injEq, D.bl.injEq, D.obj.injEq, keyD, keysD, fSet, mAppend, mInsert, mPop, mReverse, mClear, WS.put_same, dkD, lookD, truD, seqD, wipeD, List.set_nil, prD]
    refine ⟨.int y, by rw [List.getElem?_set_self (by rw [List.length_set]; exact hj)], .int x, by rw [List.getElem?_set_ne (Ne.symm hij), List.getElem?_set_self hi], by decide, by rw [List.length_map]; omega, ?_⟩
    have := lc_neg (W := W) hij hi hj r (acc ++ [(y, -x)]) P (by rw [List.length_append, List.length_singleton]; omega) (by rw [List.append_assoc]; exact h)
    rw [List.map_append] at this
    exact this
/-- a list that ascends is the only one of its things that does -/
theorem asc_uniq : ∀ {ps qs : IP}, Asc ps → Asc qs → ps.Perm qs → ps = qs := fun {ps qs} h1 h2 hp => by
  refine List.Perm.eq_of_pairwise (le := fun a b : Int × Int => a.1 < b.1) ?_ h1 h2 hp
  intro a b _ _ h h'
  omega
theorem neg_parts {p : Int} {ps : IP} (h : Parts p ps) : Kind p (swapI (negI ps)) ∧ Asc (negI ps).reverse := by
  refine ⟨⟨h.pr, ?_, ?_, ?_, ?_, ?_⟩, ?_⟩
  · intro e
    have : (swapI (negI ps)).length = ps.length := by unfold swapI negI; rw [List.length_map, List.length_map]
    rw [e] at this
    exact h.ne (List.eq_nil_of_length_eq_zero this.symm)
  · unfold swapI negI; rw [List.length_map, List.length_map]; exact h.len
  · intro q hq
    obtain ⟨z, hz, rfl⟩ := List.mem_map.mp hq
    obtain ⟨y, hy, rfl⟩ := List.mem_map.mp hz
    exact h.co y hy
  · have e : (swapI (negI ps)).map (·.2) = (ps.map (·.1)).map (fun x => -x) := by
      unfold swapI negI
      rw [List.map_map, List.map_map, List.map_map]; rfl
    rw [e]
    have := h.asc.nodup
    unfold List.Nodup at this ⊢
    rw [List.pairwise_map]
    exact List.Pairwise.imp (fun {a b} (z : a ≠ b) => by omega) this
  · intro q hq
    obtain ⟨z, hz, rfl⟩ := List.mem_map.mp hq
    obtain ⟨y, hy, rfl⟩ := List.mem_map.mp hz
    have := h.bd y hy
    show -100 ≤ -y.1 ∧ -y.1 ≤ 100
    omega
  · unfold Asc negI
    rw [List.pairwise_reverse, List.pairwise_map]
    exact List.Pairwise.imp (R := fun a b : Int × Int => a.1 < b.1) (fun {a b} (z : a.1 < b.1) => by show -b.1 < -a.1; omega) h.asc
theorem law__law_made (C : Addr) : ∀ ds W Q PX, sp__law_made C ds W Q PX → ds.length = P__law_made.length ∧ w__law_made C PX { nx := fun _ W' => Q .non W', rt := Q } (env0 N__law_made ds) W := by
  rintro ds W Q PX ⟨p, ts, rfl, hk, h⟩
  refine ⟨rfl, ?_⟩
  simp only [w__law_made, N__law_made, wRaise, wTry, wXVal, wXIs, wXIsV, wCallX, fMulS, wSeq, wLRg1, wLRg2, wRngB, mExtend, wSetIxN, wBoxN, fNotInN, fGetN, wForEn, wSealQ, wPopD, wRep, wAug, wAsg, wSkip, wIf, wRet, wRetN, wDrop, wB, wTru, wBin, wUn, wApp, wAppF, wVal, wBox, wVar, wC, wFrz, wCons, wNil, wLst, wTup, wPar2, wPar3, wSetIx, wSetFld, wMu, wAnd, wOr, wNot, wAndV, wOrV, wNotV, wIte, wChain, wGet2, wFld, wProp, wMeth, wMethK, wCall, wCallK, wMakeK, wSeal, wOwn, wDisp, wPs, wDnK, wSortIt, wRev, wSlc, wONo, wOYes, wFor, wForLk, wIter, wRng1, wRng2, wEnum, wLc, wLcLk, wDc, wDcLk, wSetV, wSetB, wNo, wNoE, wYes, fAdd, fSub, fMul, fDiv, fMod, fPow, fLt, fLe, fGt, fGe, fNeg, fIsN, fNotN, isN, fInt, fAbs, bindG, Ob.toD, env0, List.map_cons, List.map_nil, List.cons_append, List.nil_append, List.append_nil, List.length_cons, List.length_nil, List.replicate_succ, List.replicate_zero, List.replicate, List.getElem?_cons_zero, List.getElem?_cons_succ, List.set_cons_zero, List.set_cons_succ, Option.some.injEq, exists_eq_left', exists_eq_left, D.int.injEq, D.bl.injEq, D.obj.injEq, keyD, keysD, fSet, mAppend, mInsert, mPop, mReverse, mClear, WS.put_same, dkD, lookD, truD, seqD, wipeD, List.set_nil]
  refine fGet_tup rfl (x := .int p) rfl (fGet_tup rfl (x := .lst (ts.map prD)) rfl ?_)
  refine (show _ ∧ _ ∧ _ from ⟨trivial, trivial, fun b hb => ⟨b, p, ts, rfl, WS.put_same, hk, fun qs W' hperm hq e hr => ⟨rfl, ?_⟩⟩⟩)
  refine h b qs W' hb hperm hq (fun c ob _ ec => ?_) hr
  have hcb : c ≠ b := fun z => by subst z; rw [hb] at ec; cases ec
  exact e c ob (by simpa using hcb) (by rw [WS.put_ne hcb]; exact ec)
theorem view_stays {W : WS} {d : D} {ds : List D} (h : view W d = .lst ds) : (lstD d = some ds ∨ ∃ a, d = .obj a ∧ W a = some (.lst ds)) ∧ stays d ds W := by
  cases d with
  | lst es => cases h; exact ⟨.inl rfl, trivial⟩
  | klst es => cases h; exact ⟨.inl rfl, trivial⟩
  | obj a =>
    have h' : (match W a with | some ob => ob.toD | none => .obj a) = D.lst ds := h
    cases e : W a with
    | none => rw [e] at h'; cases h'
    | some ob => cases ob with
      | lst es => rw [e] at h'; cases h'; exact ⟨.inr ⟨a, rfl, e⟩, e⟩
      | _ => rw [e] at h'; cases h'
  | _ => cases h
theorem row_loop {C a : Addr} {p : Int} {fs : List (Str × D)} {d1 : D} {W : WS} {P : WEnds} {PX : XP} {φ : WS → Prop} (ha : W a = some (.ins C fs)) (hm : lookD "modulus" fs = some (.int p)) (hφ : φ W) : ∀ (rest : IP) (n : Nat) (before : D) (x3 x4 x5 : Option D), Vl p rest → Asc rest → (before = .non ∨ ∃ i, before = .int i ∧ ∀ q ∈ rest, i < q.1) →
    (∀ before x3 x4 x5, P.nx [some (.obj a), some d1, some before, x3, x4, x5] W) →
    forO φ (.tu (.tp (.nm 3) (.tp (.tu (.tp (.nm 4) (.tp (.nm 5) .nl))) .nl))) (b_check_row_1 C) PX P (enumD n (rest.map prD)) [some (.obj a), some d1, some before, x3, x4, x5] W
  | [], n, before, x3, x4, x5, _, _, _, k => ⟨hφ, k before x3 x4 x5⟩
  | (x, v) :: r, n, before, x3, x4, x5, hv, hs, hb, k => by
    have ih := row_loop (C := C) (a := a) (p := p) (fs := fs) (d1 := d1) (W := W) (P := P) (PX := PX) ha hm hφ r
    refine ⟨hφ, ?_⟩
    show bindG _ _ _ _
    generalize hK : forO φ (.tu (.tp (.nm 3) (.tp (.tu (.tp (.nm 4) (.tp (.nm 5) .nl))) .nl))) (b_check_row_1 C) PX P (enumD (n + 1) (r.map prD)) = Kf
    have ih' := ih (n + 1)
    simp only [hK] at ih'
    have v1 := hv (x, v) List.mem_cons_self
    have hs' := List.pairwise_cons.mp hs
    have e1 : decide (1 ≤ v) = true := decide_eq_true v1.1
    have e2 : decide (v < p) = true := decide_eq_true v1.2
    have fin : ∀ y3 y4 y5, Kf [some (.obj a), some d1, some (.int x), y3, y4, y5] W := fun y3 y4 y5 => ih' _ _ _ _ (fun q hq => hv q (List.mem_cons_of_mem _ hq)) hs'.2 (.inr ⟨x, rfl, fun q hq => hs'.1 q hq⟩) k
    simp only [b_check_row_1, wRaise, wTry, wXVal, wXIs, wXIsV, wCallX, fMulS, wSeq, wLRg1, wLRg2, wRngB, mExtend, wSetIxN, wBoxN, fNotInN, fGetN, wForEn, wSealQ, wPopD, wRep, wAug, wAsg, wSkip, wIf, wRet, wRetN, wDrop, wB, wTru, wBin, wUn, wApp, wAppF, wVal, wBox, wVar, wC, wFrz, wCons, wNil, wLst, wTup, wPar2, wPar3, wSetIx, wSetFld, wMu, wAnd, wOr, wNot, wAndV, wOrV, wNotV, wIte, wChain, wGet2, wFld, wProp, wMeth, wMethK, wCall, wCallK, wMakeK, wSeal, wOwn, wDisp, wPs, wDnK, wSortIt, wRev, wSlc, wONo, wOYes, wFor, wForLk, wIter, wRng1, wRng2, wEnum, wLc, wLcLk, wDc, wDcLk, wSetV, wSetB, wNo, wNoE, wYes, fAdd, fSub, fMul, fDiv, fMod, fPow, fLt, fLe, fGt, fGe, fNeg, fIsN, fNotN, isN, fInt, fAbs, bindG, Ob.toD, env0, List.map_cons, List.map_nil, List.cons_append, List.nil_append, List.append_nil, List.length_cons, List.length_nil, List.replicate_succ, List.replicate_zero, List.replicate, List.getElem?_cons_zero, List.getElem?_cons_succ, List.set_cons_zero, List.set_cons_succ, Option.some.injEq, exists_eq_left', exists_eq_left, D.int.injEq, D.bl.injEq, D.obj.injEq, keyD, keysD, fSet, mAppend, mInsert, mPop, mReverse, mClear, WS.put_same, dkD, lookD, truD, seqD, wipeD, List.set_nil, prD, e1]
    refine ⟨fs, view_ob ha, .int p, hm, ?_⟩
    simp only [wRaise, wTry, wXVal, wXIs, wXIsV, wCallX, fMulS, wSeq, wLRg1, wLRg2, wRngB, mExtend, wSetIxN, wBoxN, fNotInN, fGetN, wForEn, wSealQ, wPopD, wRep, wAug, wAsg, wSkip, wIf, wRet, wRetN, wDrop, wB, wTru, wBin, wUn, wApp, wAppF, wVal, wBox, wVar, wC, wFrz, wCons, wNil, wLst, wTup, wPar2, wPar3, wSetIx, wSetFld, wMu, wAnd, wOr, wNot, wAndV, wOrV, wNotV, wIte, wChain, wGet2, wFld, wProp, wMeth, wMethK, wCall, wCallK, wMakeK, wSeal, wOwn, wDisp, wPs, wDnK, wSortIt, wRev, wSlc, wONo, wOYes, wFor, wForLk, wIter, wRng1, wRng2, wEnum, wLc, wLcLk, wDc, wDcLk, wSetV, wSetB, wNo, wNoE, wYes, fAdd, fSub, fMul, fDiv, fMod, fPow, fLt, fLe, fGt, fGe, fNeg, fIsN, fNotN, isN, fInt, fAbs, bindG, Ob.toD, env0, List.map_cons, List.map_nil, List.cons_append, List.nil_append, List.append_nil, List.length_cons, List.length_nil, List.replicate_succ, List.replicate_zero, List.replicate, List.getElem?_cons_zero, List.getElem?_cons_succ, List.set_cons_zero, List.set_cons_succ, Option.some.injEq, exists_eq_left', exists_eq_left, D.int.injEq, D.bl.injEq, D.obj.injEq, keyD, keysD, fSet, mAppend, mInsert, mPop, mReverse, mClear, WS.put_same, dkD, lookD, truD, seqD, wipeD, List.set_nil, e2, Bool.not_true]
    rcases hb with rfl | ⟨i, rfl, hi⟩
    · exact ⟨trivial, fin _ _ _⟩
    · have e3 : decide (x ≤ i) = false := decide_eq_false (by have := hi (x, v) List.mem_cons_self; show ¬ x ≤ i; have t : i < x := this; omega)
      simp only [wRaise, wTry, wXVal, wXIs, wXIsV, wCallX, fMulS, wSeq, wLRg1, wLRg2, wRngB, mExtend, wSetIxN, wBoxN, fNotInN, fGetN, wForEn, wSealQ, wPopD, wRep, wAug, wAsg, wSkip, wIf, wRet, wRetN, wDrop, wB, wTru, wBin, wUn, wApp, wAppF, wVal, wBox, wVar, wC, wFrz, wCons, wNil, wLst, wTup, wPar2, wPar3, wSetIx, wSetFld, wMu, wAnd, wOr, wNot, wAndV, wOrV, wNotV, wIte, wChain, wGet2, wFld, wProp, wMeth, wMethK, wCall, wCallK, wMakeK, wSeal, wOwn, wDisp, wPs, wDnK, wSortIt, wRev, wSlc, wONo, wOYes, wFor, wForLk, wIter, wRng1, wRng2, wEnum, wLc, wLcLk, wDc, wDcLk, wSetV, wSetB, wNo, wNoE, wYes, fAdd, fSub, fMul, fDiv, fMod, fPow, fLt, fLe, fGt, fGe, fNeg, fIsN, fNotN, isN, fInt, fAbs, bindG, Ob.toD, env0, List.map_cons, List.map_nil, List.cons_append, List.nil_append, List.append_nil, List.length_cons, List.length_nil, List.replicate_succ, List.replicate_zero, List.replicate, List.getElem?_cons_zero, List.getElem?_cons_succ, List.set_cons_zero, List.set_cons_succ, Option.some.injEq, exists_eq_left', exists_eq_left, D.int.injEq, D.bl.injEq, D.obj.injEq, keyD, keysD, fSet, mAppend, mInsert, mPop, mReverse, mClear, WS.put_same, dkD, lookD, truD, seqD, wipeD, List.set_nil, Bool.not_false, e3]
      exact ⟨trivial, fin _ _ _⟩
theorem law_check_row (C : Addr) : ∀ ds W Q PX, sp_check_row C ds W Q PX → ds.length = P_check_row.length ∧ w_check_row C PX { nx := fun _ W' => Q .non W', rt := Q } (env0 N_check_row ds) W := by
  rintro ds W Q PX ⟨a, p, ps, rs, d, rfl, hd, ⟨pw, lo, ha, hpw⟩, hs, hv, h⟩
  refine ⟨rfl, ?_⟩
  generalize hB : b_check_row_1 C = Bd
  simp only [w_check_row, N_check_row, wRaise, wTry, wXVal, wXIs, wXIsV, wCallX, fMulS, wSeq, wLRg1, wLRg2, wRngB, mExtend, wSetIxN, wBoxN, fNotInN, fGetN, wForEn, wSealQ, wPopD, wRep, wAug, wAsg, wSkip, wIf, wRet, wRetN, wDrop, wB, wTru, wBin, wUn, wApp, wAppF, wVal, wBox, wVar, wC, wFrz, wCons, wNil, wLst, wTup, wPar2, wPar3, wSetIx, wSetFld, wMu, wAnd, wOr, wNot, wAndV, wOrV, wNotV, wIte, wChain, wGet2, wFld, wProp, wMeth, wMethK, wCall, wCallK, wMakeK, wSeal, wOwn, wDisp, wPs, wDnK, wSortIt, wRev, wSlc, wONo, wOYes, wFor, wForLk, wIter, wRng1, wRng2, wEnum, wLc, wLcLk, wDc, wDcLk, wSetV, wSetB, wNo, wNoE, wYes, fAdd, fSub, fMul, fDiv, fMod, fPow, fLt, fLe, fGt, fGe, fNeg, fIsN, fNotN, isN, fInt, fAbs, bindG, Ob.toD, env0, List.map_cons, List.map_nil, List.cons_append, List.nil_append, List.append_nil, List.length_cons, List.length_nil, List.replicate_succ, List.replicate_zero, List.replicate, List.getElem?_cons_zero, List.getElem?_cons_succ, List.set_cons_zero, List.set_cons_succ, Option.some.injEq, exists_eq_left', exists_eq_left, D.int.injEq, D.bl.injEq, D.obj.injEq, keyD, keysD, fSet, mAppend, mInsert, mPop, mReverse, mClear, WS.put_same, dkD, lookD, truD, seqD, wipeD, List.set_nil, hB]
  have hst : (lstD d = some (rs.map prD) ∨ ∃ a, d = .obj a ∧ W a = some (.lst (rs.map prD))) ∧ stays d (rs.map prD) W := view_stays hd
  refine ⟨d, _, rfl, hst.1, ?_⟩
  subst hB
  exact row_loop ha lookM hst.2 rs 0 .non _ _ _ hv hs (.inl rfl) fun _ _ _ _ => h
theorem lookI_plain {ps : IP} {p : Int} (h : (ps.map (·.1)).Nodup) (x : Int) : lookI (plainI ps p) x = lookI ps x % p := by
  unfold lookI
  cases e : getI x ps with
  | none =>
    have : getI x (plainI ps p) = none := by
      rw [getI_none] at e ⊢
      intro c
      rw [plainI_keys] at c
      obtain ⟨q, hq, eq⟩ := List.mem_map.mp c
      exact e (List.mem_map.mpr ⟨q, (List.mem_filter.mp hq).1, eq⟩)
    rw [this]; simp
  | some v =>
    have hm := getI_some e
    show (getI x (plainI ps p)).getD 0 = v % p
    by_cases c : v % p = 0
    · have : getI x (plainI ps p) = none := by
        rw [getI_none, plainI_keys]
        intro z
        obtain ⟨q, hq, eq⟩ := List.mem_map.mp z
        obtain ⟨h1, h2⟩ := List.mem_filter.mp hq
        have := getI_mem h h1
        have eq' : q.1 = x := eq
        rw [eq', e] at this
        cases this
        simp [c] at h2
      rw [this, c]; rfl
    · have hm2 : (x, v % p) ∈ plainI ps p := List.mem_map.mpr ⟨(x, v), List.mem_filter.mpr ⟨hm, by simpa using c⟩, rfl⟩
      rw [getI_mem (plainI_nodup h) hm2]; rfl
theorem asc_of_perm {qs ps : IP} (h : (ps.map (·.1)).Nodup) (hp : qs.Perm ps) (hs : qs.Pairwise lexLe) : Asc qs := by
  have nd : (qs.map (·.1)).Nodup := by rw [(hp.map (·.1)).nodup_iff]; exact h
  have h2 : qs.Pairwise fun a b => a.1 ≠ b.1 := by
    unfold List.Nodup at nd
    rwa [List.pairwise_map] at nd
  exact List.Pairwise.imp (fun {a b} (z : lexLe a b ∧ a.1 ≠ b.1) => by
      obtain ⟨h, h'⟩ := z
      unfold lexLe at h
      omega) (List.Pairwise.and hs h2)
theorem getI_perm {ps qs : IP} (h : (ps.map (·.1)).Nodup) (hp : qs.Perm ps) (x : Int) : getI x qs = getI x ps := by
  have nd : (qs.map (·.1)).Nodup := by rw [(hp.map (·.1)).nodup_iff]; exact h
  cases e : getI x ps with
  | none =>
    rw [getI_none] at e ⊢
    exact fun c => e ((hp.map (·.1)).mem_iff.mp c)
  | some v => exact getI_mem nd (hp.mem_iff.mpr (getI_some e))
theorem lookI_perm {ps qs : IP} (h : (ps.map (·.1)).Nodup) (hp : qs.Perm ps) (x : Int) : lookI qs x = lookI ps x := by
  unfold lookI; rw [getI_perm h hp]
theorem law_Rule_next_row (C : Addr) : ∀ ds W Q PX, sp_Rule_next_row C ds W Q PX → ds.length = P_Rule_next_row.length ∧ w_Rule_next_row C PX { nx := fun _ W' => Q .non W', rt := Q } (env0 N_Rule_next_row ds) W := by
  rintro ds W Q PX ⟨a, p, ps, rs, d, rfl, hd, hr, hp, hs, hv, hl, h⟩
  refine ⟨rfl, ?_⟩
  obtain ⟨pw, lo, ha, hpw⟩ := id hr
  have hp0 : 2 ≤ p ∧ p ≤ 5 := by rcases hp.pr with h | h | h <;> omega
  simp only [w_Rule_next_row, N_Rule_next_row, wRaise, wTry, wXVal, wXIs, wXIsV, wCallX, fMulS, wSeq, wLRg1, wLRg2, wRngB, mExtend, wSetIxN, wBoxN, fNotInN, fGetN, wForEn, wSealQ, wPopD, wRep, wAug, wAsg, wSkip, wIf, wRet, wRetN, wDrop, wB, wTru, wBin, wUn, wApp, wAppF, wVal, wBox, wVar, wC, wFrz, wCons, wNil, wLst, wTup, wPar2, wPar3, wSetIx, wSetFld, wMu, wAnd, wOr, wNot, wAndV, wOrV, wNotV, wIte, wChain, wGet2, wFld, wProp, wMeth, wMethK, wCall, wCallK, wMakeK, wSeal, wOwn, wDisp, wPs, wDnK, wSortIt, wRev, wSlc, wONo, wOYes, wFor, wForLk, wIter, wRng1, wRng2, wEnum, wLc, wLcLk, wDc, wDcLk, wSetV, wSetB, wNo, wNoE, wYes, fAdd, fSub, fMul, fDiv, fMod, fPow, fLt, fLe, fGt, fGe, fNeg, fIsN, fNotN, isN, fInt, fAbs, bindG, Ob.toD, env0, List.map_cons, List.map_nil, List.cons_append, List.nil_append, List.append_nil, List.length_cons, List.length_nil, List.replicate_succ, List.replicate_zero, List.replicate, List.getElem?_cons_zero, List.getElem?_cons_succ, List.set_cons_zero, List.set_cons_succ, Option.some.injEq, exists_eq_left', exists_eq_left, D.int.injEq, D.bl.injEq, D.obj.injEq, keyD, keysD, fSet, mAppend, mInsert, mPop, mReverse, mClear, WS.put_same, dkD, lookD, truD, seqD, wipeD, List.set_nil]
  refine ⟨a, p, ps, rs, d, rfl, hd, hr, hs, hv, ?_⟩
  refine ⟨_, rs, rfl, .inl hd, _, view_ob ha, _, lookP, fDict_ptup ⟨_, view_ob ha, _, lookM, ?_⟩⟩
  rw [mergeI_asc hs, mergeI_asc hp.asc]
  refine ⟨rs, ps, p, rfl, by omega, ?_, fun q hq => by have := hv q hq; omega, fun q hq => by have := hp.co q hq; omega, fun W1 e1 => ?_⟩
  · have := Nat.mul_le_mul hl hp.len
    omega
  refine ⟨_, rfl, fun qs b hperm hsort hb => ?_⟩
  have nd := plainI_nodup (p := p) (mulI_nodup rs ps)
  have hbW : W b = none := by
    cases z : W b with
    | none => rfl
    | some ob => have := e1 b ob (by simp) z; rw [hb] at this; cases this
  refine h qs b _ ⟨asc_of_perm nd hperm hsort, fun q hq => plainI_vals (by omega) q (hperm.mem_iff.mp hq), fun x => ?_⟩ hbW (e1.trans (ExB.put (.inr hb))) WS.put_same
  rw [lookI_perm nd hperm, lookI_plain (mulI_nodup rs ps)]
end DL

set_option maxRecDepth 100000
set_option maxHeartbeats 4000000
set_option linter.all false
namespace DL
open PySem PySem.Spec PyProof.Rows L2
theorem setI_mem {k v : Int} {q : Int × Int} : ∀ {ps : IP}, q ∈ setI k v ps → q = (k, v) ∨ q ∈ ps
  | [], h => by cases h
  | (g, u) :: r, h => by
    have h' : q ∈ (if g = k then (g, v) :: setI k v r else (g, u) :: setI k v r : IP) := h
    split at h'
    · rename_i c
      rcases List.mem_cons.mp h' with e | h'
      · exact .inl (by rw [e, c])
      · exact (setI_mem h').imp id (List.mem_cons_of_mem _)
    · rcases List.mem_cons.mp h' with e | h'
      · exact .inr (by rw [e]; exact List.mem_cons_self)
      · exact (setI_mem h').imp id (List.mem_cons_of_mem _)
theorem putI_mem' {ps : IP} {k v : Int} {q : Int × Int} (h : q ∈ putI ps k v) : q = (k, v) ∨ q ∈ ps := by
  unfold putI at h
  split at h
  · exact setI_mem h
  · rcases List.mem_append.mp h with h | h
    · exact .inr h
    · exact .inl (List.mem_singleton.mp h)
theorem putI_ne (ps : IP) (k v : Int) : putI ps k v ≠ [] := by
  intro e
  have : lookI (putI ps k v) k = v := by rw [lookI_put, if_pos rfl]
  have h2 : hasI k (putI ps k v) = true := by
    rw [hasI_iff, putI_keys]
    split
    · rename_i c; exact hasI_iff.mp c
    · simp
  rw [e] at h2
  cases h2
/-! ## sums -/
def cs (k v : Int) (x : Int) : IP → Int
  | [] => 0
  | q :: r => (if x = k + q.1 then v * q.2 else 0) + cs k v x r
def tot (other : IP) (x : Int) : IP → Int
  | [] => 0
  | q :: r => cs q.1 q.2 x other + tot other x r
theorem look_row (k v x : Int) : ∀ (other acc : IP), lookI (rowI k v other acc) x = lookI acc x + cs k v x other
  | [], acc => by show lookI acc x = lookI acc x + 0; omega
  | q :: r, acc => by
    have ih := look_row k v x r (putI acc (k + q.1) (lookI acc (k + q.1) + v * q.2))
    show lookI (rowI k v r (putI acc (k + q.1) (lookI acc (k + q.1) + v * q.2))) x = lookI acc x + ((if x = k + q.1 then v * q.2 else 0) + cs k v x r)
    rw [ih, lookI_put]
    by_cases c : x = k + q.1
    · subst c; rw [if_pos rfl, if_pos rfl]; omega
    · rw [if_neg c, if_neg c]; omega
theorem look_mul (one other : IP) (x : Int) : lookI (mulI one other) x = tot other x one := by
  have key : ∀ (one acc : IP), lookI (one.foldl (fun a q => rowI q.1 q.2 other a) acc) x = lookI acc x + tot other x one := by
    intro one
    induction one with
    | nil => intro acc; show lookI acc x = lookI acc x + 0; omega
    | cons q r ih =>
      intro acc
      show lookI (r.foldl _ (rowI q.1 q.2 other acc)) x = lookI acc x + (cs q.1 q.2 x other + tot other x r)
      rw [ih, look_row]; omega
  have := key one []
  have e : lookI [] x = 0 := rfl
  rw [e, Int.zero_add] at this
  exact this
theorem cs_perm {k v x : Int} {ps qs : IP} (h : ps.Perm qs) : cs k v x ps = cs k v x qs := by
  induction h with
  | nil => rfl
  | cons q _ ih => show _ + _ = _ + _; rw [ih]
  | swap p q r => show _ + (_ + _) = _ + (_ + _); omega
  | trans _ _ h1 h2 => exact h1.trans h2
theorem tot_perm {x : Int} {other other' ps qs : IP} (ho : other.Perm other') (h : ps.Perm qs) : tot other x ps = tot other' x qs := by
  have e : ∀ l : IP, tot other x l = tot other' x l := by
    intro l
    induction l with
    | nil => rfl
    | cons q r ih => show _ + _ = _ + _; rw [ih, cs_perm ho]
  rw [e]
  induction h with
  | nil => rfl
  | cons q _ ih => show _ + _ = _ + _; rw [ih]
  | swap p q r => show _ + (_ + _) = _ + (_ + _); omega
  | trans _ _ h1 h2 => exact h1.trans h2
theorem asc_ext : ∀ {ps qs : IP}, Asc ps → Asc qs → (∀ q ∈ ps, q.2 ≠ 0) → (∀ q ∈ qs, q.2 ≠ 0) → (∀ x, lookI ps x = lookI qs x) → ps = qs
  | [], [], _, _, _, _, _ => rfl
  | [], (g, u) :: s, _, _, _, hq, h => by
    have := h g
    have e : lookI ((g, u) :: s) g = u := by show (if g = g then some u else _).getD 0 = u; rw [if_pos rfl]; rfl
    rw [e] at this
    exact absurd this.symm (hq _ List.mem_cons_self)
  | (k, v) :: r, [], _, _, hp, _, h => by
    have := h k
    have e : lookI ((k, v) :: r) k = v := by show (if k = k then some v else _).getD 0 = v; rw [if_pos rfl]; rfl
    rw [e] at this
    exact absurd this (hp _ List.mem_cons_self)
  | (k, v) :: r, (g, u) :: s, h1, h2, hp, hq, h => by
    obtain ⟨a1, a2⟩ := List.pairwise_cons.mp h1
    obtain ⟨b1, b2⟩ := List.pairwise_cons.mp h2
    have ek : lookI ((k, v) :: r) k = v := by show (if k = k then some v else _).getD 0 = v; rw [if_pos rfl]; rfl
    have eg : lookI ((g, u) :: s) g = u := by show (if g = g then some u else _).getD 0 = u; rw [if_pos rfl]; rfl
    have zero : ∀ (x : Int) (l : IP), (∀ q ∈ l, x < q.1) → lookI l x = 0 := fun x l hl => by
      unfold lookI
      have : getI x l = none := getI_none.mpr fun c => by
        obtain ⟨q, hq, e⟩ := List.mem_map.mp c
        have := hl q hq
        have e' : q.1 = x := e
        omega
      rw [this]; rfl
    have hkg : k = g := by
      rcases Int.lt_trichotomy k g with c | c | c
      · have := h k
        rw [ek, zero k _ (fun q hq => by
          rcases List.mem_cons.mp hq with e | hq
          · rw [e]; exact c
          · have := b1 q hq; have t : g < q.1 := this; omega)] at this
        exact absurd this (hp _ List.mem_cons_self)
      · exact c
      · have := h g
        rw [eg, zero g _ (fun q hq => by
          rcases List.mem_cons.mp hq with e | hq
          · rw [e]; exact c
          · have := a1 q hq; have t : k < q.1 := this; omega)] at this
        exact absurd this.symm (hq _ List.mem_cons_self)
    subst hkg
    have hvu : v = u := by have := h k; rw [ek, eg] at this; exact this
    subst hvu
    have := asc_ext a2 b2 (fun q hq' => hp q (List.mem_cons_of_mem _ hq')) (fun q hq' => hq q (List.mem_cons_of_mem _ hq')) fun x => by
      by_cases c : x = k
      · subst c
        rw [zero x r (fun q hq => a1 q hq), zero x s (fun q hq => b1 q hq)]
      · have := h x
        have e1 : lookI ((k, v) :: r) x = lookI r x := by show (if k = x then some v else getI x r).getD 0 = _; rw [if_neg (fun e => c e.symm)]; rfl
        have e2 : lookI ((k, v) :: s) x = lookI s x := by show (if k = x then some v else getI x s).getD 0 = _; rw [if_neg (fun e => c e.symm)]; rfl
        rw [e1, e2] at this
        exact this
    rw [this]
theorem tot_mem {x : Int} {other : IP} : ∀ {ps : IP}, tot other x ps ≠ 0 → ∃ q ∈ ps, ∃ z ∈ other, x = q.1 + z.1
  | [], h => absurd rfl h
  | q :: r, h => by
    by_cases c : cs q.1 q.2 x other = 0
    · have h2 : tot other x r ≠ 0 := fun e => h (by show _ + _ = (0 : Int); rw [c, e]; rfl)
      obtain ⟨p, hp, z, hz, e⟩ := tot_mem h2
      exact ⟨p, List.mem_cons_of_mem _ hp, z, hz, e⟩
    · have key : ∀ l : IP, cs q.1 q.2 x l ≠ 0 → ∃ z ∈ l, x = q.1 + z.1 := by
        intro l
        induction l with
        | nil => intro h; exact absurd rfl h
        | cons z r ih =>
          intro h
          by_cases d : x = q.1 + z.1
          · exact ⟨z, List.mem_cons_self, d⟩
          · have h' : (if x = q.1 + z.1 then q.2 * z.2 else 0) + cs q.1 q.2 x r ≠ 0 := h
            rw [if_neg d, Int.zero_add] at h'
            obtain ⟨y, hy, e⟩ := ih h'
            exact ⟨y, List.mem_cons_of_mem _ hy, e⟩
      obtain ⟨z, hz, e⟩ := key other c
      exact ⟨q, List.mem_cons_self, z, hz, e⟩
/-! ## lengths of rows by their windows -/
theorem asc_len : ∀ {ps : IP} {lo hi : Int}, Asc ps → Win lo hi ps → lo ≤ hi + 1 → (ps.length : Int) ≤ hi - lo + 1
  | [], lo, hi, _, _, h => by simp; omega
  | (k, v) :: r, lo, hi, h1, h2, h => by
    obtain ⟨a1, a2⟩ := List.pairwise_cons.mp h1
    have w := h2 (k, v) List.mem_cons_self
    have w1 : lo ≤ k := w.1
    have w2 : k ≤ hi := w.2
    have := asc_len (lo := k + 1) (hi := hi) a2 (fun q hq => ⟨by have := a1 q hq; have t : k < q.1 := this; omega, (h2 q (List.mem_cons_of_mem _ hq)).2⟩) (by omega)
    rw [List.length_cons]
    omega
def lexB' (p q : Int × Int) : Bool := decide (p.1 < q.1) || (decide (p.1 = q.1) && decide (p.2 ≤ q.2))
theorem lexB'_iff {p q : Int × Int} : lexB' p q = true ↔ lexLe p q := by
  unfold lexB' lexLe
  simp
/-- every row can be sorted -/
theorem sort_ex (ps : IP) : ∃ qs : IP, qs.Perm ps ∧ qs.Pairwise lexLe := by
  refine ⟨ps.mergeSort lexB', List.mergeSort_perm _ _, ?_⟩
  have := List.pairwise_mergeSort (le := lexB') (fun a b c h1 h2 => by rw [lexB'_iff] at *; unfold lexLe at *; omega) (fun a b => by
    rw [Bool.or_eq_true, lexB'_iff, lexB'_iff]; unfold lexLe; omega) ps
  exact List.Pairwise.imp (fun {a b} h => lexB'_iff.mp h) this
theorem nd_len {ps : IP} {lo hi : Int} (h : (ps.map (·.1)).Nodup) (w : Win lo hi ps) (hl : lo ≤ hi + 1) : (ps.length : Int) ≤ hi - lo + 1 := by
  obtain ⟨qs, hp, hs⟩ := sort_ex ps
  rw [← hp.length_eq]
  exact asc_len (asc_of_perm h hp hs) (fun q hq => w q (hp.mem_iff.mp hq)) hl
end DL

set_option maxRecDepth 100000
set_option maxHeartbeats 4000000
set_option linter.all false
namespace DL
open PySem PySem.Spec PyProof.Rows L2
theorem keysOf_cons (k v : Int) (r : IP) : keysOf (mkI ((k, v) :: r)) = .int k :: keysOf (mkI r) := rfl
theorem fGet_dk {W : WS} {d : D} {ps : IP} {k v : Int} {P : D → Prop} (hv : view W d = .dK (mkI ps)) (h : getI k ps = some v) (p : P (.int v)) : fGet d (.int k) W P := by
  unfold fGet
  rw [hv]
  exact ⟨.int v, by rw [dget_mk W d ps k hv, h]; rfl, p⟩
def stepR (p s v : Int) (ts acc : IP) : IP := ts.foldl (fun a q => putI a (s + q.2) ((lookI a (s + q.2) + q.1 * v) % p)) acc
def stepI (p : Int) (ts rs acc : IP) : IP := rs.foldl (fun a q => stepR p q.1 q.2 ts a) acc
def InP (p : Int) (ps : IP) : Prop := ∀ x, 0 ≤ lookI ps x ∧ lookI ps x < p
theorem stepR_look {p s v : Int} (hp : 0 < p) : ∀ (ts acc : IP), InP p acc → InP p (stepR p s v ts acc) ∧ ∀ x, lookI (stepR p s v ts acc) x = (lookI acc x + cs s v x (swapI ts)) % p
  | [], acc, h => ⟨h, fun x => by
    show lookI acc x = (lookI acc x + 0) % p
    rw [Int.add_zero, Int.emod_eq_of_lt (h x).1 (h x).2]⟩
  | q :: r, acc, h => by
    have h1 : InP p (putI acc (s + q.2) ((lookI acc (s + q.2) + q.1 * v) % p)) := fun x => by
      rw [lookI_put]
      split
      · exact ⟨Int.emod_nonneg _ (by omega), Int.emod_lt_of_pos _ hp⟩
      · exact h x
    obtain ⟨i1, i2⟩ := stepR_look (s := s) (v := v) hp r _ h1
    refine ⟨i1, fun x => ?_⟩
    show lookI (stepR p s v r (putI acc (s + q.2) ((lookI acc (s + q.2) + q.1 * v) % p))) x = (lookI acc x + ((if x = s + q.2 then v * q.1 else 0) + cs s v x (swapI r))) % p
    rw [i2, lookI_put]
    by_cases c : x = s + q.2
    · subst c
      rw [if_pos rfl, if_pos rfl, Int.emod_add_emod, Int.mul_comm q.1 v, Int.add_assoc]
    · rw [if_neg c, if_neg c, Int.zero_add]
theorem stepI_look {p : Int} {ts : IP} (hp : 0 < p) : ∀ (rs acc : IP), InP p acc → InP p (stepI p ts rs acc) ∧ ∀ x, lookI (stepI p ts rs acc) x = (lookI acc x + tot (swapI ts) x rs) % p
  | [], acc, h => ⟨h, fun x => by
    show lookI acc x = (lookI acc x + 0) % p
    rw [Int.add_zero, Int.emod_eq_of_lt (h x).1 (h x).2]⟩
  | q :: r, acc, h => by
    obtain ⟨j1, j2⟩ := stepR_look (s := q.1) (v := q.2) hp ts acc h
    obtain ⟨i1, i2⟩ := stepI_look hp r _ j1
    refine ⟨i1, fun x => ?_⟩
    show lookI (stepI p ts r (stepR p q.1 q.2 ts acc)) x = (lookI acc x + (cs q.1 q.2 x (swapI ts) + tot (swapI ts) x r)) % p
    rw [i2, j2, Int.emod_add_emod, Int.add_assoc]
theorem stepR_nd {p s v : Int} : ∀ (ts acc : IP), (acc.map (·.1)).Nodup → ((stepR p s v ts acc).map (·.1)).Nodup
  | [], _, h => h
  | q :: r, _, h => stepR_nd r _ (putI_nodup h _ _)
theorem stepI_nd {p : Int} {ts : IP} : ∀ (rs acc : IP), (acc.map (·.1)).Nodup → ((stepI p ts rs acc).map (·.1)).Nodup
  | [], _, h => h
  | q :: r, _, h => stepI_nd r _ (stepR_nd _ _ h)
theorem stepR_len {p s v : Int} : ∀ (ts acc : IP), (stepR p s v ts acc).length ≤ acc.length + ts.length
  | [], acc => by show acc.length ≤ _; omega
  | q :: r, acc => by
    have ih := stepR_len (p := p) (s := s) (v := v) r (putI acc (s + q.2) ((lookI acc (s + q.2) + q.1 * v) % p))
    have h2 := putI_len acc (s + q.2) ((lookI acc (s + q.2) + q.1 * v) % p)
    have e : (q :: r).length = r.length + 1 := rfl
    show (stepR p s v r (putI acc (s + q.2) ((lookI acc (s + q.2) + q.1 * v) % p))).length ≤ _
    omega
theorem stepI_len {p : Int} {ts : IP} : ∀ (rs acc : IP), (stepI p ts rs acc).length ≤ acc.length + rs.length * ts.length
  | [], acc => by show acc.length ≤ _; omega
  | q :: r, acc => by
    have ih := stepI_len (p := p) (ts := ts) r (stepR p q.1 q.2 ts acc)
    have h2 := stepR_len (p := p) (s := q.1) (v := q.2) ts acc
    have e : (q :: r).length = r.length + 1 := rfl
    have e2 : (r.length + 1) * ts.length = r.length * ts.length + ts.length := Nat.succ_mul _ _
    rw [e, e2]
    show (stepI p ts r (stepR p q.1 q.2 ts acc)).length ≤ _
    omega
theorem step_inner {C b : Addr} {p s v : Int} {kts rs : IP} {W : WS} {P : WEnds} {PX : XP} (hp : 0 < p) (hv : v.natAbs < 2 ^ 60) (hs : getI s rs = some v) : ∀ (rest acc : IP) (x4 x5 : Option D), (∀ q ∈ rest, q.1.natAbs < 2 ^ 60) → acc.length + rest.length < sizeLine →
    (∀ x4 x5, P.nx [some (.tup [.int p, .lst (kts.map prD)]), some (.dK (mkI rs)), some (.obj b), some (.int s), x4, x5] (W.put b (.dK (mkI (stepR p s v rest acc))))) →
    forW (.tu (.tp (.nm 4) (.tp (.nm 5) .nl))) (b__law_step_1 C) PX P (rest.map prD) [some (.tup [.int p, .lst (kts.map prD)]), some (.dK (mkI rs)), some (.obj b), some (.int s), x4, x5] (W.put b (.dK (mkI acc)))
  | [], acc, x4, x5, _, _, h => h x4 x5
  | (f, o) :: r, acc, x4, x5, hf, hl, h => by
    have ih := step_inner (C := C) (kts := kts) (W := W) (P := P) (PX := PX) (b := b) hp hv hs r
    show bindG _ _ _ _
    generalize hK : forW (.tu (.tp (.nm 4) (.tp (.nm 5) .nl))) (b__law_step_1 C) PX P (r.map prD) = Kf
    simp only [hK] at ih
    simp only [b__law_step_1, wRaise, wTry, wXVal, wXIs, wXIsV, wCallX, fMulS, wSeq, wLRg1, wLRg2, wRngB, mExtend, wSetIxN, wBoxN, fNotInN, fGetN, wForEn, wSealQ, wPopD, wRep, wAug, wAsg, wSkip, wIf, wRet, wRetN, wDrop, wB, wTru, wBin, wUn, wApp, wAppF, wVal, wBox, wVar, wC, wFrz, wCons, wNil, wLst, wTup, wPar2, wPar3, wSetIx, wSetFld, wMu, wAnd, wOr, wNot, wAndV, wOrV, wNotV, wIte, wChain, wGet2, wFld, wProp, wMeth, wMethK, wCall, wCallK, wMakeK, wSeal, wOwn, wDisp, wPs, wDnK, wSortIt, wRev, wSlc, wONo, wOYes, wFor, wForLk, wIter, wRng1, wRng2, wEnum, wLc, wLcLk, wDc, wDcLk, wSetV, wSetB, wNo, wNoE, wYes, fAdd, fSub, fMul, fDiv, fMod, fPow, fLt, fLe, fGt, fGe, fNeg, fIsN, fNotN, isN, fInt, fAbs, bindG, Ob.toD, env0, List.map_cons, List.map_nil, List.cons_append, List.nil_append, List.append_nil, List.length_cons, List.length_nil, List.replicate_succ, List.replicate_zero, List.replicate, List.getElem?_cons_zero, List.getElem?_cons_succ, List.set_cons_zero, List.set_cons_succ, Option.some.injEq, exists_eq_left', exists_eq_left, D.int.injEq, D.bl.injEq, D.obj.injEq, keyD, keysD, fSet, mAppend, mInsert, mPop, mReverse, mClear, WS.put_same, dkD, lookD, truD, seqD, wipeD, List.set_nil, prD]
    have el : ((f, o) :: r).length = r.length + 1 := rfl
    have hf1 := hf (f, o) List.mem_cons_self
    refine ⟨by rw [view_ob WS.put_same]; rfl, _, dget_mk _ _ acc (s + o) (by rw [view_ob WS.put_same]), ?_⟩
    have eg : ((getI (s + o) acc).map D.int).getD (.int 0) = .int (lookI acc (s + o)) := by
      unfold lookI
      cases getI (s + o) acc <;> rfl
    rw [eg]
    refine fGet_dk rfl hs ?_
    simp only [wRaise, wTry, wXVal, wXIs, wXIsV, wCallX, fMulS, wSeq, wLRg1, wLRg2, wRngB, mExtend, wSetIxN, wBoxN, fNotInN, fGetN, wForEn, wSealQ, wPopD, wRep, wAug, wAsg, wSkip, wIf, wRet, wRetN, wDrop, wB, wTru, wBin, wUn, wApp, wAppF, wVal, wBox, wVar, wC, wFrz, wCons, wNil, wLst, wTup, wPar2, wPar3, wSetIx, wSetFld, wMu, wAnd, wOr, wNot, wAndV, wOrV, wNotV, wIte, wChain, wGet2, wFld, wProp, wMeth, wMethK, wCall, wCallK, wMakeK, wSeal, wOwn, wDisp, wPs, wDnK, wSortIt, wRev, wSlc, wONo, wOYes, wFor, wForLk, wIter, wRng1, wRng2, wEnum, wLc, wLcLk, wDc, wDcLk, wSetV, wSetB, wNo, wNoE, wYes, fAdd, fSub, fMul, fDiv, fMod, fPow, fLt, fLe, fGt, fGe, fNeg, fIsN, fNotN, isN, fInt, fAbs, bindG, Ob.toD, env0, List.map_cons, List.map_nil, List.cons_append, List.nil_append, List.append_nil, List.length_cons, List.length_nil, List.replicate_succ, List.replicate_zero, List.replicate, List.getElem?_cons_zero, List.getElem?_cons_succ, List.set_cons_zero, List.set_cons_succ, Option.some.injEq, exists_eq_left', exists_eq_left, D.int.injEq, D.bl.injEq, D.obj.injEq, keyD, keysD, fSet, mAppend, mInsert, mPop, mReverse, mClear, WS.put_same, dkD, lookD, truD, seqD, wipeD, List.set_nil]
    refine ⟨wide_mul hf1 hv (by omega) (by omega) (by omega), fGet_tup rfl (x := .int p) rfl ?_⟩
    simp only [wRaise, wTry, wXVal, wXIs, wXIsV, wCallX, fMulS, wSeq, wLRg1, wLRg2, wRngB, mExtend, wSetIxN, wBoxN, fNotInN, fGetN, wForEn, wSealQ, wPopD, wRep, wAug, wAsg, wSkip, wIf, wRet, wRetN, wDrop, wB, wTru, wBin, wUn, wApp, wAppF, wVal, wBox, wVar, wC, wFrz, wCons, wNil, wLst, wTup, wPar2, wPar3, wSetIx, wSetFld, wMu, wAnd, wOr, wNot, wAndV, wOrV, wNotV, wIte, wChain, wGet2, wFld, wProp, wMeth, wMethK, wCall, wCallK, wMakeK, wSeal, wOwn, wDisp, wPs, wDnK, wSortIt, wRev, wSlc, wONo, wOYes, wFor, wForLk, wIter, wRng1, wRng2, wEnum, wLc, wLcLk, wDc, wDcLk, wSetV, wSetB, wNo, wNoE, wYes, fAdd, fSub, fMul, fDiv, fMod, fPow, fLt, fLe, fGt, fGe, fNeg, fIsN, fNotN, isN, fInt, fAbs, bindG, Ob.toD, env0, List.map_cons, List.map_nil, List.cons_append, List.nil_append, List.append_nil, List.length_cons, List.length_nil, List.replicate_succ, List.replicate_zero, List.replicate, List.getElem?_cons_zero, List.getElem?_cons_succ, List.set_cons_zero, List.set_cons_succ, Option.some.injEq, exists_eq_left', exists_eq_left, D.int.injEq, D.bl.injEq, D.obj.injEq, keyD, keysD, fSet, mAppend, mInsert, mPop, mReverse, mClear, WS.put_same, dkD, lookD, truD, seqD, wipeD, List.set_nil]
    refine ⟨hp, _, _, rfl, WS.put_same, _, rfl, by rw [len_mk]; omega, ?_⟩
    have := putI_len acc (s + o) ((lookI acc (s + o) + f * v) % p)
    simp only [putKD_mk, WS.put_put]
    exact ih _ _ _ (fun q hq => hf q (List.mem_cons_of_mem _ hq)) (by omega) h
theorem step_outer {C b : Addr} {p : Int} {ts rs : IP} {W : WS} {P : WEnds} {PX : XP} (hp : 0 < p) (hts : ∀ q ∈ ts, q.1.natAbs < 2 ^ 60) : ∀ (rest acc : IP) (x3 x4 x5 : Option D), (∀ q ∈ rest, q.2.natAbs < 2 ^ 60 ∧ getI q.1 rs = some q.2) → acc.length + rest.length * ts.length < sizeLine →
    (∀ x3 x4 x5, P.nx [some (.tup [.int p, .lst (ts.map prD)]), some (.dK (mkI rs)), some (.obj b), x3, x4, x5] (W.put b (.dK (mkI (stepI p ts rest acc))))) →
    forW (.nm 3) (b__law_step_2 C) PX P (keysOf (mkI rest)) [some (.tup [.int p, .lst (ts.map prD)]), some (.dK (mkI rs)), some (.obj b), x3, x4, x5] (W.put b (.dK (mkI acc)))
  | [], acc, x3, x4, x5, _, _, h => h x3 x4 x5
  | (k, v) :: r, acc, x3, x4, x5, hf, hl, h => by
    have ih := step_outer (C := C) (rs := rs) (W := W) (P := P) (PX := PX) (b := b) hp hts r
    rw [keysOf_cons]
    show bindG _ _ _ _
    generalize hK : forW (.nm 3) (b__law_step_2 C) PX P (keysOf (mkI r)) = Kf
    simp only [hK] at ih
    generalize hB : b__law_step_1 C = Bd1
    simp only [b__law_step_2, wRaise, wTry, wXVal, wXIs, wXIsV, wCallX, fMulS, wSeq, wLRg1, wLRg2, wRngB, mExtend, wSetIxN, wBoxN, fNotInN, fGetN, wForEn, wSealQ, wPopD, wRep, wAug, wAsg, wSkip, wIf, wRet, wRetN, wDrop, wB, wTru, wBin, wUn, wApp, wAppF, wVal, wBox, wVar, wC, wFrz, wCons, wNil, wLst, wTup, wPar2, wPar3, wSetIx, wSetFld, wMu, wAnd, wOr, wNot, wAndV, wOrV, wNotV, wIte, wChain, wGet2, wFld, wProp, wMeth, wMethK, wCall, wCallK, wMakeK, wSeal, wOwn, wDisp, wPs, wDnK, wSortIt, wRev, wSlc, wONo, wOYes, wFor, wForLk, wIter, wRng1, wRng2, wEnum, wLc, wLcLk, wDc, wDcLk, wSetV, wSetB, wNo, wNoE, wYes, fAdd, fSub, fMul, fDiv, fMod, fPow, fLt, fLe, fGt, fGe, fNeg, fIsN, fNotN, isN, fInt, fAbs, bindG, Ob.toD, env0, List.map_cons, List.map_nil, List.cons_append, List.nil_append, List.append_nil, List.length_cons, List.length_nil, List.replicate_succ, List.replicate_zero, List.replicate, List.getElem?_cons_zero, List.getElem?_cons_succ, List.set_cons_zero, List.set_cons_succ, Option.some.injEq, exists_eq_left', exists_eq_left, D.int.injEq, D.bl.injEq, D.obj.injEq, keyD, keysD, fSet, mAppend, mInsert, mPop, mReverse, mClear, WS.put_same, dkD, lookD, truD, seqD, wipeD, List.set_nil, hB]
    subst hB
    have el : ((k, v) :: r).length = r.length + 1 := rfl
    have hl' : (r.length + 1) * ts.length = r.length * ts.length + ts.length := Nat.succ_mul _ _
    rw [el, hl'] at hl
    obtain ⟨f1, f2⟩ := hf (k, v) List.mem_cons_self
    refine fGet_tup rfl (x := .lst (ts.map prD)) rfl ⟨_, rfl, ?_⟩
    have := stepR_len (p := p) (s := k) (v := v) ts acc
    exact step_inner hp f1 f2 ts acc _ _ hts (by omega) fun x4' x5' => ih _ _ _ _ (fun q hq => hf q (List.mem_cons_of_mem _ hq)) (by show (stepR p k v ts acc).length + _ < _; omega) h
def nzI (ps : IP) : IP := ps.filter fun q => q.2 != 0
theorem nzI_nd {ps : IP} (h : (ps.map (·.1)).Nodup) : ((nzI ps).map (·.1)).Nodup := h.sublist (List.filter_sublist.map _)
theorem nzI_look {ps : IP} (h : (ps.map (·.1)).Nodup) (x : Int) : lookI (nzI ps) x = lookI ps x := by
  unfold lookI
  cases e : getI x ps with
  | none =>
    have : getI x (nzI ps) = none := by
      rw [getI_none] at e ⊢
      intro c
      obtain ⟨q, hq, eq⟩ := List.mem_map.mp c
      exact e (List.mem_map.mpr ⟨q, (List.mem_filter.mp hq).1, eq⟩)
    rw [this]
  | some v =>
    have hm := getI_some e
    by_cases c : v = 0
    · have : getI x (nzI ps) = none := by
        rw [getI_none]
        intro z
        obtain ⟨q, hq, eq⟩ := List.mem_map.mp z
        obtain ⟨h1, h2⟩ := List.mem_filter.mp hq
        have := getI_mem h h1
        have eq' : q.1 = x := eq
        rw [eq', e] at this
        cases this
        simp [c] at h2
      rw [this, c]; rfl
    · have hm2 : (x, v) ∈ nzI ps := List.mem_filter.mpr ⟨hm, by simpa using c⟩
      rw [getI_mem (nzI_nd h) hm2]
theorem law__law_step (C : Addr) : ∀ ds W Q PX, sp__law_step C ds W Q PX → ds.length = P__law_step.length ∧ w__law_step C PX { nx := fun _ W' => Q .non W', rt := Q } (env0 N__law_step ds) W := by
  rintro ds W Q PX ⟨p, ts, rs, rfl, hk, hnd, hv, hl, h⟩
  refine ⟨rfl, ?_⟩
  have hp : 2 ≤ p ∧ p ≤ 5 := by rcases hk.pr with h | h | h <;> omega
  generalize hB : b__law_step_2 C = Bd
  simp only [w__law_step, N__law_step, wRaise, wTry, wXVal, wXIs, wXIsV, wCallX, fMulS, wSeq, wLRg1, wLRg2, wRngB, mExtend, wSetIxN, wBoxN, fNotInN, fGetN, wForEn, wSealQ, wPopD, wRep, wAug, wAsg, wSkip, wIf, wRet, wRetN, wDrop, wB, wTru, wBin, wUn, wApp, wAppF, wVal, wBox, wVar, wC, wFrz, wCons, wNil, wLst, wTup, wPar2, wPar3, wSetIx, wSetFld, wMu, wAnd, wOr, wNot, wAndV, wOrV, wNotV, wIte, wChain, wGet2, wFld, wProp, wMeth, wMethK, wCall, wCallK, wMakeK, wSeal, wOwn, wDisp, wPs, wDnK, wSortIt, wRev, wSlc, wONo, wOYes, wFor, wForLk, wIter, wRng1, wRng2, wEnum, wLc, wLcLk, wDc, wDcLk, wSetV, wSetB, wNo, wNoE, wYes, fAdd, fSub, fMul, fDiv, fMod, fPow, fLt, fLe, fGt, fGe, fNeg, fIsN, fNotN, isN, fInt, fAbs, bindG, Ob.toD, env0, List.map_cons, List.map_nil, List.cons_append, List.nil_append, List.append_nil, List.length_cons, List.length_nil, List.replicate_succ, List.replicate_zero, List.replicate, List.getElem?_cons_zero, List.getElem?_cons_succ, List.set_cons_zero, List.set_cons_succ, Option.some.injEq, exists_eq_left', exists_eq_left, D.int.injEq, D.bl.injEq, D.obj.injEq, keyD, keysD, fSet, mAppend, mInsert, mPop, mReverse, mClear, WS.put_same, dkD, lookD, truD, seqD, wipeD, List.set_nil, hB]
  intro b hb
  subst hB
  have hml : rs.length * ts.length ≤ 10000 * 8 := Nat.mul_le_mul hl hk.len
  refine step_outer (by omega) (fun q hq => by have := hk.co q hq; omega) rs [] _ _ _ (fun q hq => ⟨by have := hv q hq; omega, getI_mem hnd hq⟩) (sz_small (by show 0 + _ ≤ _; omega)) fun x3 x4 x5 => ?_
  have hnf : ((stepI p ts rs []).map (·.1)).Nodup := stepI_nd rs [] List.nodup_nil
  obtain ⟨hin, hlk⟩ := stepI_look (ts := ts) (show 0 < p by omega) rs [] (fun x => ⟨Int.le_refl _, by show (0 : Int) < p; omega⟩)
  have hln := stepI_len (p := p) (ts := ts) rs []
  rw [List.length_nil, Nat.zero_add] at hln
  generalize stepI p ts rs [] = fd at hnf hin hlk hln ⊢
  simp only [wRaise, wTry, wXVal, wXIs, wXIsV, wCallX, fMulS, wSeq, wLRg1, wLRg2, wRngB, mExtend, wSetIxN, wBoxN, fNotInN, fGetN, wForEn, wSealQ, wPopD, wRep, wAug, wAsg, wSkip, wIf, wRet, wRetN, wDrop, wB, wTru, wBin, wUn, wApp, wAppF, wVal, wBox, wVar, wC, wFrz, wCons, wNil, wLst, wTup, wPar2, wPar3, wSetIx, wSetFld, wMu, wAnd, wOr, wNot, wAndV, wOrV, wNotV, wIte, wChain, wGet2, wFld, wProp, wMeth, wMethK, wCall, wCallK, wMakeK, wSeal, wOwn, wDisp, wPs, wDnK, wSortIt, wRev, wSlc, wONo, wOYes, wFor, wForLk, wIter, wRng1, wRng2, wEnum, wLc, wLcLk, wDc, wDcLk, wSetV, wSetB, wNo, wNoE, wYes, fAdd, fSub, fMul, fDiv, fMod, fPow, fLt, fLe, fGt, fGe, fNeg, fIsN, fNotN, isN, fInt, fAbs, bindG, Ob.toD, env0, List.map_cons, List.map_nil, List.cons_append, List.nil_append, List.append_nil, List.length_cons, List.length_nil, List.replicate_succ, List.replicate_zero, List.replicate, List.getElem?_cons_zero, List.getElem?_cons_succ, List.set_cons_zero, List.set_cons_succ, Option.some.injEq, exists_eq_left', exists_eq_left, D.int.injEq, D.bl.injEq, D.obj.injEq, keyD, keysD, fSet, mAppend, mInsert, mPop, mReverse, mClear, WS.put_same, dkD, lookD, truD, seqD, wipeD, List.set_nil]
  rw [WS.put_del, WS.del_none hb]
  have key : ∀ (rest acc : IP) (env : DEnv) (P : List D → WS → Prop), (∀ q ∈ rest, getI q.1 fd = some q.2) → env[2]? = some (some (.dK (mkI fd))) → 3 < env.length → acc.length + rest.length < sizeLine → P ((acc ++ nzI rest).map prD) W →
      lcW (.nm 3) (wB (wBin (fEqK true) (wBin fGet (wVar 2) (wVar 3)) (wC (.int 0)))) (wTup (wCons (wVar 3) (wCons (wBin fGet (wVar 2) (wVar 3)) wNil))) (keysOf (mkI rest)) env W (acc.map prD) P := by
    intro rest
    induction rest with
    | nil =>
      intro acc env P _ _ _ _ hP
      have : acc ++ nzI [] = acc := List.append_nil _
      rw [this] at hP
      exact hP
    | cons q r ih =>
      intro acc env P hg h2 h3 hsz hP
      obtain ⟨k, v⟩ := q
      have el : ((k, v) :: r).length = r.length + 1 := rfl
      have g1 := hg (k, v) List.mem_cons_self
      rw [keysOf_cons]
      show bindG _ _ _ _
      simp only [wRaise, wTry, wXVal, wXIs, wXIsV, wCallX, fMulS, wSeq, wLRg1, wLRg2, wRngB, mExtend, wSetIxN, wBoxN, fNotInN, fGetN, wForEn, wSealQ, wPopD, wRep, wAug, wAsg, wSkip, wIf, wRet, wRetN, wDrop, wB, wTru, wBin, wUn, wApp, wAppF, wVal, wBox, wVar, wC, wFrz, wCons, wNil, wLst, wTup, wPar2, wPar3, wSetIx, wSetFld, wMu, wAnd, wOr, wNot, wAndV, wOrV, wNotV, wIte, wChain, wGet2, wFld, wProp, wMeth, wMethK, wCall, wCallK, wMakeK, wSeal, wOwn, wDisp, wPs, wDnK, wSortIt, wRev, wSlc, wONo, wOYes, wFor, wForLk, wIter, wRng1, wRng2, wEnum, wLc, wLcLk, wDc, wDcLk, wSetV, wSetB, wNo, wNoE, wYes, fAdd, fSub, fMul, fDiv, fMod, fPow, fLt, fLe, fGt, fGe, fNeg, fIsN, fNotN, isN, fInt, fAbs, bindG, Ob.toD, env0, List.map_cons, List.map_nil, List.cons_append, List.nil_append, List.append_nil, List.length_cons, List.length_nil, List.replicate_succ, List.replicate_zero, List.replicate, List.getElem?_cons_zero, List.getElem?_cons_succ, List.set_cons_zero, List.set_cons_succ, Option.some.injEq, exists_eq_left', exists_eq_left, D.int.injEq, D.bl.injEq, D.obj.injEq, keyD, keysD, fSet, mAppend, mInsert, mPop, mReverse, mClear, WS.put_same, dkD, lookD, truD, seqD, wipeD, List.set_nil]
      have q2 : (env.set 3 (some (.int k)))[2]? = some (some (.dK (mkI fd))) := by rw [List.getElem?_set_ne (by decide)]; exact h2
      have q3 : (env.set 3 (some (.int k)))[3]? = some (some (.int k)) := List.getElem?_set_self h3
      refine ⟨_, q2, _, q3, fGet_dk rfl g1 (eqK_int ⟨_, rfl, ?_⟩)⟩
      rw [if_pos rfl]
      by_cases c : v = 0
      · rw [decide_eq_true c]
        refine ih acc env P (fun q hq => hg q (List.mem_cons_of_mem _ hq)) h2 h3 (by omega) ?_
        have e : nzI ((k, v) :: r) = nzI r := by
          unfold nzI
          rw [List.filter_cons_of_neg (by simp [c])]
        rw [e] at hP
        exact hP
      · rw [decide_eq_false c]
        simp only [Bool.not_false, wRaise, wTry, wXVal, wXIs, wXIsV, wCallX, fMulS, wSeq, wLRg1, wLRg2, wRngB, mExtend, wSetIxN, wBoxN, fNotInN, fGetN, wForEn, wSealQ, wPopD, wRep, wAug, wAsg, wSkip, wIf, wRet, wRetN, wDrop, wB, wTru, wBin, wUn, wApp, wAppF, wVal, wBox, wVar, wC, wFrz, wCons, wNil, wLst, wTup, wPar2, wPar3, wSetIx, wSetFld, wMu, wAnd, wOr, wNot, wAndV, wOrV, wNotV, wIte, wChain, wGet2, wFld, wProp, wMeth, wMethK, wCall, wCallK, wMakeK, wSeal, wOwn, wDisp, wPs, wDnK, wSortIt, wRev, wSlc, wONo, wOYes, wFor, wForLk, wIter, wRng1, wRng2, wEnum, wLc, wLcLk, wDc, wDcLk, wSetV, wSetB, wNo, wNoE, wYes, fAdd, fSub, fMul, fDiv, fMod, fPow, fLt, fLe, fGt, fGe, fNeg, fIsN, fNotN, isN, fInt, fAbs, bindG, Ob.toD, env0, List.map_cons, List.map_nil, List.cons_append, List.nil_append, List.append_nil, List.length_cons, List.length_nil, List.replicate_succ, List.replicate_zero, List.replicate, List.getElem?_cons_zero, List.getElem?_cons_succ, List.set_cons_zero, List.set_cons_succ, Option.some.injEq, exists_eq_left', exists_eq_left, D.int.injEq, D.bl.injEq, D.obj.injEq, keyD, keysD, fSet, mAppend, mInsert, mPop, mReverse, mClear, WS.put_same, dkD, lookD, truD, seqD, wipeD, List.set_nil]
        refine ⟨_, q3, _, q2, _, q3, fGet_dk rfl g1 ⟨by decide, by rw [List.length_map]; omega, ?_⟩⟩
        have e : nzI ((k, v) :: r) = (k, v) :: nzI r := by
          unfold nzI
          rw [List.filter_cons_of_pos (by simpa using c)]
        rw [e] at hP
        have := ih (acc ++ [(k, v)]) env P (fun q hq => hg q (List.mem_cons_of_mem _ hq)) h2 h3 (by rw [List.length_append, List.length_singleton]; omega) (by rw [List.append_assoc]; exact hP)
        rw [List.map_append] at this
        exact this
  refine key fd [] _ _ (fun q hq => getI_mem hnf hq) rfl (by show 3 < 6; decide) (sz_small (by show 0 + _ ≤ _; omega)) ?_
  rw [List.nil_append]
  refine fDict_lst rfl ?_
  rw [mergeI_nil (nzI_nd hnf)]
  refine h _ W (nzI_nd hnf) (fun q hq => ?_) (fun x => ?_) ExB.refl
  · obtain ⟨h1, h2⟩ := List.mem_filter.mp hq
    have g := getI_mem hnf h1
    have := hin q.1
    unfold lookI at this
    rw [g] at this
    have t : 0 ≤ q.2 ∧ q.2 < p := this
    have : q.2 ≠ 0 := by simpa using h2
    omega
  · rw [nzI_look hnf, hlk, look_mul]
    have e : lookI [] x = 0 := rfl
    rw [e, Int.zero_add]
end DL

set_option maxRecDepth 100000
set_option maxHeartbeats 4000000
set_option linter.all false
namespace DL
open PySem PySem.Spec PyProof.Rows L2
theorem step_win {p lo hi : Int} {ts cur q : IP} (hk : Kind p ts) (w : Win lo hi cur) (hnd : (q.map (·.1)).Nodup) (hv : Vl p q) (h : ∀ x, lookI q x = lookI (mulI cur (swapI ts)) x % p) : Win (lo - 100) (hi + 100) q := by
  intro z hz
  have g := getI_mem hnd hz
  have e : lookI q z.1 = z.2 := by unfold lookI; rw [g]; rfl
  have h1 := h z.1
  have h2 := (hv z hz).1
  rw [e, look_mul] at h1
  have hne : tot (swapI ts) z.1 cur ≠ 0 := fun c => by rw [c] at h1; simp at h1; omega
  obtain ⟨y, hy, t, ht, ey⟩ := tot_mem hne
  obtain ⟨u, hu, rfl⟩ := List.mem_map.mp ht
  have b := hk.bd u hu
  have w1 := w y hy
  have ey' : z.1 = y.1 + u.2 := ey
  omega
theorem walk_loop {C b : Addr} {p : Int} {ts : IP} {d1 d2 : D} {P : WEnds} {PX : XP} (hk : Kind p ts) : ∀ (nn : Nat) (l0 : Int) (x4 : Option D) (W : WS) (pre : List IP) (cur : IP) (lo hi : Int), nn ≤ 40 → pre.length ≤ 100 - nn → (cur.map (·.1)).Nodup → Vl p cur → Win lo hi cur → hi - lo ≤ 1000 + 200 * (40 - nn) → lo ≤ hi + 1 →
    W b = some (.lst ((pre ++ [cur]).map dkI)) →
    (∀ (L : List IP) W' x4, Walk p ts cur L → L.length = nn → W' b = some (.lst ((pre ++ cur :: L).map dkI)) → ExB [b] W W' → P.nx [some (.tup [.int p, .lst (ts.map prD)]), some d1, some d2, some (.obj b), x4] W') →
    forW (.nm 4) (b__law_walk_1 C) PX P (rngD l0 nn) [some (.tup [.int p, .lst (ts.map prD)]), some d1, some d2, some (.obj b), x4] W
  | 0, l0, x4, W, pre, cur, lo, hi, _, _, _, _, _, _, _, hb, k => k [] W x4 trivial rfl hb ExB.refl
  | nn + 1, l0, x4, W, pre, cur, lo, hi, hn, hl, hnd, hv, hw, hd, hlo, hb, k => by
    have ih := walk_loop (C := C) (b := b) (p := p) (ts := ts) (d1 := d1) (d2 := d2) (P := P) (PX := PX) hk nn (l0 + 1)
    rw [rngD_succ]
    show bindG _ _ _ _
    generalize hK : forW (.nm 4) (b__law_walk_1 C) PX P (rngD (l0 + 1) nn) = Kf
    simp only [hK] at ih
    simp only [b__law_walk_1, wRaise, wTry, wXVal, wXIs, wXIsV, wCallX, fMulS, wSeq, wLRg1, wLRg2, wRngB, mExtend, wSetIxN, wBoxN, fNotInN, fGetN, wForEn, wSealQ, wPopD, wRep, wAug, wAsg, wSkip, wIf, wRet, wRetN, wDrop, wB, wTru, wBin, wUn, wApp, wAppF, wVal, wBox, wVar, wC, wFrz, wCons, wNil, wLst, wTup, wPar2, wPar3, wSetIx, wSetFld, wMu, wAnd, wOr, wNot, wAndV, wOrV, wNotV, wIte, wChain, wGet2, wFld, wProp, wMeth, wMethK, wCall, wCallK, wMakeK, wSeal, wOwn, wDisp, wPs, wDnK, wSortIt, wRev, wSlc, wONo, wOYes, wFor, wForLk, wIter, wRng1, wRng2, wEnum, wLc, wLcLk, wDc, wDcLk, wSetV, wSetB, wNo, wNoE, wYes, fAdd, fSub, fMul, fDiv, fMod, fPow, fLt, fLe, fGt, fGe, fNeg, fIsN, fNotN, isN, fInt, fAbs, bindG, Ob.toD, env0, List.map_cons, List.map_nil, List.cons_append, List.nil_append, List.append_nil, List.length_cons, List.length_nil, List.replicate_succ, List.replicate_zero, List.replicate, List.getElem?_cons_zero, List.getElem?_cons_succ, List.set_cons_zero, List.set_cons_succ, Option.some.injEq, exists_eq_left', exists_eq_left, D.int.injEq, D.bl.injEq, D.obj.injEq, keyD, keysD, fSet, mAppend, mInsert, mPop, mReverse, mClear, WS.put_same, dkD, lookD, truD, seqD, wipeD, List.set_nil]
    have hlen := nd_len hnd hw hlo
    have eb : (pre ++ [cur]).map dkI = pre.map dkI ++ [dkI cur] := by rw [List.map_append]; rfl
    refine ⟨⟨_, hb⟩, fGet_lst (view_ob hb) (x := dkI cur) (by rw [eb]; exact atI_last _ _) ?_⟩
    refine ⟨p, ts, cur, rfl, hk, hnd, hv, by omega, fun q W1 qnd qv ql e1 => ?_⟩
    have hb1 := e1 b _ (by simp) hb
    refine ⟨_, hb1, sz_small (by rw [List.length_map, List.length_append, List.length_singleton]; omega), ?_⟩
    refine ih _ _ (pre ++ [cur]) q (lo - 100) (hi + 100) (by omega) (by rw [List.length_append, List.length_singleton]; omega) qnd qv (step_win hk hw qnd qv ql) (by omega) (by omega) (by rw [WS.put_same, List.map_append (l₁ := pre ++ [cur])]; rfl) fun L W' x4 h1 h2 h3 h4 => ?_
    refine k (q :: L) W' x4 ⟨qnd, qv, ql, h1⟩ (by rw [List.length_cons, h2]) (by rw [h3, List.append_assoc]; rfl) ?_
    exact ((e1.mono (by simp)).trans (ExB.put (.inl (by simp)))).trans h4
theorem law__law_walk (C : Addr) : ∀ ds W Q PX, sp__law_walk C ds W Q PX → ds.length = P__law_walk.length ∧ w__law_walk C PX { nx := fun _ W' => Q .non W', rt := Q } (env0 N__law_walk ds) W := by
  rintro ds W Q PX ⟨p, ts, rs, m, lo, hi, rfl, hk, hs, hv, hw, hd, hlo, m0, m6, h⟩
  refine ⟨rfl, ?_⟩
  generalize hB : b__law_walk_1 C = Bd
  simp only [w__law_walk, N__law_walk, wRaise, wTry, wXVal, wXIs, wXIsV, wCallX, fMulS, wSeq, wLRg1, wLRg2, wRngB, mExtend, wSetIxN, wBoxN, fNotInN, fGetN, wForEn, wSealQ, wPopD, wRep, wAug, wAsg, wSkip, wIf, wRet, wRetN, wDrop, wB, wTru, wBin, wUn, wApp, wAppF, wVal, wBox, wVar, wC, wFrz, wCons, wNil, wLst, wTup, wPar2, wPar3, wSetIx, wSetFld, wMu, wAnd, wOr, wNot, wAndV, wOrV, wNotV, wIte, wChain, wGet2, wFld, wProp, wMeth, wMethK, wCall, wCallK, wMakeK, wSeal, wOwn, wDisp, wPs, wDnK, wSortIt, wRev, wSlc, wONo, wOYes, wFor, wForLk, wIter, wRng1, wRng2, wEnum, wLc, wLcLk, wDc, wDcLk, wSetV, wSetB, wNo, wNoE, wYes, fAdd, fSub, fMul, fDiv, fMod, fPow, fLt, fLe, fGt, fGe, fNeg, fIsN, fNotN, isN, fInt, fAbs, bindG, Ob.toD, env0, List.map_cons, List.map_nil, List.cons_append, List.nil_append, List.append_nil, List.length_cons, List.length_nil, List.replicate_succ, List.replicate_zero, List.replicate, List.getElem?_cons_zero, List.getElem?_cons_succ, List.set_cons_zero, List.set_cons_succ, Option.some.injEq, exists_eq_left', exists_eq_left, D.int.injEq, D.bl.injEq, D.obj.injEq, keyD, keysD, fSet, mAppend, mInsert, mPop, mReverse, mClear, WS.put_same, dkD, lookD, truD, seqD, wipeD, List.set_nil, hB]
  refine fDict_lst rfl ⟨by decide, fun b hb => ⟨⟨by omega, by omega⟩, ?_⟩⟩
  rw [mergeI_asc hs]
  subst hB
  refine walk_loop hk m.toNat 0 _ _ [] rs lo hi (by omega) (by simp) hs.nodup hv hw (by omega) hlo WS.put_same fun L W' x4 h1 h2 h3 h4 => ?_
  simp only [wRaise, wTry, wXVal, wXIs, wXIsV, wCallX, fMulS, wSeq, wLRg1, wLRg2, wRngB, mExtend, wSetIxN, wBoxN, fNotInN, fGetN, wForEn, wSealQ, wPopD, wRep, wAug, wAsg, wSkip, wIf, wRet, wRetN, wDrop, wB, wTru, wBin, wUn, wApp, wAppF, wVal, wBox, wVar, wC, wFrz, wCons, wNil, wLst, wTup, wPar2, wPar3, wSetIx, wSetFld, wMu, wAnd, wOr, wNot, wAndV, wOrV, wNotV, wIte, wChain, wGet2, wFld, wProp, wMeth, wMethK, wCall, wCallK, wMakeK, wSeal, wOwn, wDisp, wPs, wDnK, wSortIt, wRev, wSlc, wONo, wOYes, wFor, wForLk, wIter, wRng1, wRng2, wEnum, wLc, wLcLk, wDc, wDcLk, wSetV, wSetB, wNo, wNoE, wYes, fAdd, fSub, fMul, fDiv, fMod, fPow, fLt, fLe, fGt, fGe, fNeg, fIsN, fNotN, isN, fInt, fAbs, bindG, Ob.toD, env0, List.map_cons, List.map_nil, List.cons_append, List.nil_append, List.append_nil, List.length_cons, List.length_nil, List.replicate_succ, List.replicate_zero, List.replicate, List.getElem?_cons_zero, List.getElem?_cons_succ, List.set_cons_zero, List.set_cons_succ, Option.some.injEq, exists_eq_left', exists_eq_left, D.int.injEq, D.bl.injEq, D.obj.injEq, keyD, keysD, fSet, mAppend, mInsert, mPop, mReverse, mClear, WS.put_same, dkD, lookD, truD, seqD, wipeD, List.set_nil]
  refine ⟨_, h3, h L _ h1 (by omega) fun c ob _ ec => ?_⟩
  have hcb : c ≠ b := fun z => by subst z; rw [hb] at ec; cases ec
  rw [WS.del_ne hcb]
  exact h4 c ob (by simpa using hcb) (by rw [WS.put_ne hcb]; exact ec)
end DL

set_option maxRecDepth 100000
set_option maxHeartbeats 4000000
set_option linter.all false
namespace DL
open PySem PySem.Spec PyProof.Rows L2
/-- cells that are being drawn -/
structure Draft (b0 p B : Int) (n : Nat) (ps : IP) : Prop where
  nd : (ps.map (·.1)).Nodup
  vl : Vl p ps
  bd : Bd B ps
  len : ps.length ≤ n
  ne : ps ≠ []
  wi : ∀ q ∈ ps, b0 ≤ q.1 ∧ q.1 ≤ b0 + 50
theorem Draft.put {b0 p B k v : Int} {n : Nat} {ps : IP} (h : Draft b0 p B n ps) (h1 : 1 ≤ v) (h2 : v < p) (h3 : -B ≤ k) (h4 : k ≤ B) (h5 : b0 ≤ k) (h6 : k ≤ b0 + 50) : Draft b0 p B (n + 1) (putI ps k v) := by
  refine ⟨putI_nodup h.nd _ _, fun q hq => ?_, fun q hq => ?_, by have := putI_len ps k v; have := h.len; omega, putI_ne _ _ _, fun q hq => ?_⟩
  · rcases putI_mem' hq with rfl | hq
    · exact ⟨h1, h2⟩
    · exact h.vl q hq
  · rcases putI_mem' hq with rfl | hq
    · exact ⟨h3, h4⟩
    · exact h.bd q hq
  · rcases putI_mem' hq with rfl | hq
    · exact ⟨h5, h6⟩
    · exact h.wi q hq
theorem Draft.one {p B k v : Int} (h1 : 1 ≤ v) (h2 : v < p) (h3 : -B ≤ k) (h4 : k ≤ B) : Draft k p B 1 [(k, v)] := by
  refine ⟨List.nodup_cons.mpr ⟨List.not_mem_nil, List.nodup_nil⟩, fun q hq => ?_, fun q hq => ?_, Nat.le_refl _, List.cons_ne_nil _ _, fun q hq => ?_⟩
  · rw [List.mem_singleton] at hq; subst hq; exact ⟨h1, h2⟩
  · rw [List.mem_singleton] at hq; subst hq; exact ⟨h3, h4⟩
  · rw [List.mem_singleton] at hq; subst hq; show k ≤ k ∧ k ≤ k + 50; omega
theorem row_turns {C a b : Addr} {p begin wide : Int} {ts : IP} {d2 d3 : D} {P : WEnds} {PX : XP} (hp : 2 ≤ p) (hp5 : p ≤ 5) (hab : a ≠ b) (hb0 : -(10 ^ 30) ≤ begin) (hb1 : begin ≤ 10 ^ 30) (hw0 : 0 ≤ wide) (hw1 : wide ≤ 50) :
    ∀ (nn : Nat) (l0 : Int) (x5 x8 : Option D) (W : WS) (acc : IP) (m k : Nat), nn ≤ 60 → PoolOk W a m → m + 3 * nn ≤ 999000 → Draft begin p (10 ^ 31) k acc → W b = some (.dK (mkI acc)) →
    k + nn ≤ 1000 → (∀ acc' W' x5 x8, Draft begin p (10 ^ 31) (k + nn) acc' → W' b = some (.dK (mkI acc')) → ExB [a, b] W W' → PoolOk W' a (m + 3 * nn) → P.nx [some (.obj a), some (.tup [.int p, .lst (ts.map prD)]), some d2, some d3, some (.int begin), x5, some (.int wide), some (.obj b), x8] W') →
    forW (.nm 5) (b__law_row_1 C) PX P (rngD l0 nn) [some (.obj a), some (.tup [.int p, .lst (ts.map prD)]), some d2, some d3, some (.int begin), x5, some (.int wide), some (.obj b), x8] W
  | 0, l0, x5, x8, W, acc, m, k, _, hpool, _, hd, hw, hk, K => K acc W x5 x8 hd hw ExB.refl (hpool.more (by omega))
  | nn + 1, l0, x5, x8, W, acc, m, k, hn, hpool, hm, hd, hw, hk, K => by
    have ih := row_turns (C := C) (a := a) (b := b) (ts := ts) (d2 := d2) (d3 := d3) (P := P) (PX := PX) hp hp5 hab hb0 hb1 hw0 hw1 nn (l0 + 1)
    rw [rngD_succ]
    show bindG _ _ _ _
    generalize hK : forW (.nm 5) (b__law_row_1 C) PX P (rngD (l0 + 1) nn) = Kf
    simp only [hK] at ih
    simp only [b__law_row_1, wRaise, wTry, wXVal, wXIs, wXIsV, wCallX, fMulS, wSeq, wLRg1, wLRg2, wRngB, mExtend, wSetIxN, wBoxN, fNotInN, fGetN, wForEn, wSealQ, wPopD, wRep, wAug, wAsg, wSkip, wIf, wRet, wRetN, wDrop, wB, wTru, wBin, wUn, wApp, wAppF, wVal, wBox, wVar, wC, wFrz, wCons, wNil, wLst, wTup, wPar2, wPar3, wSetIx, wSetFld, wMu, wAnd, wOr, wNot, wAndV, wOrV, wNotV, wIte, wChain, wGet2, wFld, wProp, wMeth, wMethK, wCall, wCallK, wMakeK, wSeal, wOwn, wDisp, wPs, wDnK, wSortIt, wRev, wSlc, wONo, wOYes, wFor, wForLk, wIter, wRng1, wRng2, wEnum, wLc, wLcLk, wDc, wDcLk, wSetV, wSetB, wNo, wNoE, wYes, fAdd, fSub, fMul, fDiv, fMod, fPow, fLt, fLe, fGt, fGe, fNeg, fIsN, fNotN, isN, fInt, fAbs, bindG, Ob.toD, env0, List.map_cons, List.map_nil, List.cons_append, List.nil_append, List.append_nil, List.length_cons, List.length_nil, List.replicate_succ, List.replicate_zero, List.replicate, List.getElem?_cons_zero, List.getElem?_cons_succ, List.set_cons_zero, List.set_cons_succ, Option.some.injEq, exists_eq_left', exists_eq_left, D.int.injEq, D.bl.injEq, D.obj.injEq, keyD, keysD, fSet, mAppend, mInsert, mPop, mReverse, mClear, WS.put_same, dkD, lookD, truD, seqD, wipeD, List.set_nil]
    refine draw_ok hpool (by omega) (by omega) (by omega) fun y W1 y0 y1 e1 k1 p1 => ⟨by decide, draw_ok p1 (by omega) (by omega) (by omega) fun z W2 z0 z1 e2 k2 p2 => ?_⟩
    have hs : ∃ s, atI [D.int wide, D.int y] z = some (.int s) ∧ 0 ≤ s ∧ s ≤ 50 := by
      have : z = 0 ∨ z = 1 := by omega
      rcases this with rfl | rfl
      · exact ⟨_, rfl, hw0, hw1⟩
      · exact ⟨_, rfl, y0, by omega⟩
    obtain ⟨s, hs, s0, s1⟩ := hs
    refine fGet_lst rfl hs ?_
    simp only [wRaise, wTry, wXVal, wXIs, wXIsV, wCallX, fMulS, wSeq, wLRg1, wLRg2, wRngB, mExtend, wSetIxN, wBoxN, fNotInN, fGetN, wForEn, wSealQ, wPopD, wRep, wAug, wAsg, wSkip, wIf, wRet, wRetN, wDrop, wB, wTru, wBin, wUn, wApp, wAppF, wVal, wBox, wVar, wC, wFrz, wCons, wNil, wLst, wTup, wPar2, wPar3, wSetIx, wSetFld, wMu, wAnd, wOr, wNot, wAndV, wOrV, wNotV, wIte, wChain, wGet2, wFld, wProp, wMeth, wMethK, wCall, wCallK, wMakeK, wSeal, wOwn, wDisp, wPs, wDnK, wSortIt, wRev, wSlc, wONo, wOYes, wFor, wForLk, wIter, wRng1, wRng2, wEnum, wLc, wLcLk, wDc, wDcLk, wSetV, wSetB, wNo, wNoE, wYes, fAdd, fSub, fMul, fDiv, fMod, fPow, fLt, fLe, fGt, fGe, fNeg, fIsN, fNotN, isN, fInt, fAbs, bindG, Ob.toD, env0, List.map_cons, List.map_nil, List.cons_append, List.nil_append, List.append_nil, List.length_cons, List.length_nil, List.replicate_succ, List.replicate_zero, List.replicate, List.getElem?_cons_zero, List.getElem?_cons_succ, List.set_cons_zero, List.set_cons_succ, Option.some.injEq, exists_eq_left', exists_eq_left, D.int.injEq, D.bl.injEq, D.obj.injEq, keyD, keysD, fSet, mAppend, mInsert, mPop, mReverse, mClear, WS.put_same, dkD, lookD, truD, seqD, wipeD, List.set_nil]
    refine fGet_tup rfl (x := .int p) rfl ?_
    simp only [wRaise, wTry, wXVal, wXIs, wXIsV, wCallX, fMulS, wSeq, wLRg1, wLRg2, wRngB, mExtend, wSetIxN, wBoxN, fNotInN, fGetN, wForEn, wSealQ, wPopD, wRep, wAug, wAsg, wSkip, wIf, wRet, wRetN, wDrop, wB, wTru, wBin, wUn, wApp, wAppF, wVal, wBox, wVar, wC, wFrz, wCons, wNil, wLst, wTup, wPar2, wPar3, wSetIx, wSetFld, wMu, wAnd, wOr, wNot, wAndV, wOrV, wNotV, wIte, wChain, wGet2, wFld, wProp, wMeth, wMethK, wCall, wCallK, wMakeK, wSeal, wOwn, wDisp, wPs, wDnK, wSortIt, wRev, wSlc, wONo, wOYes, wFor, wForLk, wIter, wRng1, wRng2, wEnum, wLc, wLcLk, wDc, wDcLk, wSetV, wSetB, wNo, wNoE, wYes, fAdd, fSub, fMul, fDiv, fMod, fPow, fLt, fLe, fGt, fGe, fNeg, fIsN, fNotN, isN, fInt, fAbs, bindG, Ob.toD, env0, List.map_cons, List.map_nil, List.cons_append, List.nil_append, List.append_nil, List.length_cons, List.length_nil, List.replicate_succ, List.replicate_zero, List.replicate, List.getElem?_cons_zero, List.getElem?_cons_succ, List.set_cons_zero, List.set_cons_succ, Option.some.injEq, exists_eq_left', exists_eq_left, D.int.injEq, D.bl.injEq, D.obj.injEq, keyD, keysD, fSet, mAppend, mInsert, mPop, mReverse, mClear, WS.put_same, dkD, lookD, truD, seqD, wipeD, List.set_nil]
    refine draw_ok p2 (by omega) (by omega) (by omega) fun v W3 v0 v1 e3 k3 p3 => ?_
    have hw3 : W3 b = some (.dK (mkI acc)) := by rw [k3 b (Ne.symm hab), k2 b (Ne.symm hab), k1 b (Ne.symm hab)]; exact hw
    simp only [wRaise, wTry, wXVal, wXIs, wXIsV, wCallX, fMulS, wSeq, wLRg1, wLRg2, wRngB, mExtend, wSetIxN, wBoxN, fNotInN, fGetN, wForEn, wSealQ, wPopD, wRep, wAug, wAsg, wSkip, wIf, wRet, wRetN, wDrop, wB, wTru, wBin, wUn, wApp, wAppF, wVal, wBox, wVar, wC, wFrz, wCons, wNil, wLst, wTup, wPar2, wPar3, wSetIx, wSetFld, wMu, wAnd, wOr, wNot, wAndV, wOrV, wNotV, wIte, wChain, wGet2, wFld, wProp, wMeth, wMethK, wCall, wCallK, wMakeK, wSeal, wOwn, wDisp, wPs, wDnK, wSortIt, wRev, wSlc, wONo, wOYes, wFor, wForLk, wIter, wRng1, wRng2, wEnum, wLc, wLcLk, wDc, wDcLk, wSetV, wSetB, wNo, wNoE, wYes, fAdd, fSub, fMul, fDiv, fMod, fPow, fLt, fLe, fGt, fGe, fNeg, fIsN, fNotN, isN, fInt, fAbs, bindG, Ob.toD, env0, List.map_cons, List.map_nil, List.cons_append, List.nil_append, List.append_nil, List.length_cons, List.length_nil, List.replicate_succ, List.replicate_zero, List.replicate, List.getElem?_cons_zero, List.getElem?_cons_succ, List.set_cons_zero, List.set_cons_succ, Option.some.injEq, exists_eq_left', exists_eq_left, D.int.injEq, D.bl.injEq, D.obj.injEq, keyD, keysD, fSet, mAppend, mInsert, mPop, mReverse, mClear, WS.put_same, dkD, lookD, truD, seqD, wipeD, List.set_nil]
    refine ⟨b, _, rfl, hw3, _, rfl, by rw [len_mk]; have := hd.len; exact sz_small (by omega), ?_⟩
    rw [putKD_mk]
    have g3 : -(10 ^ 31 : Int) ≤ begin + s := by omega
    have g4 : begin + s ≤ (10 ^ 31 : Int) := by omega
    refine ih _ _ _ _ (m + 3) (k + 1) (by omega) (PoolOk.keep p3 (WS.put_ne hab)) (by omega) (hd.put (k := begin + s) (v := 1 + v) (by omega) (by omega) g3 g4 (by omega) (by omega)) WS.put_same (by omega) fun acc' W' x5 x8 q1 q2 q3 q4 => ?_
    refine K acc' W' x5 x8 ⟨q1.nd, q1.vl, q1.bd, by have := q1.len; omega, q1.ne, q1.wi⟩ q2 ?_ (q4.more (by omega))
    exact ((((e1.mono (by simp)).trans (e2.mono (by simp))).trans (e3.mono (by simp))).trans (ExB.put (.inl (by simp)))).trans q3
theorem law__law_row (C : Addr) : ∀ ds W Q PX, sp__law_row C ds W Q PX → ds.length = P__law_row.length ∧ w__law_row C PX { nx := fun _ W' => Q .non W', rt := Q } (env0 N__law_row ds) W := by
  rintro ds W Q PX ⟨a, p, ts, m, far, n, rfl, hk, hm0, hm, hf0, hf, hn, hpool, h⟩
  refine ⟨rfl, ?_⟩
  have hp : 2 ≤ p ∧ p ≤ 5 := by rcases hk.pr with h | h | h <;> omega
  generalize hB : b__law_row_1 C = Bd
  simp only [w__law_row, N__law_row, wRaise, wTry, wXVal, wXIs, wXIsV, wCallX, fMulS, wSeq, wLRg1, wLRg2, wRngB, mExtend, wSetIxN, wBoxN, fNotInN, fGetN, wForEn, wSealQ, wPopD, wRep, wAug, wAsg, wSkip, wIf, wRet, wRetN, wDrop, wB, wTru, wBin, wUn, wApp, wAppF, wVal, wBox, wVar, wC, wFrz, wCons, wNil, wLst, wTup, wPar2, wPar3, wSetIx, wSetFld, wMu, wAnd, wOr, wNot, wAndV, wOrV, wNotV, wIte, wChain, wGet2, wFld, wProp, wMeth, wMethK, wCall, wCallK, wMakeK, wSeal, wOwn, wDisp, wPs, wDnK, wSortIt, wRev, wSlc, wONo, wOYes, wFor, wForLk, wIter, wRng1, wRng2, wEnum, wLc, wLcLk, wDc, wDcLk, wSetV, wSetB, wNo, wNoE, wYes, fAdd, fSub, fMul, fDiv, fMod, fPow, fLt, fLe, fGt, fGe, fNeg, fIsN, fNotN, isN, fInt, fAbs, bindG, Ob.toD, env0, List.map_cons, List.map_nil, List.cons_append, List.nil_append, List.append_nil, List.length_cons, List.length_nil, List.replicate_succ, List.replicate_zero, List.replicate, List.getElem?_cons_zero, List.getElem?_cons_succ, List.set_cons_zero, List.set_cons_succ, Option.some.injEq, exists_eq_left', exists_eq_left, D.int.injEq, D.bl.injEq, D.obj.injEq, keyD, keysD, fSet, mAppend, mInsert, mPop, mReverse, mClear, WS.put_same, dkD, lookD, truD, seqD, wipeD, List.set_nil, hB]
  refine draw_ok hpool (by omega) (by omega) (by omega) fun y W1 y0 y1 e1 k1 p1 => ?_
  simp only [wRaise, wTry, wXVal, wXIs, wXIsV, wCallX, fMulS, wSeq, wLRg1, wLRg2, wRngB, mExtend, wSetIxN, wBoxN, fNotInN, fGetN, wForEn, wSealQ, wPopD, wRep, wAug, wAsg, wSkip, wIf, wRet, wRetN, wDrop, wB, wTru, wBin, wUn, wApp, wAppF, wVal, wBox, wVar, wC, wFrz, wCons, wNil, wLst, wTup, wPar2, wPar3, wSetIx, wSetFld, wMu, wAnd, wOr, wNot, wAndV, wOrV, wNotV, wIte, wChain, wGet2, wFld, wProp, wMeth, wMethK, wCall, wCallK, wMakeK, wSeal, wOwn, wDisp, wPs, wDnK, wSortIt, wRev, wSlc, wONo, wOYes, wFor, wForLk, wIter, wRng1, wRng2, wEnum, wLc, wLcLk, wDc, wDcLk, wSetV, wSetB, wNo, wNoE, wYes, fAdd, fSub, fMul, fDiv, fMod, fPow, fLt, fLe, fGt, fGe, fNeg, fIsN, fNotN, isN, fInt, fAbs, bindG, Ob.toD, env0, List.map_cons, List.map_nil, List.cons_append, List.nil_append, List.append_nil, List.length_cons, List.length_nil, List.replicate_succ, List.replicate_zero, List.replicate, List.getElem?_cons_zero, List.getElem?_cons_succ, List.set_cons_zero, List.set_cons_succ, Option.some.injEq, exists_eq_left', exists_eq_left, D.int.injEq, D.bl.injEq, D.obj.injEq, keyD, keysD, fSet, mAppend, mInsert, mPop, mReverse, mClear, WS.put_same, dkD, lookD, truD, seqD, wipeD, List.set_nil]
  refine ⟨wide_mul (a := 10) (b := 200) (by decide) (by omega) (by omega) (by omega) (by omega), ?_⟩
  refine draw_ok p1 (by omega) (by omega) (by omega) fun z W2 z0 z1 e2 k2 p2 => ?_
  simp only [wRaise, wTry, wXVal, wXIs, wXIsV, wCallX, fMulS, wSeq, wLRg1, wLRg2, wRngB, mExtend, wSetIxN, wBoxN, fNotInN, fGetN, wForEn, wSealQ, wPopD, wRep, wAug, wAsg, wSkip, wIf, wRet, wRetN, wDrop, wB, wTru, wBin, wUn, wApp, wAppF, wVal, wBox, wVar, wC, wFrz, wCons, wNil, wLst, wTup, wPar2, wPar3, wSetIx, wSetFld, wMu, wAnd, wOr, wNot, wAndV, wOrV, wNotV, wIte, wChain, wGet2, wFld, wProp, wMeth, wMethK, wCall, wCallK, wMakeK, wSeal, wOwn, wDisp, wPs, wDnK, wSortIt, wRev, wSlc, wONo, wOYes, wFor, wForLk, wIter, wRng1, wRng2, wEnum, wLc, wLcLk, wDc, wDcLk, wSetV, wSetB, wNo, wNoE, wYes, fAdd, fSub, fMul, fDiv, fMod, fPow, fLt, fLe, fGt, fGe, fNeg, fIsN, fNotN, isN, fInt, fAbs, bindG, Ob.toD, env0, List.map_cons, List.map_nil, List.cons_append, List.nil_append, List.append_nil, List.length_cons, List.length_nil, List.replicate_succ, List.replicate_zero, List.replicate, List.getElem?_cons_zero, List.getElem?_cons_succ, List.set_cons_zero, List.set_cons_succ, Option.some.injEq, exists_eq_left', exists_eq_left, D.int.injEq, D.bl.injEq, D.obj.injEq, keyD, keysD, fSet, mAppend, mInsert, mPop, mReverse, mClear, WS.put_same, dkD, lookD, truD, seqD, wipeD, List.set_nil]
  refine ⟨by decide, draw_ok p2 (by omega) (by omega) (by omega) fun t W3 t0 t1 e3 k3 p3 => ?_⟩
  have hb : ∃ s, atI [D.int 0, D.int (y - 10), D.int (z - far)] t = some (.int s) ∧ -(10 ^ 30) ≤ s ∧ s ≤ 10 ^ 30 := by
    have : t = 0 ∨ t = 1 ∨ t = 2 := by omega
    rcases this with rfl | rfl | rfl
    · exact ⟨_, rfl, by omega, by omega⟩
    · exact ⟨_, rfl, by omega, by omega⟩
    · exact ⟨_, rfl, by omega, by omega⟩
  obtain ⟨begin, hb, b0, b1⟩ := hb
  refine fGet_lst rfl hb ?_
  refine draw_ok p3 (by omega) (by omega) (by omega) fun y' W4 y0' y1' e4 k4 p4 => ?_
  refine draw_ok p4 (by omega) (by omega) (by omega) fun z' W5 z0' z1' e5 k5 p5 => ?_
  refine ⟨by decide, draw_ok p5 (by omega) (by omega) (by omega) fun t' W6 t0' t1' e6 k6 p6 => ?_⟩
  have hw : ∃ s, atI [D.int y', D.int 40, D.int z'] t' = some (.int s) ∧ 0 ≤ s ∧ s ≤ 50 := by
    have : t' = 0 ∨ t' = 1 ∨ t' = 2 := by omega
    rcases this with rfl | rfl | rfl
    · exact ⟨_, rfl, by omega, by omega⟩
    · exact ⟨_, rfl, by omega, by omega⟩
    · exact ⟨_, rfl, by omega, by omega⟩
  obtain ⟨wide, hw, w0, w1⟩ := hw
  refine fGet_lst rfl hw fun b hbn => ?_
  have hab : a ≠ b := fun c => by
    subst c
    obtain ⟨_, _, _, hw, _⟩ := p6.ex
    rw [hbn] at hw
    cases hw
  refine fGet_tup rfl (x := .int p) rfl ?_
  simp only [wRaise, wTry, wXVal, wXIs, wXIsV, wCallX, fMulS, wSeq, wLRg1, wLRg2, wRngB, mExtend, wSetIxN, wBoxN, fNotInN, fGetN, wForEn, wSealQ, wPopD, wRep, wAug, wAsg, wSkip, wIf, wRet, wRetN, wDrop, wB, wTru, wBin, wUn, wApp, wAppF, wVal, wBox, wVar, wC, wFrz, wCons, wNil, wLst, wTup, wPar2, wPar3, wSetIx, wSetFld, wMu, wAnd, wOr, wNot, wAndV, wOrV, wNotV, wIte, wChain, wGet2, wFld, wProp, wMeth, wMethK, wCall, wCallK, wMakeK, wSeal, wOwn, wDisp, wPs, wDnK, wSortIt, wRev, wSlc, wONo, wOYes, wFor, wForLk, wIter, wRng1, wRng2, wEnum, wLc, wLcLk, wDc, wDcLk, wSetV, wSetB, wNo, wNoE, wYes, fAdd, fSub, fMul, fDiv, fMod, fPow, fLt, fLe, fGt, fGe, fNeg, fIsN, fNotN, isN, fInt, fAbs, bindG, Ob.toD, env0, List.map_cons, List.map_nil, List.cons_append, List.nil_append, List.append_nil, List.length_cons, List.length_nil, List.replicate_succ, List.replicate_zero, List.replicate, List.getElem?_cons_zero, List.getElem?_cons_succ, List.set_cons_zero, List.set_cons_succ, Option.some.injEq, exists_eq_left', exists_eq_left, D.int.injEq, D.bl.injEq, D.obj.injEq, keyD, keysD, fSet, mAppend, mInsert, mPop, mReverse, mClear, WS.put_same, dkD, lookD, truD, seqD, wipeD, List.set_nil]
  refine draw_ok (PoolOk.keep p6 (WS.put_ne hab)) (by omega) (by omega) (by omega) fun v W7 v0 v1 e7 k7 p7 => ?_
  have hw7 : W7 b = some (.dK []) := by rw [k7 b (Ne.symm hab)]; exact WS.put_same
  simp only [wRaise, wTry, wXVal, wXIs, wXIsV, wCallX, fMulS, wSeq, wLRg1, wLRg2, wRngB, mExtend, wSetIxN, wBoxN, fNotInN, fGetN, wForEn, wSealQ, wPopD, wRep, wAug, wAsg, wSkip, wIf, wRet, wRetN, wDrop, wB, wTru, wBin, wUn, wApp, wAppF, wVal, wBox, wVar, wC, wFrz, wCons, wNil, wLst, wTup, wPar2, wPar3, wSetIx, wSetFld, wMu, wAnd, wOr, wNot, wAndV, wOrV, wNotV, wIte, wChain, wGet2, wFld, wProp, wMeth, wMethK, wCall, wCallK, wMakeK, wSeal, wOwn, wDisp, wPs, wDnK, wSortIt, wRev, wSlc, wONo, wOYes, wFor, wForLk, wIter, wRng1, wRng2, wEnum, wLc, wLcLk, wDc, wDcLk, wSetV, wSetB, wNo, wNoE, wYes, fAdd, fSub, fMul, fDiv, fMod, fPow, fLt, fLe, fGt, fGe, fNeg, fIsN, fNotN, isN, fInt, fAbs, bindG, Ob.toD, env0, List.map_cons, List.map_nil, List.cons_append, List.nil_append, List.append_nil, List.length_cons, List.length_nil, List.replicate_succ, List.replicate_zero, List.replicate, List.getElem?_cons_zero, List.getElem?_cons_succ, List.set_cons_zero, List.set_cons_succ, Option.some.injEq, exists_eq_left', exists_eq_left, D.int.injEq, D.bl.injEq, D.obj.injEq, keyD, keysD, fSet, mAppend, mInsert, mPop, mReverse, mClear, WS.put_same, dkD, lookD, truD, seqD, wipeD, List.set_nil]
  refine ⟨b, _, rfl, hw7, _, rfl, by decide, ?_⟩
  rw [show putKD [] (.inl begin) (D.int (1 + v)) = mkI [(begin, 1 + v)] from rfl]
  refine draw_ok (PoolOk.keep p7 (WS.put_ne hab)) (by omega) (by omega) (by omega) fun r W8 r0 r1 e8 k8 p8 => ?_
  simp only [wRaise, wTry, wXVal, wXIs, wXIsV, wCallX, fMulS, wSeq, wLRg1, wLRg2, wRngB, mExtend, wSetIxN, wBoxN, fNotInN, fGetN, wForEn, wSealQ, wPopD, wRep, wAug, wAsg, wSkip, wIf, wRet, wRetN, wDrop, wB, wTru, wBin, wUn, wApp, wAppF, wVal, wBox, wVar, wC, wFrz, wCons, wNil, wLst, wTup, wPar2, wPar3, wSetIx, wSetFld, wMu, wAnd, wOr, wNot, wAndV, wOrV, wNotV, wIte, wChain, wGet2, wFld, wProp, wMeth, wMethK, wCall, wCallK, wMakeK, wSeal, wOwn, wDisp, wPs, wDnK, wSortIt, wRev, wSlc, wONo, wOYes, wFor, wForLk, wIter, wRng1, wRng2, wEnum, wLc, wLcLk, wDc, wDcLk, wSetV, wSetB, wNo, wNoE, wYes, fAdd, fSub, fMul, fDiv, fMod, fPow, fLt, fLe, fGt, fGe, fNeg, fIsN, fNotN, isN, fInt, fAbs, bindG, Ob.toD, env0, List.map_cons, List.map_nil, List.cons_append, List.nil_append, List.append_nil, List.length_cons, List.length_nil, List.replicate_succ, List.replicate_zero, List.replicate, List.getElem?_cons_zero, List.getElem?_cons_succ, List.set_cons_zero, List.set_cons_succ, Option.some.injEq, exists_eq_left', exists_eq_left, D.int.injEq, D.bl.injEq, D.obj.injEq, keyD, keysD, fSet, mAppend, mInsert, mPop, mReverse, mClear, WS.put_same, dkD, lookD, truD, seqD, wipeD, List.set_nil]
  refine ⟨⟨by omega, by omega⟩, ?_⟩
  subst hB
  have hw8 : W8 b = some (.dK (mkI [(begin, 1 + v)])) := by rw [k8 b (Ne.symm hab)]; exact WS.put_same
  refine row_turns (by omega) (by omega) hab b0 b1 w0 w1 r.toNat 0 _ _ W8 _ (n + 8) 1 (by omega) p8 (by omega) (Draft.one (B := 10 ^ 31) (by omega) (by omega) (show -(10 ^ 31 : Int) ≤ begin by omega) (show begin ≤ (10 ^ 31 : Int) by omega)) hw8 (by omega) fun acc W9 x5 x8 q1 q2 q3 q4 => ?_
  simp only [wRaise, wTry, wXVal, wXIs, wXIsV, wCallX, fMulS, wSeq, wLRg1, wLRg2, wRngB, mExtend, wSetIxN, wBoxN, fNotInN, fGetN, wForEn, wSealQ, wPopD, wRep, wAug, wAsg, wSkip, wIf, wRet, wRetN, wDrop, wB, wTru, wBin, wUn, wApp, wAppF, wVal, wBox, wVar, wC, wFrz, wCons, wNil, wLst, wTup, wPar2, wPar3, wSetIx, wSetFld, wMu, wAnd, wOr, wNot, wAndV, wOrV, wNotV, wIte, wChain, wGet2, wFld, wProp, wMeth, wMethK, wCall, wCallK, wMakeK, wSeal, wOwn, wDisp, wPs, wDnK, wSortIt, wRev, wSlc, wONo, wOYes, wFor, wForLk, wIter, wRng1, wRng2, wEnum, wLc, wLcLk, wDc, wDcLk, wSetV, wSetB, wNo, wNoE, wYes, fAdd, fSub, fMul, fDiv, fMod, fPow, fLt, fLe, fGt, fGe, fNeg, fIsN, fNotN, isN, fInt, fAbs, bindG, Ob.toD, env0, List.map_cons, List.map_nil, List.cons_append, List.nil_append, List.append_nil, List.length_cons, List.length_nil, List.replicate_succ, List.replicate_zero, List.replicate, List.getElem?_cons_zero, List.getElem?_cons_succ, List.set_cons_zero, List.set_cons_succ, Option.some.injEq, exists_eq_left', exists_eq_left, D.int.injEq, D.bl.injEq, D.obj.injEq, keyD, keysD, fSet, mAppend, mInsert, mPop, mReverse, mClear, WS.put_same, dkD, lookD, truD, seqD, wipeD, List.set_nil]
  refine ⟨_, acc, view_ob q2, ipD_mk acc, fun qs hperm hs => ?_⟩
  refine h qs W9 ⟨asc_of_perm q1.nd hperm hs, fun q hq => q1.vl q (hperm.mem_iff.mp hq), fun q hq => q1.bd q (hperm.mem_iff.mp hq), by rw [hperm.length_eq]; have := q1.len; omega⟩ ⟨begin, fun q hq => q1.wi q (hperm.mem_iff.mp hq)⟩ (fun e => ?_) (by rw [hperm.length_eq]; have := q1.len; omega) ?_ (q4.more (by omega))
  · subst e
    exact q1.ne (List.Perm.eq_nil hperm.symm)
  · intro c ob hc ec
    have hca : c ≠ a := fun z => hc (by rw [z]; exact List.mem_cons_self)
    have e6' := ((((((e1.trans e2).trans e3).trans e4).trans e5).trans e6)) c ob hc ec
    have hcb : c ≠ b := fun z => by subst z; rw [hbn] at e6'; cases e6'
    have h7 := e7 c ob hc (by rw [WS.put_ne hcb]; exact e6')
    have h8 := e8 c ob hc (by rw [WS.put_ne hcb]; exact h7)
    exact q3 c ob (by simp [hca, hcb]) h8
end DL

set_option maxRecDepth 100000
set_option maxHeartbeats 4000000
set_option linter.all false
namespace DL
open PySem PySem.Spec PyProof.Rows L2
/-! ## repr of a row -/
theorem weight_int {i : Int} {k : Nat} (h : i.natAbs < 2 ^ k) : PyData.weight (.int i) ≤ k := by
  simp only [PyData.weight]
  split
  · omega
  · rename_i c
    have c' : i.natAbs ≠ 0 := by
      intro e
      have : i = 0 := by omega
      exact c (by rw [this]; rfl)
    have := (Nat.log2_lt c').mpr h
    omega
theorem weight_pr : ∀ {ps : IP}, (∀ q ∈ ps, q.1.natAbs < 2 ^ 134 ∧ q.2.natAbs < 2 ^ 4) → PyData.weightAll (ps.map prP) ≤ 141 * ps.length
  | [], _ => by simp only [List.map_nil, PyData.weightAll, List.length_nil]; omega
  | q :: r, h => by
    have ih := weight_pr (ps := r) fun z hz => h z (List.mem_cons_of_mem _ hz)
    have h1 := h q List.mem_cons_self
    have w1 := weight_int h1.1
    have w2 := weight_int h1.2
    have e : PyData.weight (prP q) = PyData.weight (.int q.1) + 1 + (PyData.weight (.int q.2) + 1 + 0) := by
      simp only [prP, PyData.weight, PyData.weightAll]
    simp only [List.map_cons, PyData.weightAll, List.length_cons]
    omega
theorem leaf_int {i : Int} (h : i.natAbs < 10 ^ 40) : (PyData.shown (.int i)).length ≤ 41 := by
  have e := int_text_length_le10 (k := 40) (by decide) h
  show (Str.ofString (toString i)).length ≤ 41
  rw [PySem.ofString_length]; exact e
theorem leaf_pr : ∀ {ps : IP}, (∀ q ∈ ps, q.1.natAbs < 10 ^ 40 ∧ q.2.natAbs < 10 ^ 40) → PyData.leavesShortAll 41 (ps.map prP) = true
  | [], _ => by simp only [List.map_nil, PyData.leavesShortAll]
  | q :: r, h => by
    have h1 := h q List.mem_cons_self
    have e1 : decide ((PyData.shown (.int q.1)).length ≤ 41) = true := decide_eq_true (leaf_int h1.1)
    have e2 : decide ((PyData.shown (.int q.2)).length ≤ 41) = true := decide_eq_true (leaf_int h1.2)
    simp only [List.map_cons, PyData.leavesShortAll, PyData.leavesShort, prP, e1, e2, leaf_pr (ps := r) fun z hz => h z (List.mem_cons_of_mem _ hz), Bool.and_self]
theorem show_pr : ∀ {ps : IP}, (∀ q ∈ ps, q.1.natAbs < 2 ^ 134 ∧ q.2.natAbs < 2 ^ 4) → PyData.showableAll (ps.map prP) = true
  | [], _ => by simp only [List.map_nil, PyData.showableAll]
  | q :: r, h => by
    have h1 := h q List.mem_cons_self
    have lg : ∀ {i : Int} {k : Nat}, i.natAbs < 2 ^ k → k ≤ 1000 → i.natAbs.log2 < 1920 := fun {i k} h hk => by
      by_cases c : i.natAbs = 0
      · rw [c]; decide
      · have := (Nat.log2_lt c).mpr h; omega
    have e1 : decide (q.1.natAbs.log2 < 1920) = true := decide_eq_true (lg h1.1 (by omega))
    have e2 : decide (q.2.natAbs.log2 < 1920) = true := decide_eq_true (lg h1.2 (by omega))
    simp only [List.map_cons, PyData.showableAll, PyData.showable, prP, e1, e2, show_pr (ps := r) fun z hz => h z (List.mem_cons_of_mem _ hz), Bool.and_self]
theorem repr_row {W : WS} {d : D} {ps : IP} {P : D → Prop} (hv : view W d = .lst (ps.map prD)) (hl : ps.length ≤ 2500) (hb : ∀ q ∈ ps, q.1.natAbs < 10 ^ 40 ∧ q.2.natAbs < 10) (h : P (.str (PyData.shown (.list (ps.map prP))))) : fRepr [d] W P := by
  have hb2 : ∀ q ∈ ps, q.1.natAbs < 2 ^ 134 ∧ q.2.natAbs < 2 ^ 4 := fun q hq => by
    have := hb q hq
    omega
  have hd := depth_pr ps
  have w := weight_pr hb2
  have s := PyData.shown_le 41 (by decide) (.list (ps.map prP)) (by simp only [PyData.leavesShort]; exact leaf_pr fun q hq => by have := hb q hq; omega)
  simp only [PyData.weight] at s
  unfold fRepr
  simp only [hv, plainD, plain_pr, toP, toPs_pr, PyData.showable, show_pr hb2, PyData.depth, true_and]
  refine ⟨by omega, ?_, h⟩
  rw [sizeLine_eq]
  omega
/-! ## turned about -/
theorem negI_keys (ps : IP) : (negI ps).map (·.1) = (ps.map (·.1)).map fun x => -x := by
  unfold negI; rw [List.map_map, List.map_map]; rfl
theorem negI_nd {ps : IP} (h : (ps.map (·.1)).Nodup) : ((negI ps).map (·.1)).Nodup := by
  rw [negI_keys]
  unfold List.Nodup at h ⊢
  rw [List.pairwise_map]
  exact List.Pairwise.imp (fun {a b} (z : a ≠ b) => by omega) h
theorem getI_neg (x : Int) : ∀ ps : IP, getI x (negI ps) = getI (-x) ps
  | [] => rfl
  | (k, v) :: r => by
    have ih := getI_neg x r
    show (if -k = x then some v else getI x (negI r)) = if k = -x then some v else getI (-x) r
    by_cases c : -k = x
    · rw [if_pos c, if_pos (by omega)]
    · rw [if_neg c, if_neg (by omega), ih]
theorem lookI_neg (x : Int) (ps : IP) : lookI (negI ps) x = lookI ps (-x) := by unfold lookI; rw [getI_neg]
theorem cs_neg (k v x : Int) : ∀ o : IP, cs (-k) v x (negI o) = cs k v (-x) o
  | [] => rfl
  | q :: r => by
    have ih := cs_neg k v x r
    show (if x = -k + -q.1 then v * q.2 else 0) + cs (-k) v x (negI r) = (if -x = k + q.1 then v * q.2 else 0) + cs k v (-x) r
    rw [ih]
    by_cases c : x = -k + -q.1
    · rw [if_pos c, if_pos (by omega)]
    · rw [if_neg c, if_neg (by omega)]
theorem tot_neg (o : IP) (x : Int) : ∀ l : IP, tot (negI o) x (negI l) = tot o (-x) l
  | [] => rfl
  | q :: r => by
    have ih := tot_neg o x r
    show cs (-q.1) q.2 x (negI o) + tot (negI o) x (negI r) = cs q.1 q.2 (-x) o + tot o (-x) r
    rw [ih, cs_neg]
theorem vl_ne {p : Int} {ps : IP} (h : Vl p ps) : ∀ q ∈ ps, q.2 ≠ 0 := fun q hq => by have := h q hq; omega
theorem vl_perm {p : Int} {ps qs : IP} (h : Vl p ps) (hp : qs.Perm ps) : Vl p qs := fun q hq => h q (hp.mem_iff.mp hq)
theorem vl_neg {p : Int} {ps : IP} (h : Vl p ps) : Vl p (negI ps) := fun q hq => by
  obtain ⟨z, hz, rfl⟩ := List.mem_map.mp hq
  exact h z hz
theorem RuleAt.keep {C : Addr} {W W' : WS} {a : Addr} {p : Int} {ps : IP} {S : List Addr} (h : RuleAt C W a p ps) (e : ExB S W W') (ha : a ∉ S) (hS : ∀ pw, W pw = some (.lst (pwL p ps p.toNat)) → pw ∉ S := by simp) : RuleAt C W' a p ps := by
  obtain ⟨pw, lo, h, hw⟩ := h.ex
  exact ⟨pw, lo, e a _ ha h, e pw _ (hS pw hw) hw⟩
theorem s_mm : ¬ (("mirrored" : Str) = "modulus") := by decide +kernel
theorem s_mq : ¬ (("mirrored" : Str) = "parts") := by decide +kernel
theorem s_mw2 : ¬ (("mirrored" : Str) = "powers") := by decide +kernel
theorem s_ml2 : ¬ (("mirrored" : Str) = "lowered") := by decide +kernel
theorem s_nm : ¬ (("next_row" : Str) = "modulus") := by decide +kernel
theorem s_nq : ¬ (("next_row" : Str) = "parts") := by decide +kernel
theorem s_nw2 : ¬ (("next_row" : Str) = "powers") := by decide +kernel
theorem s_nl2 : ¬ (("next_row" : Str) = "lowered") := by decide +kernel
theorem noMir {m v u z : D} : lookD "mirrored" [("modulus", m), ("parts", v), ("powers", u), ("lowered", z)] = none := by
  simp only [lookD, s_mm, s_mq, s_mw2, s_ml2, if_false]
theorem noNext {m v u z : D} : lookD "next_row" [("modulus", m), ("parts", v), ("powers", u), ("lowered", z)] = none := by
  simp only [lookD, s_nm, s_nq, s_nw2, s_nl2, if_false]
theorem PoolOk.ext {W W' : WS} {a : Addr} {n : Nat} {S : List Addr} (h : PoolOk W a n) (e : ExB S W W') (ha : a ∉ S) : PoolOk W' a n := by
  obtain ⟨p0, p1, p2, hw, r⟩ := h.ex
  exact ⟨p0, p1, p2, e a _ ha hw, r⟩
theorem next_win {p lo hi : Int} {ps ln qs : IP} (hps : Parts p ps) (w : Win lo hi ln) (h : Next p ps ln qs) : Win (lo - 100) (hi + 100) qs := by
  intro z hz
  have g := getI_mem h.1.nodup hz
  have e : lookI qs z.1 = z.2 := by unfold lookI; rw [g]; rfl
  have h1 := h.2.2 z.1
  have h2 := (h.2.1 z hz).1
  rw [e, look_mul] at h1
  have hne : tot ps z.1 ln ≠ 0 := fun c => by rw [c] at h1; simp at h1; omega
  obtain ⟨y, hy, t, ht, ey⟩ := tot_mem hne
  have b := hps.bd t ht
  have w1 := w y hy
  omega
theorem fList_lst {W : WS} {d : D} {ds : List D} {P : Ob → Prop} (hv : view W d = .lst ds) (p : P (.lst ds)) : fList [d] W P := by
  unfold fList
  simp only [hv]
  exact p
end DL

set_option maxRecDepth 100000
set_option maxHeartbeats 4000000
set_option linter.all false
namespace DL
open PySem PySem.Spec PyProof.Rows L2
theorem partI_keys {p r x : Int} {ps : IP} (h : x ∈ (partI p r ps).map (·.1)) : p * x + r ∈ ps.map (·.1) := by
  obtain ⟨q, hq, rfl⟩ := List.mem_map.mp h
  obtain ⟨z, hz, rfl⟩ := List.mem_map.mp hq
  obtain ⟨hz, hr⟩ := List.mem_filter.mp hz
  have hr : z.1 % p = r := by simpa using hr
  refine List.mem_map.mpr ⟨z, hz, ?_⟩
  have := Int.mul_ediv_add_emod z.1 p
  show z.1 = p * (z.1 / p) + r
  omega
theorem partI_cons_pos {p r k v : Int} {l : IP} (c : k % p = r) : partI p r ((k, v) :: l) = (k / p, v) :: partI p r l := by
  unfold partI
  rw [List.filter_cons_of_pos (by simpa using c), List.map_cons]
theorem partI_cons_neg {p r k v : Int} {l : IP} (c : ¬ k % p = r) : partI p r ((k, v) :: l) = partI p r l := by
  unfold partI
  rw [List.filter_cons_of_neg (by simpa using c)]
theorem partI_nodup {p r : Int} : ∀ {ps : IP}, (ps.map (·.1)).Nodup → ((partI p r ps).map (·.1)).Nodup
  | [], _ => List.nodup_nil
  | (k, v) :: l, h => by
    have h' := List.nodup_cons.mp h
    by_cases c : k % p = r
    · rw [partI_cons_pos c]
      refine List.nodup_cons.mpr ⟨fun m => ?_, partI_nodup h'.2⟩
      have m1 := partI_keys m
      have := Int.mul_ediv_add_emod k p
      have e : p * (k / p) + r = k := by omega
      rw [e] at m1
      exact h'.1 m1
    · rw [partI_cons_neg c]
      exact partI_nodup h'.2
theorem law_parted (C : Addr) : ∀ ds W Q PX, sp_parted C ds W Q PX → ds.length = P_parted.length ∧ w_parted C PX { nx := fun _ W' => Q .non W', rt := Q } (env0 N_parted ds) W := by
  rintro ds W Q PX ⟨ps, p, r, rfl, hp, hp5, hn, hz, h⟩
  have hw : ∀ k : Int, CDivW k p := fun k => ⟨hp, by
    have : p = 1 ∨ p = 2 ∨ p = 3 ∨ p = 4 ∨ p = 5 := by omega
    rcases this with rfl | rfl | rfl | rfl | rfl <;> decide⟩
  refine ⟨rfl, ?_⟩
  simp only [w_parted, N_parted, wRaise, wTry, wXVal, wXIs, wXIsV, wCallX, fMulS, wSeq, wLRg1, wLRg2, wRngB, mExtend, wSetIxN, wBoxN, fNotInN, fGetN, wForEn, wSealQ, wPopD, wRep, wAug, wAsg, wSkip, wIf, wRet, wRetN, wDrop, wB, wTru, wBin, wUn, wApp, wAppF, wVal, wBox, wVar, wC, wFrz, wCons, wNil, wLst, wTup, wPar2, wPar3, wSetIx, wSetFld, wMu, wAnd, wOr, wNot, wAndV, wOrV, wNotV, wIte, wChain, wGet2, wFld, wProp, wMeth, wMethK, wCall, wCallK, wMakeK, wSeal, wOwn, wDisp, wPs, wDnK, wSortIt, wRev, wSlc, wONo, wOYes, wFor, wForLk, wIter, wRng1, wRng2, wEnum, wLc, wLcLk, wDc, wDcLk, wSetV, wSetB, wNo, wNoE, wYes, fAdd, fSub, fMul, fDiv, fMod, fPow, fLt, fLe, fGt, fGe, fNeg, fIsN, fNotN, isN, fInt, fAbs, fGet, fIx, bindG, Ob.toD, env0, List.map_cons, List.map_nil, List.cons_append, List.nil_append, List.append_nil, List.length_cons, List.length_nil, List.replicate_succ, List.replicate_zero, List.replicate, List.getElem?_cons_zero, List.getElem?_cons_succ, List.set_cons_zero, List.set_cons_succ, Option.some.injEq, exists_eq_left', exists_eq_left, D.int.injEq, D.bl.injEq, D.obj.injEq, keyD, keysD, fSet, mAppend, mInsert, mPop, mReverse, mClear, WS.put_same, dkD, lookD, truD, seqD, wipeD, List.set_nil]
  have key : ∀ (rest : IP) (acc : IP), acc.length + rest.length < sizeLine → (∀ P : List (Key × D) → WS → Prop, P (mkI (mergeI acc (partI p r rest))) W →
      dcW (.tu (.tp (.nm 3) (.tp (.nm 4) .nl))) (wB (wBin (fEqK false) (wBin fMod (wVar 3) (wVar 1)) (wVar 2))) (wBin fDiv (wVar 3) (wVar 1)) (wVar 4) (itemsD (mkI rest)) [some (.dK (mkI ps)), some (.int p), some (.int r), none, none] W (mkI acc) P) := by
    intro rest
    induction rest with
    | nil => intro acc _ P hP; exact hP
    | cons q l ih =>
      intro acc hl P hP
      obtain ⟨k, v⟩ := q
      rw [List.length_cons] at hl
      rw [itemsD_cons]
      show bindG _ _ _ _
      generalize hK : dcW (.tu (.tp (.nm 3) (.tp (.nm 4) .nl))) (wB (wBin (fEqK false) (wBin fMod (wVar 3) (wVar 1)) (wVar 2))) (wBin fDiv (wVar 3) (wVar 1)) (wVar 4) (itemsD (mkI l)) [some (.dK (mkI ps)), some (.int p), some (.int r), none, none] = Kf at ih ⊢
      simp only [wRaise, wTry, wXVal, wXIs, wXIsV, wCallX, fMulS, wSeq, wLRg1, wLRg2, wRngB, mExtend, wSetIxN, wBoxN, fNotInN, fGetN, wForEn, wSealQ, wPopD, wRep, wAug, wAsg, wSkip, wIf, wRet, wRetN, wDrop, wB, wTru, wBin, wUn, wApp, wAppF, wVal, wBox, wVar, wC, wFrz, wCons, wNil, wLst, wTup, wPar2, wPar3, wSetIx, wSetFld, wMu, wAnd, wOr, wNot, wAndV, wOrV, wNotV, wIte, wChain, wGet2, wFld, wProp, wMeth, wMethK, wCall, wCallK, wMakeK, wSeal, wOwn, wDisp, wPs, wDnK, wSortIt, wRev, wSlc, wONo, wOYes, wFor, wForLk, wIter, wRng1, wRng2, wEnum, wLc, wLcLk, wDc, wDcLk, wSetV, wSetB, wNo, wNoE, wYes, fAdd, fSub, fMul, fDiv, fMod, fPow, fLt, fLe, fGt, fGe, fNeg, fIsN, fNotN, isN, fInt, fAbs, fGet, fIx, bindG, Ob.toD, env0, List.map_cons, List.map_nil, List.cons_append, List.nil_append, List.append_nil, List.length_cons, List.length_nil, List.replicate_succ, List.replicate_zero, List.replicate, List.getElem?_cons_zero, List.getElem?_cons_succ, List.set_cons_zero, List.set_cons_succ, Option.some.injEq, exists_eq_left', exists_eq_left, D.int.injEq, D.bl.injEq, D.obj.injEq, keyD, keysD, fSet, mAppend, mInsert, mPop, mReverse, mClear, WS.put_same, dkD, lookD, truD, seqD, wipeD, List.set_nil]
      refine ⟨hp, eqK_int ⟨_, rfl, ?_⟩⟩
      rw [if_neg Bool.false_ne_true]
      by_cases c : k % p = r
      · rw [decide_eq_true c]
        simp only [wRaise, wTry, wXVal, wXIs, wXIsV, wCallX, fMulS, wSeq, wLRg1, wLRg2, wRngB, mExtend, wSetIxN, wBoxN, fNotInN, fGetN, wForEn, wSealQ, wPopD, wRep, wAug, wAsg, wSkip, wIf, wRet, wRetN, wDrop, wB, wTru, wBin, wUn, wApp, wAppF, wVal, wBox, wVar, wC, wFrz, wCons, wNil, wLst, wTup, wPar2, wPar3, wSetIx, wSetFld, wMu, wAnd, wOr, wNot, wAndV, wOrV, wNotV, wIte, wChain, wGet2, wFld, wProp, wMeth, wMethK, wCall, wCallK, wMakeK, wSeal, wOwn, wDisp, wPs, wDnK, wSortIt, wRev, wSlc, wONo, wOYes, wFor, wForLk, wIter, wRng1, wRng2, wEnum, wLc, wLcLk, wDc, wDcLk, wSetV, wSetB, wNo, wNoE, wYes, fAdd, fSub, fMul, fDiv, fMod, fPow, fLt, fLe, fGt, fGe, fNeg, fIsN, fNotN, isN, fInt, fAbs, fGet, fIx, bindG, Ob.toD, env0, List.map_cons, List.map_nil, List.cons_append, List.nil_append, List.append_nil, List.length_cons, List.length_nil, List.replicate_succ, List.replicate_zero, List.replicate, List.getElem?_cons_zero, List.getElem?_cons_succ, List.set_cons_zero, List.set_cons_succ, Option.some.injEq, exists_eq_left', exists_eq_left, D.int.injEq, D.bl.injEq, D.obj.injEq, keyD, keysD, fSet, mAppend, mInsert, mPop, mReverse, mClear, WS.put_same, dkD, lookD, truD, seqD, wipeD, List.set_nil]
        refine ⟨hw k, by rw [len_mk]; omega, ?_⟩
        rw [putKD_mk]
        rw [partI_cons_pos c] at hP
        refine ih _ ?_ P hP
        have := putI_len acc (k / p) v
        omega
      · rw [decide_eq_false c]
        rw [partI_cons_neg c] at hP
        exact ih acc (by omega) P hP
  refine key ps [] (by simpa using hz) _ ?_
  rw [mergeI_nil (partI_nodup hn)]
  exact h
theorem law_check_number (C : Addr) : ∀ ds W Q PX, sp_check_number C ds W Q PX → ds.length = P_check_number.length ∧ w_check_number C PX { nx := fun _ W' => Q .non W', rt := Q } (env0 N_check_number ds) W := by
  rintro ds W Q PX ⟨n, l, rfl, hl, h⟩
  refine ⟨rfl, ?_⟩
  simp only [w_check_number, N_check_number, wRaise, wTry, wXVal, wXIs, wXIsV, wCallX, fMulS, wSeq, wLRg1, wLRg2, wRngB, mExtend, wSetIxN, wBoxN, fNotInN, fGetN, wForEn, wSealQ, wPopD, wRep, wAug, wAsg, wSkip, wIf, wRet, wRetN, wDrop, wB, wTru, wBin, wUn, wApp, wAppF, wVal, wBox, wVar, wC, wFrz, wCons, wNil, wLst, wTup, wPar2, wPar3, wSetIx, wSetFld, wMu, wAnd, wOr, wNot, wAndV, wOrV, wNotV, wIte, wChain, wGet2, wFld, wProp, wMeth, wMethK, wCall, wCallK, wMakeK, wSeal, wOwn, wDisp, wPs, wDnK, wSortIt, wRev, wSlc, wONo, wOYes, wFor, wForLk, wIter, wRng1, wRng2, wEnum, wLc, wLcLk, wDc, wDcLk, wSetV, wSetB, wNo, wNoE, wYes, fAdd, fSub, fMul, fDiv, fMod, fPow, fLt, fLe, fGt, fGe, fNeg, fIsN, fNotN, isN, fInt, fAbs, bindG, Ob.toD, env0, List.map_cons, List.map_nil, List.cons_append, List.nil_append, List.append_nil, List.length_cons, List.length_nil, List.replicate_succ, List.replicate_zero, List.replicate, List.getElem?_cons_zero, List.getElem?_cons_succ, List.set_cons_zero, List.set_cons_succ, Option.some.injEq, exists_eq_left', exists_eq_left, D.int.injEq, D.bl.injEq, D.obj.injEq, keyD, keysD, fSet, mAppend, mInsert, mPop, mReverse, mClear, WS.put_same, dkD, lookD, truD, seqD, wipeD, List.set_nil]
  rw [decide_eq_false (show ¬ n < l by omega)]
  exact h
theorem law_check_far (C : Addr) : ∀ ds W Q PX, sp_check_far C ds W Q PX → ds.length = P_check_far.length ∧ w_check_far C PX { nx := fun _ W' => Q .non W', rt := Q } (env0 N_check_far ds) W := by
  rintro ds W Q PX ⟨a, p, ps, rs, n, rfl, hr, hs, hv, hn, h⟩
  refine ⟨rfl, ?_⟩
  simp only [w_check_far, N_check_far, wRaise, wTry, wXVal, wXIs, wXIsV, wCallX, fMulS, wSeq, wLRg1, wLRg2, wRngB, mExtend, wSetIxN, wBoxN, fNotInN, fGetN, wForEn, wSealQ, wPopD, wRep, wAug, wAsg, wSkip, wIf, wRet, wRetN, wDrop, wB, wTru, wBin, wUn, wApp, wAppF, wVal, wBox, wVar, wC, wFrz, wCons, wNil, wLst, wTup, wPar2, wPar3, wSetIx, wSetFld, wMu, wAnd, wOr, wNot, wAndV, wOrV, wNotV, wIte, wChain, wGet2, wFld, wProp, wMeth, wMethK, wCall, wCallK, wMakeK, wSeal, wOwn, wDisp, wPs, wDnK, wSortIt, wRev, wSlc, wONo, wOYes, wFor, wForLk, wIter, wRng1, wRng2, wEnum, wLc, wLcLk, wDc, wDcLk, wSetV, wSetB, wNo, wNoE, wYes, fAdd, fSub, fMul, fDiv, fMod, fPow, fLt, fLe, fGt, fGe, fNeg, fIsN, fNotN, isN, fInt, fAbs, bindG, Ob.toD, env0, List.map_cons, List.map_nil, List.cons_append, List.nil_append, List.append_nil, List.length_cons, List.length_nil, List.replicate_succ, List.replicate_zero, List.replicate, List.getElem?_cons_zero, List.getElem?_cons_succ, List.set_cons_zero, List.set_cons_succ, Option.some.injEq, exists_eq_left', exists_eq_left, D.int.injEq, D.bl.injEq, D.obj.injEq, keyD, keysD, fSet, mAppend, mInsert, mPop, mReverse, mClear, WS.put_same, dkD, lookD, truD, seqD, wipeD, List.set_nil]
  exact ⟨a, p, ps, rs, _, rfl, rfl, hr, hs, hv, n, 0, rfl, hn, h⟩
end DL

set_option maxRecDepth 100000
set_option maxHeartbeats 4000000
set_option linter.all false
namespace DL
open PySem PySem.Spec PyProof.Rows L2
theorem cf_cons (k v x : Int) (r : IP) : cf ((k, v) :: r) x = dlt x k * v + cf r x := rfl
theorem cf_out {x : Int} : ∀ {l : IP}, x ∉ l.map (·.1) → cf l x = 0
  | [], _ => rfl
  | (k, v) :: r, h => by
    have h1 : k ≠ x := fun e => h (by rw [e]; exact List.mem_cons_self)
    have h2 : x ∉ r.map (·.1) := fun e => h (List.mem_cons_of_mem _ e)
    rw [cf_cons, cf_out h2]
    unfold dlt
    rw [if_neg h1]; omega
theorem cf_look {x : Int} : ∀ {l : IP}, (l.map (·.1)).Nodup → cf l x = lookI l x
  | [], _ => rfl
  | (k, v) :: r, h => by
    have h' := List.nodup_cons.mp h
    rw [cf_cons]
    have e : lookI ((k, v) :: r) x = if k = x then v else lookI r x := by
      unfold lookI
      show ((if k = x then some v else getI x r).getD 0) = _
      split <;> rfl
    rw [e]
    unfold dlt
    by_cases c : k = x
    · subst c
      rw [if_pos rfl, if_pos rfl, cf_out h'.1]; omega
    · rw [if_neg c, if_neg c, cf_look h'.2]; omega
theorem cs_cf (k v x : Int) : ∀ o : IP, cs k v x o = sumF (fun b => dlt x (k + b)) o * v
  | [] => by show (0 : Int) = 0 * v; omega
  | q :: r => by
    show (if x = k + q.1 then v * q.2 else 0) + cs k v x r = (dlt x (k + q.1) * q.2 + sumF (fun b => dlt x (k + b)) r) * v
    rw [cs_cf k v x r, Int.add_mul]
    unfold dlt
    by_cases c : k + q.1 = x
    · rw [if_pos c.symm, if_pos c, Int.one_mul, Int.mul_comm]
    · rw [if_neg (Ne.symm c), if_neg c]; omega
theorem tot_cf (o : IP) (x : Int) : ∀ l : IP, tot o x l = cf (pmul l o) x
  | [] => rfl
  | q :: r => by
    have ih := tot_cf o x r
    unfold cf at ih ⊢
    rw [sumF_mul] at ih ⊢
    show cs q.1 q.2 x o + tot o x r = sumF (fun b => dlt x (q.1 + b)) o * q.2 + sumF (fun a => sumF (fun b => dlt x (a + b)) o) r
    rw [ih, cs_cf]
theorem mulI_same {p : Int} (l o : IP) : SameM p (mulI l o) (pmul l o) := sameM_of fun x => by
  rw [cf_look (mulI_nodup l o), look_mul, tot_cf, Int.sub_self]
  exact Int.dvd_zero p
theorem plainI_same {p : Int} {l : IP} (h : (l.map (·.1)).Nodup) : SameM p (plainI l p) l := sameM_of fun x => by
  rw [cf_look (plainI_nodup h), cf_look h, lookI_plain h]
  exact ⟨-(lookI l x / p), by have := Int.mul_ediv_add_emod (lookI l x) p; rw [Int.mul_neg]; omega⟩
theorem prod_same {p : Int} {l l' o o' : IP} (h : SameM p l l') (g : SameM p o o') : SameM p (plainI (mulI l o) p) (pmul l' o') :=
  (plainI_same (mulI_nodup l o)).trans ((mulI_same l o).trans (h.mul g))
theorem powI_same (p : Int) (ps : IP) : ∀ n, SameM p (powI p ps n) (ppow ps n)
  | 0 => SameM.refl p _
  | n + 1 => prod_same (powI_same p ps n) (SameM.refl p ps)
theorem sumF_part (p r : Int) (f : Int → Int) : ∀ l : IP, sumF f (partI p r l) = sumF (fun y => if y % p = r then f (y / p) else 0) l
  | [] => rfl
  | (k, v) :: l => by
    show _ = (if k % p = r then f (k / p) else 0) * v + sumF (fun y => if y % p = r then f (y / p) else 0) l
    rw [← sumF_part p r f l]
    by_cases c : k % p = r
    · rw [partI_cons_pos c, if_pos c]; rfl
    · rw [partI_cons_neg c, if_neg c]; omega
theorem part_same {p : Int} (r : Int) {l m : IP} (h : SameM p l m) : SameM p (partI p r l) (partI p r m) := fun f => by
  rw [sumF_part, sumF_part]
  exact h _
/-- a turn of the digits -/
theorem far_step {p : Int} (hp : p = 2 ∨ p = 3 ∨ p = 5) (ps cs : IP) (n : Nat) (x : Int) :
    FarV p ps cs n x = FarV p ps (partI p (x % p) (plainI (mulI cs (powI p ps (n % p.toNat))) p)) (n / p.toNat) (x / p) := by
  unfold FarV
  obtain ⟨q, rfl⟩ : ∃ q : Nat, p = q := ⟨p.toNat, by omega⟩
  have hq : q = 2 ∨ q = 3 ∨ q = 5 := by omega
  rw [Int.toNat_natCast, digit hq]
  refine (SameM.cf_eq ?_ _).symm
  exact (part_same _ (prod_same (SameM.refl _ cs) (powI_same _ ps _))).mul (SameM.refl _ _)
theorem look_range {p : Int} (h0 : 0 < p) {cs : IP} (hv : Vl p cs) (x : Int) : 0 ≤ lookI cs x ∧ lookI cs x < p := by
  unfold lookI
  cases h : getI x cs with
  | none => exact ⟨Int.le_refl _, h0⟩
  | some v => have := hv _ (getI_some h); show 0 ≤ v ∧ v < p; omega
theorem far_end {p : Int} (h0 : 0 < p) {ps cs : IP} (hn : (cs.map (·.1)).Nodup) (hv : Vl p cs) (x : Int) : FarV p ps cs 0 x = lookI cs x := by
  unfold FarV
  have e : cf (pmul cs (ppow ps 0)) x = cf cs x := mul_one' cs _
  rw [e, cf_look hn]
  have := look_range h0 hv x
  exact Int.emod_eq_of_lt this.1 this.2
/-! ## how wide -/
theorem mul_win {p lo hi lo2 hi2 : Int} (h0 : 0 < p) {l o : IP} (w : Win lo hi l) (w2 : Win lo2 hi2 o) : Win (lo + lo2) (hi + hi2) (plainI (mulI l o) p) := by
  intro z hz
  have nd := plainI_nodup (p := p) (mulI_nodup l o)
  have e : lookI (plainI (mulI l o) p) z.1 = z.2 := by unfold lookI; rw [getI_mem nd hz]; rfl
  have h1 := (plainI_vals h0 z hz).1
  rw [lookI_plain (mulI_nodup l o), look_mul] at e
  have hne : tot o z.1 l ≠ 0 := fun c => by rw [c] at e; simp at e; omega
  obtain ⟨y, hy, t, ht, ey⟩ := tot_mem hne
  have w1 := w y hy
  have w2 := w2 t ht
  omega
theorem pow_win {p : Int} (h0 : 0 < p) {ps : IP} (w : Bd 100 ps) : ∀ n : Nat, Win (-(100 * n)) (100 * n) (powI p ps n)
  | 0 => fun q h => by rw [show powI p ps 0 = [(0, 1)] from rfl, List.mem_singleton] at h; subst h; decide
  | n + 1 => fun q h => by
    have := mul_win (p := p) (lo2 := -100) (hi2 := 100) h0 (pow_win h0 w n) (fun z hz => w z hz) q h
    omega
theorem pow_nodup {p : Int} {ps : IP} : ∀ n, ((powI p ps n).map (·.1)).Nodup
  | 0 => List.nodup_cons.mpr ⟨List.not_mem_nil, List.nodup_nil⟩
  | n + 1 => plainI_nodup (mulI_nodup _ _)
theorem part_win {p lo hi r : Int} (h0 : 0 < p) {l : IP} (w : Win lo hi l) : Win (lo / p) (hi / p) (partI p r l) := by
  intro z hz
  obtain ⟨q, hq, rfl⟩ := List.mem_map.mp hz
  have := w q (List.mem_filter.mp hq).1
  exact ⟨Int.ediv_le_ediv h0 this.1, Int.ediv_le_ediv h0 this.2⟩
theorem part_vl {p r : Int} {l : IP} (h : Vl p l) : Vl p (partI p r l) := by
  intro z hz
  obtain ⟨q, hq, rfl⟩ := List.mem_map.mp hz
  exact h q (List.mem_filter.mp hq).1
theorem part_len (p r : Int) (l : IP) : (partI p r l).length ≤ l.length := by
  unfold partI
  rw [List.length_map]
  exact List.length_filter_le _ _
end DL

set_option maxRecDepth 100000
set_option maxHeartbeats 4000000
set_option linter.all false
namespace DL
open PySem PySem.Spec PyProof.Rows L2
theorem pwL_at {p : Int} {ps : IP} {n i : Nat} (h : i < n) : atI (pwL p ps n) (i : Int) = some (dkI (powI p ps i)) := by
  refine atI_nat ?_
  unfold pwL
  rw [List.getElem?_map, List.getElem?_range h]; rfl
theorem divW {p : Int} (h : p = 2 ∨ p = 3 ∨ p = 5) (k : Int) : CDivW k p := by
  rcases h with rfl | rfl | rfl <;> exact ⟨by decide, by decide⟩
theorem far_loop {C a : Addr} {p : Int} {ps : IP} {PX : XP} {P : WEnds} (hq : Parts p ps) : ∀ (m n : Nat) (cs : IP) (lo hi x : Int) (x4 x5 : Option D) (W : WS), n < m → RuleAt C W a p ps → (cs.map (·.1)).Nodup → Vl p cs → Win lo hi cs → lo ≤ hi + 1 → hi - lo ≤ 1000 →
    (∀ W' cs' x' x4 x5, ExB [] W W' → lookI cs' x' = FarV p ps cs n x → P.nx [some (.dK (mkI cs')), some (.int p), some (.lst []), some (.int x'), x4, x5] W') →
    whileW (wB (wBin (fEqE true) (wVar 2) (wVal (wLst wNil)))) (b_far_value_2 C) PX P (m + 1) [some (.dK (mkI cs)), some (.int p), some (.lst [.tup [.obj a, .int n]]), some (.int x), x4, x5] W
  | 0, n, _, _, _, _, _, _, _, h, _, _, _, _, _, _, _ => absurd h (Nat.not_lt_zero n)
  | m + 1, n, cs, lo, hi, x, x4, x5, W, hm, hr, hn, hv, hw, hlo, hd, K => by
    have ih := far_loop (C := C) (a := a) (PX := PX) (P := P) hq m
    have hp := hq.pr
    have h0 : 0 < p := by omega
    have h5 : p ≤ 5 := by omega
    obtain ⟨pw, lw, ha, hpw⟩ := hr.ex
    rw [whileW]
    generalize hK : whileW (wB (wBin (fEqE true) (wVar 2) (wVal (wLst wNil)))) (b_far_value_2 C) PX P (m + 1) = Kf
    rw [hK] at ih
    have hmod : ((n : Int) % p) = ((n % p.toNat : Nat) : Int) := by
      rw [Int.natCast_emod, Int.toNat_of_nonneg (by omega)]
    have hdiv : ((n : Int) / p) = ((n / p.toNat : Nat) : Int) := by
      rw [Int.natCast_ediv, Int.toNat_of_nonneg (by omega)]
    have hlt : n % p.toNat < p.toNat := Nat.mod_lt _ (by omega)
    have h4 : n % p.toNat ≤ 4 := by omega
    generalize hB : b_far_value_1 C = Bd
    simp only [b_far_value_2, wRaise, wTry, wXVal, wXIs, wXIsV, wCallX, fMulS, wSeq, wLRg1, wLRg2, wRngB, mExtend, wSetIxN, wBoxN, fNotInN, fGetN, wForEn, wSealQ, wPopD, wRep, wAug, wAsg, wSkip, wIf, wRet, wRetN, wDrop, wB, wTru, wBin, wUn, wApp, wAppF, wVal, wBox, wVar, wC, wFrz, wCons, wNil, wLst, wTup, wPar2, wPar3, wSetIx, wSetFld, wMu, wAnd, wOr, wNot, wAndV, wOrV, wNotV, wIte, wChain, wGet2, wFld, wProp, wMeth, wMethK, wCall, wCallK, wMakeK, wSeal, wOwn, wDisp, wPs, wDnK, wSortIt, wRev, wSlc, wONo, wOYes, wFor, wForLk, wIter, wRng1, wRng2, wEnum, wLc, wLcLk, wDc, wDcLk, wSetV, wSetB, wNo, wNoE, wYes, fAdd, fSub, fMul, fDiv, fMod, fPow, fLt, fLe, fGt, fGe, fNeg, fIsN, fNotN, isN, fInt, fAbs, bindG, Ob.toD, env0, List.map_cons, List.map_nil, List.cons_append, List.nil_append, List.append_nil, List.length_cons, List.length_nil, List.replicate_succ, List.replicate_zero, List.replicate, List.getElem?_cons_zero, List.getElem?_cons_succ, List.set_cons_zero, List.set_cons_succ, Option.some.injEq, exists_eq_left', exists_eq_left, D.int.injEq, D.bl.injEq, D.obj.injEq, keyD, keysD, fSet, mAppend, mInsert, mPop, mReverse, mClear, WS.put_same, dkD, lookD, truD, seqD, wipeD, List.set_nil, hB]
    refine ⟨by decide, _, rfl, rfl, true, rfl, ?_⟩
    subst hB
    show forW _ _ _ _ [.tup [.obj a, .int (n : Int)]] _ W
    show bindG _ _ _ _
    simp only [b_far_value_1, wRaise, wTry, wXVal, wXIs, wXIsV, wCallX, fMulS, wSeq, wLRg1, wLRg2, wRngB, mExtend, wSetIxN, wBoxN, fNotInN, fGetN, wForEn, wSealQ, wPopD, wRep, wAug, wAsg, wSkip, wIf, wRet, wRetN, wDrop, wB, wTru, wBin, wUn, wApp, wAppF, wVal, wBox, wVar, wC, wFrz, wCons, wNil, wLst, wTup, wPar2, wPar3, wSetIx, wSetFld, wMu, wAnd, wOr, wNot, wAndV, wOrV, wNotV, wIte, wChain, wGet2, wFld, wProp, wMeth, wMethK, wCall, wCallK, wMakeK, wSeal, wOwn, wDisp, wPs, wDnK, wSortIt, wRev, wSlc, wONo, wOYes, wFor, wForLk, wIter, wRng1, wRng2, wEnum, wLc, wLcLk, wDc, wDcLk, wSetV, wSetB, wNo, wNoE, wYes, fAdd, fSub, fMul, fDiv, fMod, fPow, fLt, fLe, fGt, fGe, fNeg, fIsN, fNotN, isN, fInt, fAbs, bindG, Ob.toD, env0, List.map_cons, List.map_nil, List.cons_append, List.nil_append, List.append_nil, List.length_cons, List.length_nil, List.replicate_succ, List.replicate_zero, List.replicate, List.getElem?_cons_zero, List.getElem?_cons_succ, List.set_cons_zero, List.set_cons_succ, Option.some.injEq, exists_eq_left', exists_eq_left, D.int.injEq, D.bl.injEq, D.obj.injEq, keyD, keysD, fSet, mAppend, mInsert, mPop, mReverse, mClear, WS.put_same, dkD, lookD, truD, seqD, wipeD, List.set_nil, forW]
    refine ⟨_, view_ob ha, _, lookW, h0, ?_⟩
    rw [hmod]
    refine fGet_lst (view_ob hpw) (pwL_at hlt) ?_
    have hlc := nd_len hn hw hlo
    have pwn := pow_win h0 hq.bd (n % p.toNat)
    have hlp := nd_len (pow_nodup (p := p) (ps := ps) (n % p.toNat)) pwn (by omega)
    have e1 : cs.length ≤ 1001 := by omega
    have e2 : (powI p ps (n % p.toNat)).length ≤ 801 := by omega
    refine ⟨cs, powI p ps (n % p.toNat), p, rfl, h0, Nat.le_trans (Nat.mul_le_mul e1 e2) (by decide), fun q hq' => by have := hv q hq'; omega, powI_vals h0 h5 _, fun W1 ex => ?_⟩
    have mn := plainI_nodup (p := p) (mulI_nodup cs (powI p ps (n % p.toNat)))
    have mw := mul_win h0 hw pwn
    have mv : Vl p (plainI (mulI cs (powI p ps (n % p.toNat))) p) := plainI_vals h0
    have ml : (plainI (mulI cs (powI p ps (n % p.toNat))) p).length ≤ 1000000 := Nat.le_trans (plainI_len _ _) (Nat.le_trans (mulI_len _ _) (Nat.le_trans (Nat.mul_le_mul e1 e2) (by decide)))
    have hst := far_step hp ps cs n x
    generalize hM : plainI (mulI cs (powI p ps (n % p.toNat))) p = M at mn mw mv ml hst ⊢
    have sn := partI_nodup (p := p) (r := x % p) mn
    have sw := part_win (r := x % p) h0 mw
    have sv := part_vl (p := p) (r := x % p) mv
    simp only [wRaise, wTry, wXVal, wXIs, wXIsV, wCallX, fMulS, wSeq, wLRg1, wLRg2, wRngB, mExtend, wSetIxN, wBoxN, fNotInN, fGetN, wForEn, wSealQ, wPopD, wRep, wAug, wAsg, wSkip, wIf, wRet, wRetN, wDrop, wB, wTru, wBin, wUn, wApp, wAppF, wVal, wBox, wVar, wC, wFrz, wCons, wNil, wLst, wTup, wPar2, wPar3, wSetIx, wSetFld, wMu, wAnd, wOr, wNot, wAndV, wOrV, wNotV, wIte, wChain, wGet2, wFld, wProp, wMeth, wMethK, wCall, wCallK, wMakeK, wSeal, wOwn, wDisp, wPs, wDnK, wSortIt, wRev, wSlc, wONo, wOYes, wFor, wForLk, wIter, wRng1, wRng2, wEnum, wLc, wLcLk, wDc, wDcLk, wSetV, wSetB, wNo, wNoE, wYes, fAdd, fSub, fMul, fDiv, fMod, fPow, fLt, fLe, fGt, fGe, fNeg, fIsN, fNotN, isN, fInt, fAbs, bindG, Ob.toD, env0, List.map_cons, List.map_nil, List.cons_append, List.nil_append, List.append_nil, List.length_cons, List.length_nil, List.replicate_succ, List.replicate_zero, List.replicate, List.getElem?_cons_zero, List.getElem?_cons_succ, List.set_cons_zero, List.set_cons_succ, Option.some.injEq, exists_eq_left', exists_eq_left, D.int.injEq, D.bl.injEq, D.obj.injEq, keyD, keysD, fSet, mAppend, mInsert, mPop, mReverse, mClear, WS.put_same, dkD, lookD, truD, seqD, wipeD, List.set_nil]
    refine ⟨h0, M, p, x % p, rfl, h0, h5, mn, sz_small (by omega), divW hp x, ?_⟩
    generalize partI p (x % p) M = S at sn sw sv hst ⊢
    have hr1 : RuleAt C W1 a p ps := hr.keep ex (by simp)
    have hs1 : (lo + -(100 * ((n % p.toNat : Nat) : Int))) / p ≤ (hi + 100 * ((n % p.toNat : Nat) : Int)) / p + 1 := by
      rcases hp with rfl | rfl | rfl <;> omega
    have hs2 : (hi + 100 * ((n % p.toNat : Nat) : Int)) / p - (lo + -(100 * ((n % p.toNat : Nat) : Int))) / p ≤ 1000 := by
      rcases hp with rfl | rfl | rfl <;> omega
    show bindG _ _ _ _
    simp only [wRaise, wTry, wXVal, wXIs, wXIsV, wCallX, fMulS, wSeq, wLRg1, wLRg2, wRngB, mExtend, wSetIxN, wBoxN, fNotInN, fGetN, wForEn, wSealQ, wPopD, wRep, wAug, wAsg, wSkip, wIf, wRet, wRetN, wDrop, wB, wTru, wBin, wUn, wApp, wAppF, wVal, wBox, wVar, wC, wFrz, wCons, wNil, wLst, wTup, wPar2, wPar3, wSetIx, wSetFld, wMu, wAnd, wOr, wNot, wAndV, wOrV, wNotV, wIte, wChain, wGet2, wFld, wProp, wMeth, wMethK, wCall, wCallK, wMakeK, wSeal, wOwn, wDisp, wPs, wDnK, wSortIt, wRev, wSlc, wONo, wOYes, wFor, wForLk, wIter, wRng1, wRng2, wEnum, wLc, wLcLk, wDc, wDcLk, wSetV, wSetB, wNo, wNoE, wYes, fAdd, fSub, fMul, fDiv, fMod, fPow, fLt, fLe, fGt, fGe, fNeg, fIsN, fNotN, isN, fInt, fAbs, bindG, Ob.toD, env0, List.map_cons, List.map_nil, List.cons_append, List.nil_append, List.append_nil, List.length_cons, List.length_nil, List.replicate_succ, List.replicate_zero, List.replicate, List.getElem?_cons_zero, List.getElem?_cons_succ, List.set_cons_zero, List.set_cons_succ, Option.some.injEq, exists_eq_left', exists_eq_left, D.int.injEq, D.bl.injEq, D.obj.injEq, keyD, keysD, fSet, mAppend, mInsert, mPop, mReverse, mClear, WS.put_same, dkD, lookD, truD, seqD, wipeD, List.set_nil]
    by_cases c : p ≤ (n : Int)
    · rw [decide_eq_true c]
      simp only [wRaise, wTry, wXVal, wXIs, wXIsV, wCallX, fMulS, wSeq, wLRg1, wLRg2, wRngB, mExtend, wSetIxN, wBoxN, fNotInN, fGetN, wForEn, wSealQ, wPopD, wRep, wAug, wAsg, wSkip, wIf, wRet, wRetN, wDrop, wB, wTru, wBin, wUn, wApp, wAppF, wVal, wBox, wVar, wC, wFrz, wCons, wNil, wLst, wTup, wPar2, wPar3, wSetIx, wSetFld, wMu, wAnd, wOr, wNot, wAndV, wOrV, wNotV, wIte, wChain, wGet2, wFld, wProp, wMeth, wMethK, wCall, wCallK, wMakeK, wSeal, wOwn, wDisp, wPs, wDnK, wSortIt, wRev, wSlc, wONo, wOYes, wFor, wForLk, wIter, wRng1, wRng2, wEnum, wLc, wLcLk, wDc, wDcLk, wSetV, wSetB, wNo, wNoE, wYes, fAdd, fSub, fMul, fDiv, fMod, fPow, fLt, fLe, fGt, fGe, fNeg, fIsN, fNotN, isN, fInt, fAbs, bindG, Ob.toD, env0, List.map_cons, List.map_nil, List.cons_append, List.nil_append, List.append_nil, List.length_cons, List.length_nil, List.replicate_succ, List.replicate_zero, List.replicate, List.getElem?_cons_zero, List.getElem?_cons_succ, List.set_cons_zero, List.set_cons_succ, Option.some.injEq, exists_eq_left', exists_eq_left, D.int.injEq, D.bl.injEq, D.obj.injEq, keyD, keysD, fSet, mAppend, mInsert, mPop, mReverse, mClear, WS.put_same, dkD, lookD, truD, seqD, wipeD, List.set_nil]
      refine ⟨divW hp n, by decide, ?_⟩
      rw [hdiv]
      refine ⟨by decide, ih (n / p.toNat) S _ _ (x / p) _ _ W1 ?_ hr1 sn sv sw hs1 hs2 fun W' cs' x' x4 x5 q1 q2 => K W' cs' x' x4 x5 (ex.trans q1) (q2.trans hst.symm)⟩
      have : n / p.toNat < n := Nat.div_lt_self (by omega) (by omega)
      omega
    · rw [decide_eq_false c]
      have hz : n / p.toNat = 0 := Nat.div_eq_of_lt (by omega)
      rw [hz, far_end h0 sn sv] at hst
      show Kf _ W1
      rw [← hK, whileW]
      simp only [wRaise, wTry, wXVal, wXIs, wXIsV, wCallX, fMulS, wSeq, wLRg1, wLRg2, wRngB, mExtend, wSetIxN, wBoxN, fNotInN, fGetN, wForEn, wSealQ, wPopD, wRep, wAug, wAsg, wSkip, wIf, wRet, wRetN, wDrop, wB, wTru, wBin, wUn, wApp, wAppF, wVal, wBox, wVar, wC, wFrz, wCons, wNil, wLst, wTup, wPar2, wPar3, wSetIx, wSetFld, wMu, wAnd, wOr, wNot, wAndV, wOrV, wNotV, wIte, wChain, wGet2, wFld, wProp, wMeth, wMethK, wCall, wCallK, wMakeK, wSeal, wOwn, wDisp, wPs, wDnK, wSortIt, wRev, wSlc, wONo, wOYes, wFor, wForLk, wIter, wRng1, wRng2, wEnum, wLc, wLcLk, wDc, wDcLk, wSetV, wSetB, wNo, wNoE, wYes, fAdd, fSub, fMul, fDiv, fMod, fPow, fLt, fLe, fGt, fGe, fNeg, fIsN, fNotN, isN, fInt, fAbs, bindG, Ob.toD, env0, List.map_cons, List.map_nil, List.cons_append, List.nil_append, List.append_nil, List.length_cons, List.length_nil, List.replicate_succ, List.replicate_zero, List.replicate, List.getElem?_cons_zero, List.getElem?_cons_succ, List.set_cons_zero, List.set_cons_succ, Option.some.injEq, exists_eq_left', exists_eq_left, D.int.injEq, D.bl.injEq, D.obj.injEq, keyD, keysD, fSet, mAppend, mInsert, mPop, mReverse, mClear, WS.put_same, dkD, lookD, truD, seqD, wipeD, List.set_nil]
      exact ⟨by decide, [], rfl, rfl, false, rfl, K W1 S (x / p) _ _ ex hst.symm⟩
theorem law_far_value (C : Addr) : ∀ ds W Q PX, sp_far_value C ds W Q PX → ds.length = P_far_value.length ∧ w_far_value C PX { nx := fun _ W' => Q .non W', rt := Q } (env0 N_far_value ds) W := by
  rintro ds W Q PX ⟨a, p, ps, cs, lo, hi, n, x, rfl, hr, hq, hn, hv, hw, hlo, hd, h0, h⟩
  refine ⟨rfl, ?_⟩
  obtain ⟨k, rfl⟩ : ∃ k : Nat, n = k := ⟨n.toNat, by omega⟩
  simp only [w_far_value, N_far_value, wRaise, wTry, wXVal, wXIs, wXIsV, wCallX, fMulS, wSeq, wLRg1, wLRg2, wRngB, mExtend, wSetIxN, wBoxN, fNotInN, fGetN, wForEn, wSealQ, wPopD, wRep, wAug, wAsg, wSkip, wIf, wRet, wRetN, wDrop, wB, wTru, wBin, wUn, wApp, wAppF, wVal, wBox, wVar, wC, wFrz, wCons, wNil, wLst, wTup, wPar2, wPar3, wSetIx, wSetFld, wMu, wAnd, wOr, wNot, wAndV, wOrV, wNotV, wIte, wChain, wGet2, wFld, wProp, wMeth, wMethK, wCall, wCallK, wMakeK, wSeal, wOwn, wDisp, wPs, wDnK, wSortIt, wRev, wSlc, wONo, wOYes, wFor, wForLk, wIter, wRng1, wRng2, wEnum, wLc, wLcLk, wDc, wDcLk, wSetV, wSetB, wNo, wNoE, wYes, fAdd, fSub, fMul, fDiv, fMod, fPow, fLt, fLe, fGt, fGe, fNeg, fIsN, fNotN, isN, fInt, fAbs, bindG, Ob.toD, env0, List.map_cons, List.map_nil, List.cons_append, List.nil_append, List.append_nil, List.length_cons, List.length_nil, List.replicate_succ, List.replicate_zero, List.replicate, List.getElem?_cons_zero, List.getElem?_cons_succ, List.set_cons_zero, List.set_cons_succ, Option.some.injEq, exists_eq_left', exists_eq_left, D.int.injEq, D.bl.injEq, D.obj.injEq, keyD, keysD, fSet, mAppend, mInsert, mPop, mReverse, mClear, WS.put_same, dkD, lookD, truD, seqD, wipeD, List.set_nil]
  refine ⟨k + 2, far_loop hq (k + 1) k cs lo hi x _ _ W (by omega) hr hn hv hw hlo hd fun W' cs' x' x4 x5 e1 e2 => ?_⟩
  simp only [wRaise, wTry, wXVal, wXIs, wXIsV, wCallX, fMulS, wSeq, wLRg1, wLRg2, wRngB, mExtend, wSetIxN, wBoxN, fNotInN, fGetN, wForEn, wSealQ, wPopD, wRep, wAug, wAsg, wSkip, wIf, wRet, wRetN, wDrop, wB, wTru, wBin, wUn, wApp, wAppF, wVal, wBox, wVar, wC, wFrz, wCons, wNil, wLst, wTup, wPar2, wPar3, wSetIx, wSetFld, wMu, wAnd, wOr, wNot, wAndV, wOrV, wNotV, wIte, wChain, wGet2, wFld, wProp, wMeth, wMethK, wCall, wCallK, wMakeK, wSeal, wOwn, wDisp, wPs, wDnK, wSortIt, wRev, wSlc, wONo, wOYes, wFor, wForLk, wIter, wRng1, wRng2, wEnum, wLc, wLcLk, wDc, wDcLk, wSetV, wSetB, wNo, wNoE, wYes, fAdd, fSub, fMul, fDiv, fMod, fPow, fLt, fLe, fGt, fGe, fNeg, fIsN, fNotN, isN, fInt, fAbs, bindG, Ob.toD, env0, List.map_cons, List.map_nil, List.cons_append, List.nil_append, List.append_nil, List.length_cons, List.length_nil, List.replicate_succ, List.replicate_zero, List.replicate, List.getElem?_cons_zero, List.getElem?_cons_succ, List.set_cons_zero, List.set_cons_succ, Option.some.injEq, exists_eq_left', exists_eq_left, D.int.injEq, D.bl.injEq, D.obj.injEq, keyD, keysD, fSet, mAppend, mInsert, mPop, mReverse, mClear, WS.put_same, dkD, lookD, truD, seqD, wipeD, List.set_nil]
  refine ⟨rfl, _, dget_mk W' (.dK (mkI cs')) cs' x' rfl, ?_⟩
  have e : ((getI x' cs').map D.int).getD (.int 0) = .int (FarV p ps cs k x) := by
    rw [← e2]
    unfold lookI
    cases getI x' cs' <;> rfl
  rw [e]
  exact h W' e1
end DL

set_option maxRecDepth 100000
set_option maxHeartbeats 4000000
set_option linter.all false
namespace DL
open PySem PySem.Spec PyProof.Rows L2
theorem s_qm : ¬ (("prime" : Str) = "modulus") := by decide +kernel
theorem law_value_in (C : Addr) : ∀ ds W Q PX, sp_value_in C ds W Q PX → ds.length = P_value_in.length ∧ w_value_in C PX { nx := fun _ W' => Q .non W', rt := Q } (env0 N_value_in ds) W := by
  rintro ds W Q PX ⟨a, p, ps, cs, lo, hi, dd, n, x, rfl, hdd, hr, hq, hn, hv, hw, hlo, hd, h0, h⟩
  refine ⟨rfl, ?_⟩
  obtain ⟨pw, lw, ha, hpw⟩ := id hr.ex
  simp only [w_value_in, N_value_in, wRaise, wTry, wXVal, wXIs, wXIsV, wCallX, fMulS, wSeq, wLRg1, wLRg2, wRngB, mExtend, wSetIxN, wBoxN, fNotInN, fGetN, wForEn, wSealQ, wPopD, wRep, wAug, wAsg, wSkip, wIf, wRet, wRetN, wDrop, wB, wTru, wBin, wUn, wApp, wAppF, wVal, wBox, wVar, wC, wFrz, wCons, wNil, wLst, wTup, wPar2, wPar3, wSetIx, wSetFld, wMu, wAnd, wOr, wNot, wAndV, wOrV, wNotV, wIte, wChain, wGet2, wFld, wProp, wMeth, wMethK, wCall, wCallK, wMakeK, wSeal, wOwn, wDisp, wPs, wDnK, wSortIt, wRev, wSlc, wONo, wOYes, wFor, wForLk, wIter, wRng1, wRng2, wEnum, wLc, wLcLk, wDc, wDcLk, wSetV, wSetB, wNo, wNoE, wYes, fAdd, fSub, fMul, fDiv, fMod, fPow, fLt, fLe, fGt, fGe, fNeg, fIsN, fNotN, isN, fInt, fAbs, bindG, Ob.toD, env0, List.map_cons, List.map_nil, List.cons_append, List.nil_append, List.append_nil, List.length_cons, List.length_nil, List.replicate_succ, List.replicate_zero, List.replicate, List.getElem?_cons_zero, List.getElem?_cons_succ, List.set_cons_zero, List.set_cons_succ, Option.some.injEq, exists_eq_left', exists_eq_left, D.int.injEq, D.bl.injEq, D.obj.injEq, keyD, keysD, fSet, mAppend, mInsert, mPop, mReverse, mClear, WS.put_same, dkD, lookD, truD, seqD, wipeD, List.set_nil]
  refine ⟨_, cs, rfl, hdd, ?_⟩
  rw [mergeI_asc hn]
  refine (show _ ∧ _ from ⟨⟨_, view_ob ha⟩, a, p, ps, rfl, hr, by decide, by decide, ?_⟩)
  exact ⟨a, p, ps, cs, lo, hi, n, x, rfl, hr, hq, hn.nodup, hv, hw, hlo, hd, h0, h⟩
theorem law_cell_at (C : Addr) : ∀ ds W Q PX, sp_cell_at C ds W Q PX → ds.length = P_cell_at.length ∧ w_cell_at C PX { nx := fun _ W' => Q .non W', rt := Q } (env0 N_cell_at ds) W := by
  rintro ds W Q PX ⟨a, p, ps, cs, lo, hi, n, x, rfl, hr, hq, hn, hv, hw, hlo, hd, h0, h⟩
  refine ⟨rfl, ?_⟩
  simp only [w_cell_at, N_cell_at, wRaise, wTry, wXVal, wXIs, wXIsV, wCallX, fMulS, wSeq, wLRg1, wLRg2, wRngB, mExtend, wSetIxN, wBoxN, fNotInN, fGetN, wForEn, wSealQ, wPopD, wRep, wAug, wAsg, wSkip, wIf, wRet, wRetN, wDrop, wB, wTru, wBin, wUn, wApp, wAppF, wVal, wBox, wVar, wC, wFrz, wCons, wNil, wLst, wTup, wPar2, wPar3, wSetIx, wSetFld, wMu, wAnd, wOr, wNot, wAndV, wOrV, wNotV, wIte, wChain, wGet2, wFld, wProp, wMeth, wMethK, wCall, wCallK, wMakeK, wSeal, wOwn, wDisp, wPs, wDnK, wSortIt, wRev, wSlc, wONo, wOYes, wFor, wForLk, wIter, wRng1, wRng2, wEnum, wLc, wLcLk, wDc, wDcLk, wSetV, wSetB, wNo, wNoE, wYes, fAdd, fSub, fMul, fDiv, fMod, fPow, fLt, fLe, fGt, fGe, fNeg, fIsN, fNotN, isN, fInt, fAbs, bindG, Ob.toD, env0, List.map_cons, List.map_nil, List.cons_append, List.nil_append, List.append_nil, List.length_cons, List.length_nil, List.replicate_succ, List.replicate_zero, List.replicate, List.getElem?_cons_zero, List.getElem?_cons_succ, List.set_cons_zero, List.set_cons_succ, Option.some.injEq, exists_eq_left', exists_eq_left, D.int.injEq, D.bl.injEq, D.obj.injEq, keyD, keysD, fSet, mAppend, mInsert, mPop, mReverse, mClear, WS.put_same, dkD, lookD, truD, seqD, wipeD, List.set_nil]
  exact ⟨a, p, ps, cs, n, rfl, hr, hn, hv, h0, a, p, ps, cs, lo, hi, _, n, x, rfl, .inl rfl, hr, hq, hn, hv, hw, hlo, hd, h0, h⟩
theorem atI_neg1 {α : Type} {L : List α} {x : α} (h : L.getLast? = some x) : atI L (-1) = some x := by
  obtain ⟨M, rfl⟩ := List.getLast?_eq_some_iff.mp h
  exact atI_last M x
theorem last_map {ps : IP} {z : Int × Int} (h : ps.getLast? = some z) : (ps.map prD).getLast? = some (prD z) := by
  rw [List.getLast?_map, h]; rfl
end DL

set_option maxRecDepth 100000
set_option maxHeartbeats 4000000
set_option linter.all false
namespace DL
open PySem PySem.Spec PyProof.Rows L2
/-! ## the ends of far rows -/
theorem sumF_none {f : Int → Int} : ∀ {l : IP}, (∀ q ∈ l, f q.1 = 0) → sumF f l = 0
  | [], _ => rfl
  | q :: l, h => by
    show f q.1 * q.2 + sumF f l = 0
    rw [h q List.mem_cons_self, sumF_none fun z hz => h z (List.mem_cons_of_mem _ hz)]; omega
theorem cf_none {l : IP} {x : Int} (h : ∀ q ∈ l, q.1 ≠ x) : cf l x = 0 := sumF_none fun q hq => if_neg (h q hq)
theorem cf_lead {a b : Int} {B : IP} : ∀ {A : IP}, (∀ q ∈ A, ∀ z ∈ B, q.1 + z.1 = a + b → q.1 = a ∧ z.1 = b) → cf (pmul A B) (a + b) = cf A a * cf B b
  | [], _ => by show (0 : Int) = 0 * _; omega
  | (k, v) :: A, h => by
    have ih := cf_lead fun q hq => h q (List.mem_cons_of_mem _ hq)
    unfold cf at ih ⊢
    rw [sumF_mul] at ih ⊢
    show sumF (fun y => dlt (a + b) (k + y)) B * v + sumF (fun x => sumF (fun y => dlt (a + b) (x + y)) B) A = (dlt a k * v + sumF (dlt a) A) * sumF (dlt b) B
    rw [ih, Int.add_mul]
    refine congrArg (· + _) ?_
    by_cases c : k = a
    · subst c
      have : sumF (fun y => dlt (k + b) (k + y)) B = sumF (dlt b) B := sumF_congr (fun y => by
        unfold dlt
        by_cases d : y = b
        · rw [if_pos d, if_pos (by omega)]
        · rw [if_neg d, if_neg (by omega)]) B
      rw [this]
      unfold dlt
      rw [if_pos rfl, Int.one_mul, Int.mul_comm]
    · have : sumF (fun y => dlt (a + b) (k + y)) B = 0 := sumF_none fun z hz => by
        refine if_neg fun e => c ?_
        exact (h (k, v) List.mem_cons_self z hz e).1
      rw [this]
      unfold dlt
      rw [if_neg c]; omega
theorem pmul_win {lo hi lo2 hi2 : Int} {A B : IP} (w : Win lo hi A) (w2 : Win lo2 hi2 B) : Win (lo + lo2) (hi + hi2) (pmul A B) := fun q hq => by
  obtain ⟨y, hy, hq⟩ := List.mem_flatMap.mp hq
  obtain ⟨t, ht, rfl⟩ := List.mem_map.mp hq
  have := w y hy
  have := w2 t ht
  show lo + lo2 ≤ y.1 + t.1 ∧ y.1 + t.1 ≤ hi + hi2
  omega
theorem ppow_win {lo hi : Int} {ps : IP} (w : Win lo hi ps) : ∀ n : Nat, Win (n * lo) (n * hi) (ppow ps n)
  | 0 => fun q h => by rw [show ppow ps 0 = [(0, 1)] from rfl, List.mem_singleton] at h; subst h; simp
  | n + 1 => by
    have := pmul_win (ppow_win w n) w
    have e : ∀ y : Int, ((n + 1 : Nat) : Int) * y = n * y + y := fun y => by rw [Int.natCast_add, Int.add_mul]; simp
    rw [e, e]
    exact this
theorem lead_lo {lo hi lo2 hi2 : Int} {A B : IP} (w : Win lo hi A) (w2 : Win lo2 hi2 B) : cf (pmul A B) (lo + lo2) = cf A lo * cf B lo2 := cf_lead fun q hq z hz e => by
  have := w q hq
  have := w2 z hz
  omega
theorem lead_hi {lo hi lo2 hi2 : Int} {A B : IP} (w : Win lo hi A) (w2 : Win lo2 hi2 B) : cf (pmul A B) (hi + hi2) = cf A hi * cf B hi2 := cf_lead fun q hq z hz e => by
  have := w q hq
  have := w2 z hz
  omega
theorem pow_lo {lo hi : Int} {ps : IP} (w : Win lo hi ps) : ∀ n : Nat, cf (ppow ps n) (n * lo) = cf ps lo ^ n
  | 0 => by
    rw [show ((0 : Nat) : Int) * lo = 0 by simp, Int.pow_zero]
    rfl
  | n + 1 => by
    have e : ((n + 1 : Nat) : Int) * lo = n * lo + lo := by rw [Int.natCast_add, Int.add_mul]; simp
    rw [e, Int.pow_succ, ← pow_lo w n]
    exact lead_lo (ppow_win w n) w
theorem pow_hi {lo hi : Int} {ps : IP} (w : Win lo hi ps) : ∀ n : Nat, cf (ppow ps n) (n * hi) = cf ps hi ^ n
  | 0 => by
    rw [show ((0 : Nat) : Int) * hi = 0 by simp, Int.pow_zero]
    rfl
  | n + 1 => by
    have e : ((n + 1 : Nat) : Int) * hi = n * hi + hi := by rw [Int.natCast_add, Int.add_mul]; simp
    rw [e, Int.pow_succ, ← pow_hi w n]
    exact lead_hi (ppow_win w n) w
theorem unit_mul {p : Int} (hp : p = 2 ∨ p = 3 ∨ p = 5) {x y : Int} (hx : x % p ≠ 0) (hy : y % p ≠ 0) : (x * y) % p ≠ 0 := by
  rw [Int.mul_emod]
  rcases hp with rfl | rfl | rfl
  · have h1 : x % 2 = 1 := by omega
    have h2 : y % 2 = 1 := by omega
    rw [h1, h2]; decide
  · have h1 : x % 3 = 1 ∨ x % 3 = 2 := by omega
    have h2 : y % 3 = 1 ∨ y % 3 = 2 := by omega
    rcases h1 with h1 | h1 <;> rcases h2 with h2 | h2 <;> rw [h1, h2] <;> decide
  · have h1 : x % 5 = 1 ∨ x % 5 = 2 ∨ x % 5 = 3 ∨ x % 5 = 4 := by omega
    have h2 : y % 5 = 1 ∨ y % 5 = 2 ∨ y % 5 = 3 ∨ y % 5 = 4 := by omega
    rcases h1 with h1 | h1 | h1 | h1 <;> rcases h2 with h2 | h2 | h2 | h2 <;> rw [h1, h2] <;> decide
theorem unit_pow {p : Int} (hp : p = 2 ∨ p = 3 ∨ p = 5) {x : Int} (hx : x % p ≠ 0) : ∀ n : Nat, x ^ n % p ≠ 0
  | 0 => by rw [Int.pow_zero]; rcases hp with rfl | rfl | rfl <;> decide
  | n + 1 => by rw [Int.pow_succ]; exact unit_mul hp (unit_pow hp hx n) hx
theorem asc_win {f l : Int × Int} {r : IP} (h : Asc (f :: r)) (hl : (f :: r).getLast? = some l) : Win f.1 l.1 (f :: r) := by
  obtain ⟨M, e⟩ := List.getLast?_eq_some_iff.mp hl
  intro q hq
  constructor
  · rcases List.mem_cons.mp hq with rfl | hq
    · exact Int.le_refl _
    · exact Int.le_of_lt (List.rel_of_pairwise_cons h hq)
  · rw [e] at hq h
    rcases List.mem_append.mp hq with hq | hq
    · exact Int.le_of_lt ((List.pairwise_append.mp h).2.2 q hq l (List.mem_singleton.mpr rfl))
    · rw [List.mem_singleton.mp hq]; exact Int.le_refl _
theorem val_at {p : Int} {ps : IP} (h : Asc ps) (hv : Vl p ps) {q : Int × Int} (hq : q ∈ ps) : cf ps q.1 % p ≠ 0 := by
  rw [cf_look h.nodup]
  have e : lookI ps q.1 = q.2 := by unfold lookI; rw [getI_mem h.nodup hq]; rfl
  have := hv q hq
  rw [e, Int.emod_eq_of_lt (by omega) (by omega)]
  omega
theorem far_win {p lo hi lo2 hi2 : Int} {ps cs : IP} (w : Win lo hi cs) (w2 : Win lo2 hi2 ps) (n : Nat) (x : Int) (h : x < lo + n * lo2 ∨ hi + n * hi2 < x) : FarV p ps cs n x = 0 := by
  unfold FarV
  rw [cf_none fun q hq => ?_, Int.zero_emod]
  have := pmul_win w (ppow_win w2 n) q hq
  omega
structure Ends (p : Int) (ps cs : IP) (n : Nat) (lo hi : Int) : Prop where
  low : ∀ x, x < lo → FarV p ps cs n x = 0
  first : FarV p ps cs n lo ≠ 0
  last : FarV p ps cs n hi ≠ 0
  high : ∀ x, hi < x → FarV p ps cs n x = 0
theorem far_ends {p : Int} {o z f l : Int × Int} {ps r : IP} (hq : Parts p (o :: ps)) (hz : (o :: ps).getLast? = some z) (hs : Asc (f :: r)) (hv : Vl p (f :: r)) (hl : (f :: r).getLast? = some l) (n : Nat) :
    Ends p (o :: ps) (f :: r) n (f.1 + n * o.1) (l.1 + n * z.1) := by
  have w1 := asc_win hs hl
  have w2 := asc_win hq.asc hz
  have hp := hq.pr
  refine ⟨fun x h => far_win w1 w2 n x (.inl h), ?_, ?_, fun x h => far_win w1 w2 n x (.inr h)⟩
  · unfold FarV
    rw [lead_lo w1 (ppow_win w2 n), pow_lo w2]
    exact unit_mul hp (val_at hs hv List.mem_cons_self) (unit_pow hp (val_at hq.asc hq.co List.mem_cons_self) n)
  · unfold FarV
    rw [lead_hi w1 (ppow_win w2 n), pow_hi w2]
    exact unit_mul hp (val_at hs hv (List.mem_of_getLast? hl)) (unit_pow hp (val_at hq.asc hq.co (List.mem_of_getLast? hz)) n)
end DL

set_option maxRecDepth 100000
set_option maxHeartbeats 4000000
set_option linter.all false
namespace DL
open PySem PySem.Spec PyProof.Rows L2
/-! ## far rows: one step more, powers of the prime, sums, later rows -/
theorem dvd_mod {p a b : Int} (h : p ∣ a - b) : a % p = b % p := by
  obtain ⟨k, hk⟩ := h
  have : a = b + p * k := by omega
  rw [this, Int.add_mul_emod_self_left]
theorem sum_mod (p : Int) (f g : Int → Int) (h : ∀ x, f x % p = g x % p) : ∀ l : IP, sumF f l % p = sumF g l % p
  | [] => rfl
  | q :: r => by
    have ih := sum_mod p f g h r
    show (f q.1 * q.2 + sumF f r) % p = (g q.1 * q.2 + sumF g r) % p
    rw [Int.add_emod, Int.mul_emod, h q.1, ← Int.mul_emod, ih, ← Int.add_emod]
/-- a step more: what each term gives -/
theorem cf_step (A ps : IP) (x : Int) : cf (pmul A ps) x = sumF (fun b => cf A (x - b)) ps := by
  unfold cf
  rw [sumF_mul, sumF_swap]
  refine sumF_congr (fun b => sumF_congr (fun a => ?_) A) ps
  unfold dlt
  by_cases c : a + b = x
  · rw [if_pos c, if_pos (by omega)]
  · rw [if_neg c, if_neg (by omega)]
theorem far_more (p : Int) (ps rs : IP) (n : Nat) (x : Int) : FarV p ps rs (n + 1) x = sumF (fun b => FarV p ps rs n (x - b)) ps % p := by
  unfold FarV
  have e : cf (pmul rs (ppow ps (n + 1))) x = cf (pmul (pmul rs (ppow ps n)) ps) x := (mul_assoc' rs (ppow ps n) ps).symm _
  rw [e, cf_step]
  exact sum_mod p _ _ (fun y => (Int.emod_emod_of_dvd _ (Int.dvd_refl p)).symm) ps
theorem spread_spread (p q : Int) (l : IP) : spread p (spread q l) = spread (p * q) l := by
  unfold spread
  rw [List.map_map]
  exact List.map_congr_left fun z _ => by show (p * (q * z.1), z.2) = (p * q * z.1, z.2); rw [Int.mul_assoc]
theorem spread_one (l : IP) : spread 1 l = l := by
  unfold spread
  refine (List.map_congr_left fun z _ => ?_).trans (List.map_id l)
  show (1 * z.1, z.2) = z
  rw [Int.one_mul]
theorem pow_same (l : IP) : Same (ppow l 1) l := one_mul' l
theorem frob_pow {p : Nat} (hp : p = 2 ∨ p = 3 ∨ p = 5) (ps : IP) : ∀ j : Nat, SameM p (ppow ps (p ^ j)) (spread ((p ^ j : Nat) : Int) ps)
  | 0 => by
    rw [Nat.pow_zero, show (((1 : Nat)) : Int) = 1 from rfl, spread_one]
    exact (pow_same ps).mod
  | j + 1 => by
    rw [Nat.pow_succ]
    refine (ppow_mul ps (p ^ j) p).mod.trans ?_
    refine (ppow_mod (frob_pow hp ps j) p).trans ?_
    refine (frob hp (spread ((p ^ j : Nat) : Int) ps)).trans ?_
    rw [spread_spread, Int.natCast_mul, Int.mul_comm]
    exact SameM.refl _ _
/-- rows of powers of the prime -/
theorem far_power {p : Int} (hp : p = 2 ∨ p = 3 ∨ p = 5) (ps rs : IP) (j : Nat) (x : Int) : FarV p ps rs (p.toNat ^ j) x = tot (spread (((p.toNat) ^ j : Nat) : Int) ps) x rs % p := by
  obtain ⟨q, rfl⟩ : ∃ q : Nat, p = q := ⟨p.toNat, by omega⟩
  have hq : q = 2 ∨ q = 3 ∨ q = 5 := by omega
  unfold FarV
  rw [Int.toNat_natCast, tot_cf]
  exact ((SameM.refl _ rs).mul (frob_pow hq ps j)).cf_eq x
/-- a sum of two begins -/
theorem far_sum {p : Int} {ps l m s : IP} (h : SameM p s (l ++ m)) (n : Nat) (x : Int) : FarV p ps s n x = (FarV p ps l n x + FarV p ps m n x) % p := by
  unfold FarV
  rw [(h.mul (SameM.refl p (ppow ps n))).cf_eq x, ← Int.add_emod]
  have e : cf (pmul (l ++ m) (ppow ps n)) x = cf (pmul l (ppow ps n)) x + cf (pmul m (ppow ps n)) x := (add_mul' l m _ _).trans (sumF_app _ _ _)
  rw [e]
/-- a later row as begin -/
theorem far_later {p : Int} {ps rs q : IP} {k : Nat} (h : SameM p q (pmul rs (ppow ps k))) (n : Nat) (x : Int) : FarV p ps q n x = FarV p ps rs (n + k) x := by
  unfold FarV
  refine SameM.cf_eq ?_ x
  refine (h.mul (SameM.refl p (ppow ps n))).trans ((mul_assoc' rs _ _).mod.trans ((SameM.refl p rs).mul ?_))
  rw [Nat.add_comm]
  exact (ppow_add ps k n).symm.mod
theorem next_same {p : Int} {ps cur q : IP} (h : Next p ps cur q) : SameM p q (pmul cur ps) := sameM_of fun x => by
  rw [cf_look h.1.nodup, h.2.2, look_mul, tot_cf]
  exact ⟨-(cf (pmul cur ps) x / p), by have := Int.mul_ediv_add_emod (cf (pmul cur ps) x) p; rw [Int.mul_neg]; omega⟩
/-- the i-th row of a chain -/
theorem chain_at {p : Int} {ps rs : IP} : ∀ (L : List IP) (cur : IP) (k : Nat), Asc cur → Vl p cur → SameM p cur (pmul rs (ppow ps k)) → Chain p ps cur L → ∀ i, i ≤ L.length →
    ∃ q, (cur :: L)[i]? = some q ∧ Asc q ∧ Vl p q ∧ SameM p q (pmul rs (ppow ps (k + i)))
  | L, cur, k, hn, hv, hs, _, 0, _ => ⟨cur, rfl, hn, hv, hs⟩
  | [], _, _, _, _, _, _, i + 1, h => absurd h (by simp)
  | q :: L, cur, k, hn, hv, hs, hw, i + 1, h => by
    obtain ⟨w1, w4⟩ := hw
    have hs' : SameM p q (pmul rs (ppow ps (k + 1))) := (next_same w1).trans ((hs.mul (SameM.refl p ps)).trans (mul_assoc' rs (ppow ps k) ps).mod)
    obtain ⟨z, z1, z2, z3, z4⟩ := chain_at L q (k + 1) w1.1 w1.2.1 hs' w4 i (by simpa using h)
    exact ⟨z, by rw [List.getElem?_cons_succ]; exact z1, z2, z3, by rw [show k + (i + 1) = k + 1 + i by omega]; exact z4⟩
theorem chain_win {p : Int} {ps : IP} (hps : Parts p ps) : ∀ (L : List IP) (cur : IP) (lo hi : Int), Win lo hi cur → Chain p ps cur L → ∀ (i : Nat) (q : IP), (cur :: L)[i]? = some q → Win (lo - 100 * i) (hi + 100 * i) q
  | L, cur, lo, hi, w, _, 0, q, e => by
    have : cur = q := by simpa using e
    subst this
    simpa using w
  | [], _, _, _, _, _, i + 1, _, e => by simp at e
  | z :: L, cur, lo, hi, w, h, i + 1, q, e => by
    have := chain_win hps L z _ _ (next_win hps w h.1) h.2 i q (by simpa using e)
    intro y hy
    have := this y hy
    omega
/-- there is one next row -/
theorem next_uniq {p : Int} {ps cur q z : IP} (h : Next p ps cur q) (g : Next p ps cur z) : q = z :=
  asc_ext h.1 g.1 (vl_ne h.2.1) (vl_ne g.2.1) fun x => by rw [h.2.2, g.2.2]
theorem chain_next {p : Int} {ps : IP} : ∀ (L : List IP) (cur : IP), Chain p ps cur L → ∀ (i : Nat) (q z : IP), (cur :: L)[i]? = some q → (cur :: L)[i + 1]? = some z → Next p ps q z
  | [], cur, _, i, q, z, _, e => by simp at e
  | y :: L, cur, h, 0, q, z, e, e2 => by
    have e : cur = q := by simpa using e
    have e2 : y = z := by simpa using e2
    subst e e2
    exact h.1
  | y :: L, cur, h, i + 1, q, z, e, e2 => chain_next L y h.2 i q z (by simpa using e) (by simpa using e2)
end DL

set_option maxRecDepth 100000
set_option maxHeartbeats 4000000
set_option linter.all false
namespace DL
open PySem PySem.Spec PyProof.Rows L2
/-! ## repr of pairs of great numbers -/
theorem weight_prW : ∀ {ps : IP}, (∀ q ∈ ps, q.1.natAbs < 2 ^ 134 ∧ q.2.natAbs < 2 ^ 134) → PyData.weightAll (ps.map prP) ≤ 272 * ps.length
  | [], _ => by simp only [List.map_nil, PyData.weightAll, List.length_nil]; omega
  | q :: r, h => by
    have ih := weight_prW (ps := r) fun z hz => h z (List.mem_cons_of_mem _ hz)
    have h1 := h q List.mem_cons_self
    have w1 := weight_int h1.1
    have w2 := weight_int h1.2
    have e : PyData.weight (prP q) = PyData.weight (.int q.1) + 1 + (PyData.weight (.int q.2) + 1 + 0) := by
      simp only [prP, PyData.weight, PyData.weightAll]
    simp only [List.map_cons, PyData.weightAll, List.length_cons]
    omega
theorem show_prW : ∀ {ps : IP}, (∀ q ∈ ps, q.1.natAbs < 2 ^ 134 ∧ q.2.natAbs < 2 ^ 134) → PyData.showableAll (ps.map prP) = true
  | [], _ => by simp only [List.map_nil, PyData.showableAll]
  | q :: r, h => by
    have h1 := h q List.mem_cons_self
    have lg : ∀ {i : Int} {k : Nat}, i.natAbs < 2 ^ k → k ≤ 1000 → i.natAbs.log2 < 1920 := fun {i k} h hk => by
      by_cases c : i.natAbs = 0
      · rw [c]; decide
      · have := (Nat.log2_lt c).mpr h; omega
    have e1 : decide (q.1.natAbs.log2 < 1920) = true := decide_eq_true (lg h1.1 (by omega))
    have e2 : decide (q.2.natAbs.log2 < 1920) = true := decide_eq_true (lg h1.2 (by omega))
    simp only [List.map_cons, PyData.showableAll, PyData.showable, prP, e1, e2, show_prW (ps := r) fun z hz => h z (List.mem_cons_of_mem _ hz), Bool.and_self]
theorem repr_wide {W : WS} {d : D} {ps : IP} {P : D → Prop} (hv : view W d = .lst (ps.map prD)) (hl : ps.length ≤ 1000) (hb : ∀ q ∈ ps, q.1.natAbs < 10 ^ 40 ∧ q.2.natAbs < 10 ^ 40) (h : P (.str (PyData.shown (.list (ps.map prP))))) : fRepr [d] W P := by
  have hb2 : ∀ q ∈ ps, q.1.natAbs < 2 ^ 134 ∧ q.2.natAbs < 2 ^ 134 := fun q hq => by
    have := hb q hq
    omega
  have hd := depth_pr ps
  have w := weight_prW hb2
  have s := PyData.shown_le 41 (by decide) (.list (ps.map prP)) (by simp only [PyData.leavesShort]; exact leaf_pr hb)
  simp only [PyData.weight] at s
  unfold fRepr
  simp only [hv, plainD, plain_pr, toP, toPs_pr, PyData.showable, show_prW hb2, PyData.depth, true_and]
  refine ⟨by omega, ?_, h⟩
  rw [sizeLine_eq]
  omega
theorem pool_pw {W : WS} {a : Addr} {n : Nat} {p : Int} {ps : IP} (h : PoolOk W a n) (hp : 0 < p) : ∀ pw, W pw = some (.lst (pwL p ps p.toNat)) → pw ∉ [a] := fun pw hw hm => by
  obtain ⟨p0, p1, p2, ha, _⟩ := h.ex
  rw [List.mem_singleton] at hm
  subst hm
  rw [ha] at hw
  injection hw with hw
  injection hw with hw
  have : (pwL p ps p.toNat)[0]? = some (dkI (powI p ps 0)) := by
    unfold pwL
    rw [List.getElem?_map, List.getElem?_range (by omega)]; rfl
  rw [← hw] at this
  cases this
theorem ends_call {C b : Addr} {p n : Int} {o z f l : Int × Int} {ps r : IP} {W : WS} {Q : D → WS → Prop} {PX : XP} (hr : RuleAt C W b p (o :: ps)) (hq : Parts p (o :: ps)) (hz : (o :: ps).getLast? = some z) (hs : Asc (f :: r)) (hv : Vl p (f :: r)) (hl : (f :: r).getLast? = some l) (h0 : 0 ≤ n) (h1 : n < 2 ^ 150)
    {lo hi : Int} (elo : f.1 + n * o.1 = lo) (ehi : l.1 + n * z.1 = hi) (h : Q (.tup [.int lo, .int hi]) W) : sp_ends_of C [.obj b, .lst ((f :: r).map prD), .int n] W Q PX :=
  ⟨b, p, o, ps, z, f :: r, n, rfl, hr, hq, hz, hs, hv, h0, h1, fun e => absurd e (List.cons_ne_nil _ _), fun f' r' l' e1 e2 => by
    injection e1 with e1 _
    rw [hl] at e2
    injection e2 with e2
    subst e1 e2 elo ehi
    exact h⟩
theorem cell_call {C b : Addr} {p n x : Int} {ps rs : IP} {W : WS} {Q : D → WS → Prop} {PX : XP} (hr : RuleAt C W b p ps) (hq : Parts p ps) (hs : Asc rs) (hv : Vl p rs) (hw : Win40 rs) (h0 : 0 ≤ n)
    (h : ∀ W', ExB [] W W' → Q (.int (FarV p ps rs n.toNat x)) W') : sp_cell_at C [.obj b, .lst (rs.map prD), .int n, .int x] W Q PX := by
  obtain ⟨lo, hw⟩ := hw
  exact ⟨b, p, ps, rs, lo, lo + 50, n, x, rfl, hr, hq, hs, hv, hw, by omega, by omega, h0, h⟩
theorem shaped_one (q : Int × Int) : SeqAt.shaped (prP q) = true := by
  have := shaped_ints [q.1, q.2]
  simp only [SeqAt.shaped, PyData.canLay0, prP, PyData.depth, List.map_cons, List.map_nil] at this ⊢
  exact this
theorem eqK_pr {neg : Bool} {q z : Int × Int} {W : WS} {P : D → Prop} (h : P (.bl (if neg then !decide (q = z) else decide (q = z)))) : fEqK neg (prD q) (prD z) W P := by
  refine ⟨rfl, rfl, shaped_one q, shaped_one z, ?_⟩
  show P (.bl (if neg then !PyData.eqv (prP q) (prP z) else PyData.eqv (prP q) (prP z)))
  rw [eqv_pr]
  exact h
theorem step_same {p : Int} (hp : 0 < p) {ts ps cur q : IP} (hperm : ps.Perm (swapI ts)) (hn : (q.map (·.1)).Nodup) (h : ∀ x, lookI q x = lookI (mulI cur (swapI ts)) x % p) : SameM p q (pmul cur ps) := sameM_of fun x => by
  rw [cf_look hn, h, look_mul, ← tot_perm hperm (List.Perm.refl cur), tot_cf]
  exact ⟨-(cf (pmul cur ps) x / p), by have := Int.mul_ediv_add_emod (cf (pmul cur ps) x) p; rw [Int.mul_neg]; omega⟩
theorem walk_far {p : Int} (hp : 0 < p) {ts ps rs : IP} (hperm : ps.Perm (swapI ts)) : ∀ (L : List IP) (cur : IP) (k : Nat), (cur.map (·.1)).Nodup → Vl p cur → SameM p cur (pmul rs (ppow ps k)) → Walk p ts cur L → ∀ i, i ≤ L.length →
    ∃ q, (cur :: L)[i]? = some q ∧ (q.map (·.1)).Nodup ∧ Vl p q ∧ ∀ x, lookI q x = FarV p ps rs (k + i) x
  | L, cur, k, hn, hv, hs, _, 0, _ => ⟨cur, rfl, hn, hv, fun x => by
      have e := hs.cf_eq x
      rw [cf_look hn] at e
      have := look_range hp hv x
      rw [Int.emod_eq_of_lt this.1 this.2] at e
      exact e⟩
  | [], _, _, _, _, _, _, i + 1, h => absurd h (by simp)
  | q :: L, cur, k, hn, hv, hs, hw, i + 1, h => by
    obtain ⟨w1, w2, w3, w4⟩ := hw
    have hs' : SameM p q (pmul rs (ppow ps (k + 1))) := (step_same hp hperm w1 w3).trans ((hs.mul (SameM.refl p ps)).trans (mul_assoc' rs (ppow ps k) ps).mod)
    obtain ⟨z, z1, z2, z3, z4⟩ := walk_far hp hperm L q (k + 1) w1 w2 hs' w4 i (by simpa using h)
    exact ⟨z, by rw [List.getElem?_cons_succ]; exact z1, z2, z3, fun x => by rw [z4 x]; rw [show k + 1 + i = k + (i + 1) by omega]⟩
theorem keys_int : ∀ q : IP, keysOf (mkI q) = (q.map (·.1)).map D.int
  | [] => rfl
  | (k, v) :: r => by
    rw [keysOf_cons, keys_int r]; rfl
theorem mem_look {p : Int} {q : IP} (hn : (q.map (·.1)).Nodup) (hv : Vl p q) (x : Int) : x ∈ q.map (·.1) ↔ lookI q x ≠ 0 := by
  constructor
  · intro hx
    obtain ⟨z, hz, rfl⟩ := List.mem_map.mp hx
    unfold lookI
    rw [getI_mem hn hz]
    have := hv z hz
    show z.2 ≠ 0
    omega
  · intro hx
    refine Decidable.byContradiction fun c => hx ?_
    unfold lookI
    rw [getI_none.mpr c]; rfl
end DL

set_option maxRecDepth 100000
set_option maxHeartbeats 4000000
set_option linter.all false
namespace DL
open PySem PySem.Spec PyProof.Rows L2
theorem okR_of {p B : Int} {rs : IP} (hb : Bd B rs) (hv : Vl p rs) (hB : B < 10 ^ 40) (hp : p ≤ 5) : okR rs := fun q hq => by
  have := hb q hq
  have := hv q hq
  constructor <;> omega
/-- many rows in a list -/
theorem ok_rows : ∀ {L : List IP}, (∀ r ∈ L, okR r) → okPs (L.map pRow) = true
  | [], _ => by simp only [List.map_nil, okPs]
  | r :: L, h => by simp only [List.map_cons, okPs, ok_row (h r List.mem_cons_self), ok_rows (L := L) fun z hz => h z (List.mem_cons_of_mem _ hz), Bool.and_self]
theorem sz_rows {n : Nat} : ∀ {L : List IP}, (∀ r ∈ L, r.length ≤ n) → szPs (L.map pRow) ≤ L.length * (1 + 3 * n)
  | [], _ => by simp only [List.map_nil, szPs, List.length_nil]; omega
  | r :: L, h => by
    have ih := sz_rows (L := L) fun z hz => h z (List.mem_cons_of_mem _ hz)
    have h1 := h r List.mem_cons_self
    have e : (L.length + 1) * (1 + 3 * n) = L.length * (1 + 3 * n) + (1 + 3 * n) := Nat.succ_mul _ _
    simp only [List.map_cons, szPs, sz_row, List.length_cons, e]; omega
theorem dp_rows : ∀ {L : List IP}, PyData.depthAll (L.map pRow) ≤ 2
  | [] => by simp only [List.map_nil, PyData.depthAll]; omega
  | r :: L => by
    have ih := dp_rows (L := L)
    have := dp_row r
    simp only [List.map_cons, PyData.depthAll]; omega
theorem reprV_rows {W : WS} {d : D} {L : List IP} {n : Nat} {P : D → Prop} (h : PlV W d (.list (L.map pRow))) (hk : ∀ r ∈ L, okR r) (hn : ∀ r ∈ L, r.length ≤ n) (hs : L.length * (1 + 3 * n) ≤ 2400) (hp : P (.str (PyData.list (L.map pRow)).shown)) : fReprV [d] W P := by
  have s := sz_rows hn
  have dd := dp_rows (L := L)
  refine reprV_ok h (by simp only [okP]; exact ok_rows hk) (by simp only [szP]; omega) (by simp only [PyData.depth]; omega) hp
theorem reprV_row {W : WS} {d : D} {r : IP} {P : D → Prop} (h : PlV W d (pRow r)) (hk : okR r) (hn : r.length ≤ 800) (hp : P (.str (pRow r).shown)) : fReprV [d] W P := by
  have dd := dp_row r
  refine reprV_ok h (ok_row hk) (by rw [sz_row]; omega) (by omega) hp
theorem ExB.delN {W0 W : WS} {b : Addr} (h : ExB [] W0 W) (hb : W0 b = none) : ExB [] W0 (W.del b) := fun c ob hc ec => by
  have hcb : c ≠ b := fun e => by subst e; rw [hb] at ec; cases ec
  rw [WS.del_ne hcb]; exact h c ob hc ec
theorem ExB.was {W0 W : WS} {b : Addr} (h : ExB [] W0 W) (hb : W b = none) : W0 b = none := by
  cases e : W0 b with
  | none => rfl
  | some ob => have := h b ob (by simp) e; rw [hb] at this; cases this
theorem ExB.putN {W0 W : WS} {b : Addr} {ob : Ob} (h : ExB [] W0 W) (hb : W0 b = none) : ExB [] W0 (W.put b ob) := fun c o hc ec => by
  have hcb : c ≠ b := fun e => by subst e; rw [hb] at ec; cases ec
  rw [WS.put_ne hcb]; exact h c o hc ec
theorem WS.put_delN {W : WS} {a b : Addr} {ob : Ob} (h : a ≠ b) : (W.put a ob).del b = (W.del b).put a ob := by
  funext c
  by_cases e : c = b
  · subst e; rw [WS.del_same, WS.put_ne (Ne.symm h), WS.del_same]
  · by_cases e2 : c = a
    · subst e2; rw [WS.del_ne e, WS.put_same, WS.put_same]
    · rw [WS.del_ne e, WS.put_ne e2, WS.put_ne e2, WS.del_ne e]
end DL

set_option maxRecDepth 100000
set_option maxHeartbeats 4000000
set_option linter.all false
namespace DL
open PySem PySem.Spec PyProof.Rows L2
/-! ## keys of the memo -/
theorem nk_pr (q : Int × Int) : nkD (prD q) = some (.tup [.num q.1, .num q.2]) := by
  simp only [prD, nkD, nksD]; rfl
theorem nks_pr : ∀ cs : IP, nksD (cs.map prD) = some (cs.map fun q => .tup [.num q.1, .num q.2])
  | [] => by simp only [List.map_nil, nksD]
  | q :: r => by
    have i := nks_pr r
    simp only [List.map_cons, nksD, nk_pr, i]
theorem nk_key (cs : IP) (n lo hi : Int) : nkD (.tup [.ptup (cs.map prD), .int n, .tup [.int lo, .int hi]]) = some (keyN cs n lo hi) := by
  simp only [nkD, nksD, nks_pr]; rfl
theorem depth_keys : ∀ cs : IP, NestedKey.depthAll (cs.map fun q => NestedKey.tup [.num q.1, .num q.2]) ≤ 2
  | [] => by simp only [List.map_nil, NestedKey.depthAll]; omega
  | q :: r => by
    have i := depth_keys r
    simp only [List.map_cons, NestedKey.depthAll, NestedKey.depth]
    omega
theorem depth_key (cs : IP) (n lo hi : Int) : (keyN cs n lo hi).depth ≤ 8 := by
  have i := depth_keys cs
  unfold keyN
  simp only [NestedKey.depthAll, NestedKey.depth]
  omega
theorem key_cells : ∀ {cs ds : IP}, (cs.map fun q => NestedKey.tup [.num q.1, .num q.2]) = (ds.map fun q => NestedKey.tup [.num q.1, .num q.2]) → cs = ds
  | [], [], _ => rfl
  | [], _ :: _, h => by cases h
  | _ :: _, [], h => by cases h
  | (a, b) :: r, (c, d) :: s, h => by
    rw [List.map_cons, List.map_cons, List.cons.injEq] at h
    obtain ⟨h1, h2⟩ := h
    simp only [NestedKey.tup.injEq, List.cons.injEq, NestedKey.num.injEq, and_true] at h1
    rw [key_cells h2, h1.1, h1.2]
theorem key_inj {cs ds : IP} {n lo hi m lo2 hi2 : Int} (h : keyN cs n lo hi = keyN ds m lo2 hi2) : cs = ds ∧ n = m ∧ lo = lo2 ∧ hi = hi2 := by
  unfold keyN at h
  simp only [NestedKey.tup.injEq, List.cons.injEq, NestedKey.num.injEq, and_true] at h
  exact ⟨key_cells h.1, h.2.1, h.2.2.1, h.2.2.2⟩
/-! ## the memo -/
theorem hasKD_iff {α : Type} [DecidableEq α] {k : α} : ∀ {kvs : List (α × D)}, hasKD k kvs = true ↔ k ∈ kvs.map (·.1)
  | [] => by simp [hasKD]
  | (g, v) :: r => by
    show (if g = k then true else hasKD k r) = true ↔ _
    rw [List.map_cons, List.mem_cons]
    by_cases h : g = k
    · simp [h]
    · rw [if_neg h, hasKD_iff]
      exact ⟨.inr, fun z => z.elim (fun e => absurd e.symm h) id⟩
theorem getKD_has {α : Type} [DecidableEq α] {k : α} : ∀ {kvs : List (α × D)}, hasKD k kvs = true → ∃ d, getKD k kvs = some d
  | [], h => by cases h
  | (g, v) :: r, h => by
    have h' : (if g = k then true else hasKD k r) = true := h
    show ∃ d, (if g = k then some v else getKD k r) = some d
    by_cases c : g = k
    · exact ⟨v, if_pos c⟩
    · rw [if_neg c] at h'
      obtain ⟨d, hd⟩ := getKD_has h'
      exact ⟨d, by rw [if_neg c, hd]⟩
theorem getKD_app {α : Type} [DecidableEq α] {k g : α} {v : D} : ∀ {kvs : List (α × D)}, getKD k (kvs ++ [(g, v)]) = match getKD k kvs with | some d => some d | none => if g = k then some v else none
  | [] => rfl
  | (f, u) :: r => by
    have i := getKD_app (k := k) (g := g) (v := v) (kvs := r)
    show (if f = k then some u else getKD k (r ++ [(g, v)])) = match (if f = k then some u else getKD k r) with | some d => some d | none => if g = k then some v else none
    by_cases c : f = k
    · rw [if_pos c, if_pos c]
    · rw [if_neg c, if_neg c, i]
theorem nodup_len {α : Type} [DecidableEq α] : ∀ {l m : List α}, l.Nodup → (∀ x ∈ l, x ∈ m) → l.length ≤ m.length
  | [], _, _, _ => Nat.zero_le _
  | x :: l, m, hn, hs => by
    rw [List.nodup_cons] at hn
    have hx := hs x List.mem_cons_self
    have i := nodup_len (l := l) (m := m.erase x) hn.2 fun y hy => (List.mem_erase_of_ne (fun e => hn.1 (by rw [← e]; exact hy))).mpr (hs y (List.mem_cons_of_mem _ hy))
    rw [List.length_erase_of_mem hx] at i
    have := List.length_pos_of_mem hx
    rw [List.length_cons]; omega
theorem MemoOk.keep {p : Int} {ps : IP} {W W' : WS} {S : Addr → Prop} {U : List NestedKey} {kvs : List (NestedKey × D)} {m : Addr} (h : MemoOk p ps W S U kvs) (hm : W m = some (.dN kvs)) (e : ExB [m] W W') : MemoOk p ps W' S U kvs :=
  ⟨fun k d hd => by
    obtain ⟨cs, n, lo, hi, b, h1, h2, h3, h4, h5, h6⟩ := h.ok k d hd
    exact ⟨cs, n, lo, hi, b, h1, h2, h3, h4, h5, e b _ (fun z => by rw [List.mem_singleton.mp z, hm] at h6; cases h6) h6⟩, h.nd, h.sub⟩
theorem MemoOk.add {p : Int} {ps : IP} {W W' : WS} {S : Addr → Prop} {U : List NestedKey} {kvs : List (NestedKey × D)} {m b : Addr} {cs : IP} {n lo hi : Int} (h : MemoOk p ps W S U kvs) (hm : W m = some (.dN kvs)) (e : ExB [m] W W') (hk : hasKD (keyN cs n lo hi) kvs = false) (hU : keyN cs n lo hi ∈ U) (h0 : 0 ≤ n) (hl : lo ≤ hi) (hS : ¬ S b)
    (hb : W' b = some (.lst (lineV p ps cs n.toNat lo (hi - lo + 1).toNat))) : MemoOk p ps W' S U (putKD kvs (keyN cs n lo hi) (.obj b)) := by
  have hk' : keyN cs n lo hi ∉ kvs.map (·.1) := fun z => by rw [hasKD_iff.mpr z] at hk; cases hk
  have g := h.keep hm e
  unfold putKD
  rw [hk, if_neg Bool.false_ne_true]
  refine ⟨fun k d hd => ?_, ?_, fun k hk => ?_⟩
  · rw [getKD_app] at hd
    cases z : getKD k kvs with
    | some d' => rw [z] at hd; cases hd; exact g.ok k _ z
    | none =>
      rw [z] at hd
      by_cases c : keyN cs n lo hi = k
      · rw [if_pos c] at hd; cases hd; exact ⟨cs, n, lo, hi, b, c.symm, h0, hl, rfl, hS, hb⟩
      · rw [if_neg c] at hd; cases hd
  · rw [List.map_append, List.map_cons, List.map_nil, List.nodup_append]
    exact ⟨h.nd, List.nodup_cons.mpr ⟨List.not_mem_nil, List.nodup_nil⟩, fun x hx y hy e => hk' (by
      have e2 : x = keyN cs n lo hi := e.trans (List.mem_singleton.mp hy)
      rw [← e2]; exact hx)⟩
  · rw [List.map_append, List.mem_append] at hk
    rcases hk with hk | hk
    · exact h.sub k hk
    · rw [List.map_cons, List.map_nil, List.mem_singleton] at hk; rw [hk]; exact hU
/-! ## far values of the same cells -/
theorem sumF_permA (f : Int → Int) {l m : IP} (h : l.Perm m) : sumF f l = sumF f m := by
  induction h with
  | nil => rfl
  | cons q _ ih => show _ + _ = _ + _; rw [ih]
  | swap a b l => show _ + (_ + _) = _ + (_ + _); omega
  | trans _ _ i j => exact i.trans j
theorem far_perm {p : Int} {ps l m : IP} (h : l.Perm m) (n : Nat) (x : Int) : FarV p ps l n x = FarV p ps m n x := by
  unfold FarV
  exact SameM.cf_eq ((Same.mod fun f => sumF_permA f h).mul (SameM.refl p _)) x
/-! ## the cells of a stretch, put together by remainders -/
theorem ceil_le {p lo r : Int} (hp : 0 < p) : lo ≤ -((r - lo) / p) * p + r := by
  have h1 := Int.emod_add_mul_ediv (r - lo) p
  have h2 := Int.emod_nonneg (r - lo) (Int.ne_of_gt hp)
  rw [Int.neg_mul, Int.mul_comm]
  omega
theorem floor_le {p hi r : Int} (hp : 0 < p) : (hi - r) / p * p + r ≤ hi := by
  have h1 := Int.emod_add_mul_ediv (hi - r) p
  have h2 := Int.emod_nonneg (hi - r) (Int.ne_of_gt hp)
  rw [Int.mul_comm]
  omega
theorem div_of {p x r : Int} (hp : 0 < p) (h : x % p = r) : x = x / p * p + r := by
  have h1 := Int.emod_add_mul_ediv x p
  rw [Int.mul_comm]; omega
theorem mod_at {p q r : Int} (hr : 0 ≤ r) (hr2 : r < p) : (q * p + r) % p = r ∧ (q * p + r) / p = q := by
  have hp : 0 < p := by omega
  constructor
  · rw [Int.add_comm, Int.add_mul_emod_self_right]; exact Int.emod_eq_of_lt hr hr2
  · rw [Int.add_comm, Int.add_mul_ediv_right _ _ (Int.ne_of_gt hp), Int.ediv_eq_zero_of_lt hr hr2, Int.zero_add]
/-- what the list holds when remainders below r are done, and so many of r -/
def Filled (p : Int) (ps cs : IP) (n : Nat) (lo : Int) (L : Nat) (done : Int → Prop) (xs : List D) : Prop := xs.length = L ∧ ∀ i : Nat, i < L → done (lo + i) → xs[i]? = some (.int (FarV p ps cs n (lo + i)))
theorem Filled.line {p : Int} {ps cs : IP} {n : Nat} {lo : Int} {L : Nat} {done : Int → Prop} {xs : List D} (h : Filled p ps cs n lo L done xs) (hd : ∀ i : Nat, i < L → done (lo + i)) : xs = lineV p ps cs n lo L := by
  refine List.ext_getElem? fun i => ?_
  unfold lineV
  by_cases hi : i < L
  · rw [h.2 i hi (hd i hi), List.getElem?_map, List.getElem?_range hi]; rfl
  · rw [List.getElem?_eq_none (by rw [h.1]; omega), List.getElem?_eq_none (by rw [List.length_map, List.length_range]; omega)]
theorem Filled.set {p : Int} {ps cs : IP} {n : Nat} {lo : Int} {L : Nat} {done done' : Int → Prop} {xs : List D} {k : Nat} {v : Int} (h : Filled p ps cs n lo L done xs) (hv : v = FarV p ps cs n (lo + k)) (hd : ∀ x, done' x → done x ∨ x = lo + k) : Filled p ps cs n lo L done' (xs.set k (.int v)) := by
  refine ⟨by rw [List.length_set]; exact h.1, fun i hi hx => ?_⟩
  by_cases c : k = i
  · subst c
    rw [List.getElem?_set_self (by rw [h.1]; exact hi), hv]
  · rw [List.getElem?_set_ne c]
    rcases hd _ hx with z | z
    · exact h.2 i hi z
    · omega
theorem Filled.mono {p : Int} {ps cs : IP} {n : Nat} {lo : Int} {L : Nat} {done done' : Int → Prop} {xs : List D} (h : Filled p ps cs n lo L done xs) (hd : ∀ i : Nat, i < L → done' (lo + i) → done (lo + i)) : Filled p ps cs n lo L done' xs := ⟨h.1, fun i hi hx => h.2 i hi (hd i hi hx)⟩
end DL

set_option maxRecDepth 100000
set_option maxHeartbeats 8000000
set_option linter.all false
namespace DL
open PySem PySem.Spec PyProof.Rows L2
theorem cmulB {p x : Int} (hp : p = 2 ∨ p = 3 ∨ p = 5) (h1 : -bigB - 2000 ≤ x) (h2 : x ≤ bigB + 2000) : CMulW x p := by
  unfold bigB at h1 h2
  refine wide_mul (a := 402) (b := 10) (by omega) (by rcases hp with rfl | rfl | rfl <;> decide) (by omega) (by omega) (by omega)
theorem ixN_nat {n i : Nat} (h : i < n) : ixN n (i : Int) = some i := by
  unfold ixN
  rw [if_pos (by omega), if_pos (by omega)]
  rfl
/-- the values of one remainder are put in -/
theorem fill_loop {C b : Addr} {spR : DSp} {p first r lo : Int} {ps cs qs : IP} {n m L : Nat} {d0 d1 d2 d3 d4 d6 d7 d11 d12 d14 d16 : Option D} {dv : D} {vals : List D} {PX : XP} {P : WEnds} (hp : p = 2 ∨ p = 3 ∨ p = 5) (hr : 0 ≤ r) (hr2 : r < p)
    (hf : ∀ x : Int, x % p = r → FarV p ps qs m (x / p) = FarV p ps cs n x) (hb1 : -bigB ≤ first) (hb2 : first ≤ bigB) (hlo : lo ≤ first * p + r) :
    ∀ (k s : Nat) (x17 x18 : Option D) (W : WS) (xs : List D), s + k ≤ 1001 → W b = some (.lst xs) → stays dv vals W → (∀ W', (∀ c, c ≠ b → W' c = W c) → stays dv vals W') →
    (∀ i : Nat, i < k → (first + (s + i : Nat)) * p + r - lo < L) →
    Filled p ps cs n lo L (fun x => x % p < r ∨ (x % p = r ∧ x / p < first + s)) xs →
    (∀ xs' x17 x18, Filled p ps cs n lo L (fun x => x % p < r ∨ (x % p = r ∧ x / p < first + (s + k : Nat))) xs' → P.nx [d0, d1, d2, d3, d4, some (.int lo), d6, d7, some (.int p), some (.int r), some (.obj b), d11, d12, some dv, d14, some (.int first), d16, x17, x18] (W.put b (.lst xs'))) →
    forO (stays dv vals) (.tu (.tp (.nm 17) (.tp (.nm 18) .nl))) (b_far_stretch_1 C spR) PX P (enumD s ((List.range' s k).map fun i => .int (FarV p ps qs m (first + (i : Nat))))) [d0, d1, d2, d3, d4, some (.int lo), d6, d7, some (.int p), some (.int r), some (.obj b), d11, d12, some dv, d14, some (.int first), d16, x17, x18] W
  | 0, s, x17, x18, W, xs, _, hw, hs, _, _, hF, K => by
    refine ⟨hs, ?_⟩
    have e : W.put b (.lst xs) = W := by
      funext c
      by_cases h : c = b
      · subst h; rw [WS.put_same, hw]
      · rw [WS.put_ne h]
    have := K xs x17 x18 hF
    rw [e] at this
    exact this
  | k + 1, s, x17, x18, W, xs, hl, hw, hs, hst, hi, hF, K => by
    have ih := fill_loop (C := C) (b := b) (spR := spR) (L := L) (d0 := d0) (d1 := d1) (d2 := d2) (d3 := d3) (d4 := d4) (d6 := d6) (d7 := d7) (d11 := d11) (d12 := d12) (d14 := d14) (d16 := d16) (dv := dv) (vals := vals) (PX := PX) (P := P) hp hr hr2 hf hb1 hb2 hlo k (s + 1)
    have hp0 : 0 < p := by omega
    rw [List.range'_succ, List.map_cons]
    show _ ∧ bindG _ _ _ _
    refine ⟨hs, ?_⟩
    generalize hK : forO (stays dv vals) (.tu (.tp (.nm 17) (.tp (.nm 18) .nl))) (b_far_stretch_1 C spR) PX P (enumD (s + 1) ((List.range' (s + 1) k).map fun i => .int (FarV p ps qs m (first + (i : Nat))))) = Kf
    simp only [hK] at ih
    simp only [b_far_stretch_1, wRaise, wTry, wXVal, wXIs, wXIsV, wCallX, fMulS, wSeq, wLRg1, wLRg2, wRngB, mExtend, wSetIxN, wBoxN, fNotInN, fGetN, wForEn, wSealQ, wPopD, wRep, wAug, wAsg, wSkip, wIf, wRet, wRetN, wDrop, wB, wTru, wBin, wUn, wApp, wAppF, wVal, wBox, wVar, wC, wFrz, wCons, wNil, wLst, wTup, wPar2, wPar3, wSetIx, wSetFld, wMu, wAnd, wOr, wNot, wAndV, wOrV, wNotV, wIte, wChain, wGet2, wFld, wProp, wMeth, wMethK, wCall, wCallK, wMakeK, wSeal, wOwn, wDisp, wPs, wDnK, wSortIt, wRev, wSlc, wONo, wOYes, wFor, wForLk, wIter, wRng1, wRng2, wEnum, wLc, wLcLk, wDc, wDcLk, wSetV, wSetB, wNo, wNoE, wYes, fAdd, fSub, fMul, fDiv, fMod, fPow, fLt, fLe, fGt, fGe, fNeg, fIsN, fNotN, isN, fInt, fAbs, bindG, Ob.toD, env0, List.map_cons, List.map_nil, List.cons_append, List.nil_append, List.append_nil, List.length_cons, List.length_nil, List.replicate_succ, List.replicate_zero, List.replicate, List.getElem?_cons_zero, List.getElem?_cons_succ, List.set_cons_zero, List.set_cons_succ, Option.some.injEq, exists_eq_left', exists_eq_left, D.int.injEq, D.bl.injEq, D.obj.injEq, keyD, keysD, fSet, mAppend, mInsert, mPop, mReverse, mClear, WS.put_same, dkD, lookD, truD, seqD, wipeD, List.set_nil]
    have hi0 := hi 0 (by omega)
    rw [Nat.add_zero] at hi0
    have hge : 0 ≤ (first + (s : Nat)) * p + r - lo := by
      have : (first + (s : Nat)) * p = first * p + (s : Int) * p := Int.add_mul _ _ _
      have := Int.mul_nonneg (show (0 : Int) ≤ s by omega) (Int.le_of_lt hp0)
      omega
    refine ⟨cmulB hp (by omega) (by omega), b, _, rfl, hw, ?_⟩
    obtain ⟨q, hq⟩ : ∃ q : Nat, (first + (s : Nat)) * p + r - lo = q := ⟨((first + (s : Nat)) * p + r - lo).toNat, by omega⟩
    rw [hq] at hi0 ⊢
    refine ⟨q, by rw [hF.1]; exact ixN_nat (by omega), ?_⟩
    have hx : lo + (q : Int) = (first + (s : Nat)) * p + r := by omega
    obtain ⟨m1, m2⟩ := mod_at (p := p) (q := first + (s : Nat)) hr hr2
    have hF' : Filled p ps cs n lo L (fun x => x % p < r ∨ (x % p = r ∧ x / p < first + (s + 1 : Nat))) (xs.set q (.int (FarV p ps qs m (first + (s : Nat))))) := by
      refine hF.set ?_ fun x hx2 => ?_
      · have := hf (lo + (q : Int)) (by rw [hx]; exact m1)
        rw [← this, hx, m2]
      · rcases hx2 with z | ⟨z1, z2⟩
        · exact .inl (.inl z)
        · by_cases c : x / p < first + s
          · exact .inl (.inr ⟨z1, c⟩)
          · refine .inr ?_
            have e1 : x / p = first + s := by omega
            rw [hx, ← e1]
            exact div_of hp0 z1
    refine ih _ _ _ _ (by omega) WS.put_same (hst _ fun c hc => WS.put_ne hc) (fun W' h' => hst W' fun c hc => by rw [h' c hc, WS.put_ne hc]) (fun i hi' => by have := hi (i + 1) (by omega); rw [show s + 1 + i = s + (i + 1) by omega]; exact this) hF' fun xs' x17 x18 hF2 => ?_
    rw [WS.put_put]
    rw [show s + 1 + k = s + (k + 1) by omega] at hF2
    exact K xs' x17 x18 hF2
end DL

set_option maxRecDepth 100000
set_option maxHeartbeats 8000000
set_option linter.all false
namespace DL
open PySem PySem.Spec PyProof.Rows L2
theorem ceil_min {p lo r x : Int} (hp : 0 < p) (hr : 0 ≤ r) (hr2 : r < p) (h : lo ≤ x) (hm : x % p = r) : -((r - lo) / p) ≤ x / p := by
  have e := div_of hp hm
  have h1 : -(x / p) ≤ (r - lo) / p := by
    rw [Int.le_ediv_iff_mul_le hp, Int.neg_mul]
    omega
  omega
theorem floor_max {p hi r x : Int} (hp : 0 < p) (h : x ≤ hi) (hm : x % p = r) : x / p ≤ (hi - r) / p := by
  have e := div_of hp hm
  rw [Int.le_ediv_iff_mul_le hp]
  omega
theorem rem_loop {C a b m pw lw : Addr} {N : Nat} {spR : DSp} {p lo hi n lo0 hi0 : Int} {ps cs M : IP} {U : List NestedKey} {S : Addr → Prop} {d7 : Option D} {PX : XP} {P : WEnds} (hq : Parts p ps)
    (hR : ∀ M, N = M + 1 → ∀ ds W Q PX, sp_far_stretchU C M ds W Q PX → spR ds W Q PX)
    (hM : M = plainI (mulI cs (powI p ps (n % p).toNat)) p) (hMw : Win lo0 hi0 M) (hMl : M.length ≤ 1000000) (hM0 : lo0 ≤ hi0 + 1) (hM1 : hi0 - lo0 ≤ 1800) (hcv : Vl p cs)
    (h0 : 0 < n) (hN : n.toNat < p.toNat ^ N) (hlh : lo ≤ hi) (hL : hi - lo ≤ 1000) (hb1 : -bigB ≤ lo) (hb2 : hi ≤ bigB) (hbm : b ≠ m) (hpb : pw ≠ b) (hSb : S b) (hU : U.length < sizeLine)
    (hRe : ∀ r qs k, 0 ≤ r → r < p → qs.Perm (partI p r M) → Asc qs → -((r - lo) / p) ≤ (hi - r) / p → Reach p ps qs (n / p) (-((r - lo) / p)) ((hi - r) / p) k → k ∈ U) :
    ∀ (cnt : Nat) (r : Int) (x9 x12 x13 x15 x16 x17 x18 : Option D) (W : WS) (xs : List D) (kvs : List (NestedKey × D)), r + cnt = p → 0 ≤ r → W b = some (.lst xs) → W a = some (.ins C [("modulus", .int p), ("parts", .ptup (ps.map prD)), ("powers", .obj pw), ("lowered", .obj lw)]) → W pw = some (.lst (pwL p ps p.toNat)) → W m = some (.dN kvs) → MemoOk p ps W S U kvs → (∀ c, S c → W c ≠ none) →
    Filled p ps cs n.toNat lo (hi - lo + 1).toNat (fun x => x % p < r) xs →
    (∀ xs' kvs' x9 x12 x13 x15 x16 x17 x18 W', W' b = some (.lst xs') → W' m = some (.dN kvs') → MemoOk p ps W' S U kvs' → ExB [m, b] W W' → Filled p ps cs n.toNat lo (hi - lo + 1).toNat (fun x => x % p < p) xs' →
      P.nx [some (.obj a), some (.ptup (cs.map prD)), some (.int n), some (.tup [.int lo, .int hi]), some (.obj m), some (.int lo), some (.int hi), d7, some (.int p), x9, some (.obj b), some (.dK (mkI M)), x12, x13, none, x15, x16, x17, x18] W') →
    forW (.nm 9) (b_far_stretch_2 C spR) PX P (rngD r cnt) [some (.obj a), some (.ptup (cs.map prD)), some (.int n), some (.tup [.int lo, .int hi]), some (.obj m), some (.int lo), some (.int hi), d7, some (.int p), x9, some (.obj b), some (.dK (mkI M)), x12, x13, none, x15, x16, x17, x18] W
  | 0, r, x9, x12, x13, x15, x16, x17, x18, W, xs, kvs, hc, hr, hw, hra, hrp, hm, hmo, hS, hF, K => by
    have : r = p := by omega
    subst this
    exact K xs kvs _ _ _ _ _ _ _ W hw hm hmo ExB.refl hF
  | cnt + 1, r, x9, x12, x13, x15, x16, x17, x18, W, xs, kvs, hc, hr, hw, hra, hrp, hm, hmo, hS, hF, K => by
    have ih := rem_loop (C := C) (a := a) (b := b) (m := m) (N := N) (spR := spR) (S := S) (U := U) (d7 := d7) (PX := PX) (P := P) hq hR hM hMw hMl hM0 hM1 hcv h0 hN hlh hL hb1 hb2 hbm hpb hSb hU hRe cnt (r + 1) (pw := pw) (lw := lw)
    have hp := hq.pr
    have hp0 : 0 < p := by omega
    have hp5 : p ≤ 5 := by omega
    have hr2 : r < p := by omega
    rw [rngD_succ]
    show bindG _ _ _ _
    generalize hK : forW (.nm 9) (b_far_stretch_2 C spR) PX P (rngD (r + 1) cnt) = Kf
    simp only [hK] at ih
    have mn : (M.map (·.1)).Nodup := by rw [hM]; exact plainI_nodup (mulI_nodup _ _)
    have mv : Vl p M := by rw [hM]; exact plainI_vals hp0
    generalize hB : b_far_stretch_1 C spR = Bd
    simp only [b_far_stretch_2, wRaise, wTry, wXVal, wXIs, wXIsV, wCallX, fMulS, wSeq, wLRg1, wLRg2, wRngB, mExtend, wSetIxN, wBoxN, fNotInN, fGetN, wForEn, wSealQ, wPopD, wRep, wAug, wAsg, wSkip, wIf, wRet, wRetN, wDrop, wB, wTru, wBin, wUn, wApp, wAppF, wVal, wBox, wVar, wC, wFrz, wCons, wNil, wLst, wTup, wPar2, wPar3, wSetIx, wSetFld, wMu, wAnd, wOr, wNot, wAndV, wOrV, wNotV, wIte, wChain, wGet2, wFld, wProp, wMeth, wMethK, wCall, wCallK, wMakeK, wSeal, wOwn, wDisp, wPs, wDnK, wSortIt, wRev, wSlc, wONo, wOYes, wFor, wForLk, wIter, wRng1, wRng2, wEnum, wLc, wLcLk, wDc, wDcLk, wSetV, wSetB, wNo, wNoE, wYes, fAdd, fSub, fMul, fDiv, fMod, fPow, fLt, fLe, fGt, fGe, fNeg, fIsN, fNotN, isN, fInt, fAbs, bindG, Ob.toD, env0, List.map_cons, List.map_nil, List.cons_append, List.nil_append, List.append_nil, List.length_cons, List.length_nil, List.replicate_succ, List.replicate_zero, List.replicate, List.getElem?_cons_zero, List.getElem?_cons_succ, List.set_cons_zero, List.set_cons_succ, Option.some.injEq, exists_eq_left', exists_eq_left, D.int.injEq, D.bl.injEq, D.obj.injEq, keyD, keysD, fSet, mAppend, mInsert, mPop, mReverse, mClear, WS.put_same, dkD, lookD, truD, seqD, wipeD, List.set_nil, hB, fPTup, view]
    refine ⟨divW hp _, divW hp _, M, p, r, rfl, hp0, hp5, mn, sz_small (by omega), ?_⟩
    refine ⟨_, partI p r M, rfl, ipD_mk _, fun qs hqp hqs => ?_⟩
    have qa : Asc qs := asc_of_perm (partI_nodup mn) hqp hqs
    have qv : Vl p qs := fun q hq' => part_vl mv q (hqp.mem_iff.mp hq')
    have qw : Win (lo0 / p) (hi0 / p) qs := fun q hq' => part_win (r := r) hp0 hMw q (hqp.mem_iff.mp hq')
    have hnd : (n / p).toNat = n.toNat / p.toNat := by
      have : n / p = ((n.toNat / p.toNat : Nat) : Int) := by
        rw [Int.natCast_ediv, Int.toNat_of_nonneg (by omega), Int.toNat_of_nonneg (by omega)]
      rw [this]; rfl
    have hnm : (n % p).toNat = n.toNat % p.toNat := by
      have : n % p = ((n.toNat % p.toNat : Nat) : Int) := by
        rw [Int.natCast_emod, Int.toNat_of_nonneg (by omega), Int.toNat_of_nonneg (by omega)]
      rw [this]; rfl
    have hfv : ∀ x : Int, x % p = r → FarV p ps qs (n / p).toNat (x / p) = FarV p ps cs n.toNat x := fun x hx => by
      rw [far_step hp ps cs n.toNat x, ← hnm, ← hM, hx, hnd]
      exact far_perm hqp _ _
    have w1 : lo0 / p ≤ hi0 / p + 1 := by rcases hp with rfl | rfl | rfl <;> omega
    have w2 : hi0 / p - lo0 / p ≤ 1000 := by rcases hp with rfl | rfl | rfl <;> omega
    have B0 : -bigB ≤ -((r - lo) / p) ∧ (hi - r) / p ≤ bigB := by
      have hB : (10 : Int) ≤ bigB := by unfold bigB; decide
      generalize bigB = BB at hb1 hb2 hB ⊢
      rcases hp with rfl | rfl | rfl <;> omega
    have fin : ∀ (W2 : WS) (kvs2 : List (NestedKey × D)) (xs2 : List D) (dv : D) (x17 x18 : Option D), W2 b = some (.lst xs2) → W2 m = some (.dN kvs2) → MemoOk p ps W2 S U kvs2 → ExB [m, b] W W2 → Filled p ps cs n.toNat lo (hi - lo + 1).toNat (fun x => x % p < r + 1) xs2 →
        Kf [some (.obj a), some (.ptup (cs.map prD)), some (.int n), some (.tup [.int lo, .int hi]), some (.obj m), some (.int lo), some (.int hi), d7, some (.int p), some (.int r), some (.obj b), some (.dK (mkI M)), some (.ptup (qs.map prD)), some dv, none, some (.int (-((r - lo) / p))), some (.int ((hi - r) / p)), x17, x18] W2 := fun W2 kvs2 xs2 dv x17 x18 g1 g2 g3 g4 g5 => by
      have nab : a ≠ b := fun z => by rw [z, hw] at hra; cases hra
      have nam : a ≠ m := fun z => by rw [z, hm] at hra; cases hra
      have npm : pw ≠ m := fun z => by rw [z, hm] at hrp; cases hrp
      refine ih _ _ _ _ _ _ _ W2 xs2 kvs2 (by omega) (by omega) g1 (g4 a _ (by simp [nab, nam]) hra) (g4 pw _ (by simp [hpb, npm]) hrp) g2 g3 (fun c hc => ?_) g5 fun xs' kvs' y1 y2 y3 y4 y5 y6 y7 W' k1 k2 k3 k4 k5 => K xs' kvs' y1 y2 y3 y4 y5 y6 y7 W' k1 k2 k3 (g4.trans k4) k5
      by_cases cb : c = b
      · rw [cb, g1]; exact fun z => nomatch z
      by_cases cm : c = m
      · rw [cm, g2]; exact fun z => nomatch z
      cases z : W c with
      | none => exact absurd z (hS c hc)
      | some ob => rw [g4 c ob (by simp [cb, cm]) z]; exact fun z => nomatch z
    have lenF := hF.1
    subst hB
    have hin : ∀ i : Nat, i < (hi - lo + 1).toNat → lo ≤ lo + (i : Int) ∧ lo + (i : Int) ≤ hi := fun i hi => ⟨by omega, by omega⟩
    by_cases hfl : -((r - lo) / p) ≤ (hi - r) / p
    · rw [decide_eq_true hfl]
      simp only [wRaise, wTry, wXVal, wXIs, wXIsV, wCallX, fMulS, wSeq, wLRg1, wLRg2, wRngB, mExtend, wSetIxN, wBoxN, fNotInN, fGetN, wForEn, wSealQ, wPopD, wRep, wAug, wAsg, wSkip, wIf, wRet, wRetN, wDrop, wB, wTru, wBin, wUn, wApp, wAppF, wVal, wBox, wVar, wC, wFrz, wCons, wNil, wLst, wTup, wPar2, wPar3, wSetIx, wSetFld, wMu, wAnd, wOr, wNot, wAndV, wOrV, wNotV, wIte, wChain, wGet2, wFld, wProp, wMeth, wMethK, wCall, wCallK, wMakeK, wSeal, wOwn, wDisp, wPs, wDnK, wSortIt, wRev, wSlc, wONo, wOYes, wFor, wForLk, wIter, wRng1, wRng2, wEnum, wLc, wLcLk, wDc, wDcLk, wSetV, wSetB, wNo, wNoE, wYes, fAdd, fSub, fMul, fDiv, fMod, fPow, fLt, fLe, fGt, fGe, fNeg, fIsN, fNotN, isN, fInt, fAbs, bindG, Ob.toD, env0, List.map_cons, List.map_nil, List.cons_append, List.nil_append, List.append_nil, List.length_cons, List.length_nil, List.replicate_succ, List.replicate_zero, List.replicate, List.getElem?_cons_zero, List.getElem?_cons_succ, List.set_cons_zero, List.set_cons_succ, Option.some.injEq, exists_eq_left', exists_eq_left, D.int.injEq, D.bl.injEq, D.obj.injEq, keyD, keysD, fSet, mAppend, mInsert, mPop, mReverse, mClear, WS.put_same, dkD, lookD, truD, seqD, wipeD, List.set_nil]
      obtain ⟨N', rfl⟩ : ∃ N', N = N' + 1 := by
        cases N with
        | zero => rw [Nat.pow_zero] at hN; omega
        | succ N' => exact ⟨N', rfl⟩
      have hn2 : (n / p).toNat < p.toNat ^ N' := by
        rw [hnd]
        refine Nat.div_lt_of_lt_mul ?_
        rw [Nat.mul_comm, ← Nat.pow_succ]; exact hN
      have c1 := ceil_le (p := p) (lo := lo) (r := r) hp0
      have f1 := floor_le (p := p) (hi := hi) (r := r) hp0
      have hsp : (hi - r) / p - -((r - lo) / p) ≤ 1000 := by
        rcases hp with rfl | rfl | rfl <;> omega
      refine ⟨divW hp n, by decide, ?_⟩
      refine hR N' rfl _ _ _ _ ⟨a, p, ps, qs, _, _, m, kvs, U, S, n / p, -((r - lo) / p), (hi - r) / p, rfl, ⟨⟨pw, lw, hra, hrp⟩⟩, hq, qa, qv, qw, w1, w2, Int.ediv_nonneg (by omega) (by omega), hn2, hfl, hsp, B0.1, B0.2, hm, hmo, hS, fun k hk => hRe r qs k hr hr2 hqp qa hfl hk, hU, fun kvs2 b2 W2 g1 g2 g3 g4 g5 => ?_⟩
      have hb2b : b2 ≠ b := fun z => g3 (by rw [z]; exact hSb)
      have wb : W2 b = some (.lst xs) := g5 b _ (by simp [hbm]) hw
      generalize hcn : ((hi - r) / p - -((r - lo) / p) + 1).toNat = cn at g4
      simp only [wRaise, wTry, wXVal, wXIs, wXIsV, wCallX, fMulS, wSeq, wLRg1, wLRg2, wRngB, mExtend, wSetIxN, wBoxN, fNotInN, fGetN, wForEn, wSealQ, wPopD, wRep, wAug, wAsg, wSkip, wIf, wRet, wRetN, wDrop, wB, wTru, wBin, wUn, wApp, wAppF, wVal, wBox, wVar, wC, wFrz, wCons, wNil, wLst, wTup, wPar2, wPar3, wSetIx, wSetFld, wMu, wAnd, wOr, wNot, wAndV, wOrV, wNotV, wIte, wChain, wGet2, wFld, wProp, wMeth, wMethK, wCall, wCallK, wMakeK, wSeal, wOwn, wDisp, wPs, wDnK, wSortIt, wRev, wSlc, wONo, wOYes, wFor, wForLk, wIter, wRng1, wRng2, wEnum, wLc, wLcLk, wDc, wDcLk, wSetV, wSetB, wNo, wNoE, wYes, fAdd, fSub, fMul, fDiv, fMod, fPow, fLt, fLe, fGt, fGe, fNeg, fIsN, fNotN, isN, fInt, fAbs, bindG, Ob.toD, env0, List.map_cons, List.map_nil, List.cons_append, List.nil_append, List.append_nil, List.length_cons, List.length_nil, List.replicate_succ, List.replicate_zero, List.replicate, List.getElem?_cons_zero, List.getElem?_cons_succ, List.set_cons_zero, List.set_cons_succ, Option.some.injEq, exists_eq_left', exists_eq_left, D.int.injEq, D.bl.injEq, D.obj.injEq, keyD, keysD, fSet, mAppend, mInsert, mPop, mReverse, mClear, WS.put_same, dkD, lookD, truD, seqD, wipeD, List.set_nil]
      refine ⟨_, _, rfl, .inr ⟨b2, rfl, g4⟩, ?_⟩
      have e0 : lineV p ps qs (n / p).toNat (-((r - lo) / p)) cn = (List.range' 0 cn).map fun i => .int (FarV p ps qs (n / p).toNat (-((r - lo) / p) + (i : Nat))) := by
        unfold lineV; rw [List.range_eq_range']
      have last : -((r - lo) / p) + (cn : Int) = (hi - r) / p + 1 := by omega
      have key := fill_loop (C := C) (b := b) (spR := spR) (p := p) (first := -((r - lo) / p)) (r := r) (lo := lo) (ps := ps) (cs := cs) (qs := qs) (n := n.toNat) (m := (n / p).toNat) (L := (hi - lo + 1).toNat) (dv := .obj b2) (vals := lineV p ps qs (n / p).toNat (-((r - lo) / p)) cn)
        (d0 := some (.obj a)) (d1 := some (.ptup (cs.map prD))) (d2 := some (.int n)) (d3 := some (.tup [.int lo, .int hi])) (d4 := some (.obj m)) (d6 := some (.int hi)) (d7 := d7) (d11 := some (.dK (mkI M))) (d12 := some (.ptup (qs.map prD))) (d14 := none) (d16 := some (.int ((hi - r) / p))) (PX := PX)
        (P := { P with nx := Kf, ct := Kf, bk := P.nx }) hp hr hr2 hfv B0.1 (by omega) c1 cn 0 x17 x18 W2 xs (by omega) wb g4 (fun W' h' => by show W' b2 = _; rw [h' b2 hb2b]; exact g4) (fun i hi' => by
          have h1 : (-((r - lo) / p) + ((0 + i : Nat) : Int)) ≤ (hi - r) / p := by omega
          have h2 := Int.mul_le_mul_of_nonneg_right h1 (show 0 ≤ p by omega)
          omega) ?_ ?_
      · rw [← e0] at key
        exact key
      · refine hF.mono fun i hi' hx => ?_
        rcases hx with z | ⟨z1, z2⟩
        · exact z
        · have := ceil_min hp0 hr hr2 (hin i hi').1 z1
          omega
      · intro xs' y17 y18 hF2
        have nbm : m ≠ b := Ne.symm hbm
        refine fin (W2.put b (.lst xs')) kvs2 xs' _ y17 y18 WS.put_same (by rw [WS.put_ne nbm]; exact g2) ?_ ?_ ?_
        · refine ⟨fun k d hd => ?_, g1.nd, g1.sub⟩
          obtain ⟨cs', n', lo', hi', b', k1, k2, k3, k4, k5, k6⟩ := g1.ok k d hd
          exact ⟨cs', n', lo', hi', b', k1, k2, k3, k4, k5, by rw [WS.put_ne (fun z => k5 (by rw [z]; exact hSb))]; exact k6⟩
        · intro c ob hc e
          rw [WS.put_ne (fun z => hc (by simp [z]))]
          exact g5 c ob (fun z => hc (by rw [List.mem_singleton.mp z]; exact List.mem_cons_self)) e
        · refine hF2.mono fun i hi' hx => ?_
          by_cases c : (lo + (i : Int)) % p < r
          · exact .inl c
          · refine .inr ⟨by omega, ?_⟩
            have := floor_max hp0 (hin i hi').2 (show (lo + (i : Int)) % p = r by omega)
            rw [Nat.zero_add]
            omega
    · rw [decide_eq_false hfl]
      simp only [wRaise, wTry, wXVal, wXIs, wXIsV, wCallX, fMulS, wSeq, wLRg1, wLRg2, wRngB, mExtend, wSetIxN, wBoxN, fNotInN, fGetN, wForEn, wSealQ, wPopD, wRep, wAug, wAsg, wSkip, wIf, wRet, wRetN, wDrop, wB, wTru, wBin, wUn, wApp, wAppF, wVal, wBox, wVar, wC, wFrz, wCons, wNil, wLst, wTup, wPar2, wPar3, wSetIx, wSetFld, wMu, wAnd, wOr, wNot, wAndV, wOrV, wNotV, wIte, wChain, wGet2, wFld, wProp, wMeth, wMethK, wCall, wCallK, wMakeK, wSeal, wOwn, wDisp, wPs, wDnK, wSortIt, wRev, wSlc, wONo, wOYes, wFor, wForLk, wIter, wRng1, wRng2, wEnum, wLc, wLcLk, wDc, wDcLk, wSetV, wSetB, wNo, wNoE, wYes, fAdd, fSub, fMul, fDiv, fMod, fPow, fLt, fLe, fGt, fGe, fNeg, fIsN, fNotN, isN, fInt, fAbs, bindG, Ob.toD, env0, List.map_cons, List.map_nil, List.cons_append, List.nil_append, List.append_nil, List.length_cons, List.length_nil, List.replicate_succ, List.replicate_zero, List.replicate, List.getElem?_cons_zero, List.getElem?_cons_succ, List.set_cons_zero, List.set_cons_succ, Option.some.injEq, exists_eq_left', exists_eq_left, D.int.injEq, D.bl.injEq, D.obj.injEq, keyD, keysD, fSet, mAppend, mInsert, mPop, mReverse, mClear, WS.put_same, dkD, lookD, truD, seqD, wipeD, List.set_nil]
      refine ⟨by decide, _, _, rfl, .inl rfl, trivial, ?_⟩
      refine fin W kvs xs _ _ _ hw hm hmo ExB.refl (hF.mono fun i hi' hx => ?_)
      by_cases c : (lo + (i : Int)) % p < r
      · exact c
      · have h1 := floor_max hp0 (hin i hi').2 (show (lo + (i : Int)) % p = r by omega)
        have h2 := ceil_min hp0 hr hr2 (hin i hi').1 (show (lo + (i : Int)) % p = r by omega)
        omega
end DL

set_option maxRecDepth 100000
set_option maxHeartbeats 8000000
set_option linter.all false
namespace DL
open PySem PySem.Spec PyProof.Rows L2
theorem rngD_eq (lo : Int) : ∀ n : Nat, rngD lo n = (List.range n).map fun i => D.int (lo + (i : Nat)) := by
  have key : ∀ (n : Nat) (lo : Int) (s : Nat), rngD (lo + s) n = (List.range' s n).map fun i => D.int (lo + (i : Nat)) := by
    intro n
    induction n with
    | zero => intro lo s; rfl
    | succ n ih =>
      intro lo s
      rw [rngD_succ, List.range'_succ, List.map_cons]
      have := ih lo (s + 1)
      rw [show lo + ((s + 1 : Nat) : Int) = lo + s + 1 by omega] at this
      rw [this]
  intro n
  have := key n lo 0
  rw [show lo + ((0 : Nat) : Int) = lo by omega] at this
  rw [this, List.range_eq_range']
/-- the cells that stand there -/
theorem lc_cells {cs : IP} {env : DEnv} {W : WS} (ha : Asc cs) (h1 : env[1]? = some (some (.ptup (cs.map prD)))) (hi : 14 < env.length) (lo : Int) : ∀ (k s : Nat) (acc : List D) (P : List D → WS → Prop), acc.length + k < sizeLine → P (acc ++ (List.range' s k).map fun i => D.int (lookI cs (lo + (i : Nat)))) W →
    lcW (.nm 14) wYes (wGet2 (wVal (wAppF fDict (wCons (wVar 1) wNil))) (wVar 14) (wC (.int 0))) ((List.range' s k).map fun i => D.int (lo + (i : Nat))) env W acc P
  | 0, s, acc, P, _, h => by
    rw [show (List.range' s 0).map (fun i => D.int (lookI cs (lo + (i : Nat)))) = [] from rfl, List.append_nil] at h
    exact h
  | k + 1, s, acc, P, hl, h => by
    rw [List.range'_succ, List.map_cons]
    show bindG _ _ _ _
    simp only [wRaise, wTry, wXVal, wXIs, wXIsV, wCallX, fMulS, wSeq, wLRg1, wLRg2, wRngB, mExtend, wSetIxN, wBoxN, fNotInN, fGetN, wForEn, wSealQ, wPopD, wRep, wAug, wAsg, wSkip, wIf, wRet, wRetN, wDrop, wB, wTru, wBin, wUn, wApp, wAppF, wVal, wBox, wVar, wC, wFrz, wCons, wNil, wLst, wTup, wPar2, wPar3, wSetIx, wSetFld, wMu, wAnd, wOr, wNot, wAndV, wOrV, wNotV, wIte, wChain, wGet2, wFld, wProp, wMeth, wMethK, wCall, wCallK, wMakeK, wSeal, wOwn, wDisp, wPs, wDnK, wSortIt, wRev, wSlc, wONo, wOYes, wFor, wForLk, wIter, wRng1, wRng2, wEnum, wLc, wLcLk, wDc, wDcLk, wSetV, wSetB, wNo, wNoE, wYes, fAdd, fSub, fMul, fDiv, fMod, fPow, fLt, fLe, fGt, fGe, fNeg, fIsN, fNotN, isN, fInt, fAbs, bindG, Ob.toD, env0, List.map_cons, List.map_nil, List.cons_append, List.nil_append, List.append_nil, List.length_cons, List.length_nil, List.replicate_succ, List.replicate_zero, List.replicate, List.getElem?_cons_zero, List.getElem?_cons_succ, List.set_cons_zero, List.set_cons_succ, Option.some.injEq, exists_eq_left', exists_eq_left, D.int.injEq, D.bl.injEq, D.obj.injEq, keyD, keysD, fSet, mAppend, mInsert, mPop, mReverse, mClear, WS.put_same, dkD, lookD, truD, seqD, wipeD, List.set_nil]
    have e1 : (env.set 14 (some (D.int (lo + (s : Nat)))))[1]? = some (some (.ptup (cs.map prD))) := by rw [List.getElem?_set_ne (by decide)]; exact h1
    refine ⟨_, e1, fDict_ptup ⟨rfl, _, List.getElem?_set_self hi, _, dget_mk W _ _ _ rfl, ?_⟩⟩
    rw [mergeI_asc ha]
    have e2 : (Option.map D.int (getI (lo + (s : Nat)) cs)).getD (D.int 0) = D.int (lookI cs (lo + (s : Nat))) := by
      unfold lookI
      cases getI (lo + (s : Nat)) cs <;> rfl
    rw [e2]
    refine ⟨by omega, ?_⟩
    refine lc_cells ha h1 hi lo k (s + 1) _ P (by rw [List.length_append, List.length_singleton]; omega) ?_
    rw [List.append_assoc, List.singleton_append]
    rw [List.range'_succ, List.map_cons] at h
    exact h
theorem getKD_mem {α : Type} [DecidableEq α] {k : α} {d : D} : ∀ {kvs : List (α × D)}, getKD k kvs = some d → k ∈ kvs.map (·.1)
  | [], h => by cases h
  | (g, v) :: r, h => by
    have h' : (if g = k then some v else getKD k r) = some d := h
    rw [List.map_cons, List.mem_cons]
    by_cases c : g = k
    · exact .inl c.symm
    · rw [if_neg c] at h'; exact .inr (getKD_mem h')
theorem setKD_no {α : Type} [DecidableEq α] {q : α} {d : D} : ∀ {kvs : List (α × D)}, hasKD q kvs = false → setKD q d kvs = kvs
  | [], _ => rfl
  | (g, v) :: r, h => by
    have h' : (if g = q then true else hasKD q r) = false := h
    show (if g = q then (g, d) :: setKD q d r else (g, v) :: setKD q d r) = _
    by_cases c : g = q
    · rw [if_pos c] at h'; cases h'
    · rw [if_neg c] at h'
      rw [if_neg c, setKD_no h']
theorem setKD_keys {α : Type} [DecidableEq α] {q : α} {d : D} : ∀ {kvs : List (α × D)}, (setKD q d kvs).map (·.1) = kvs.map (·.1)
  | [] => rfl
  | (g, v) :: r => by
    show (if g = q then (g, d) :: setKD q d r else (g, v) :: setKD q d r).map (·.1) = _
    split <;> rw [List.map_cons, List.map_cons, setKD_keys]
theorem getKD_set {α : Type} [DecidableEq α] {k q : α} {d : D} : ∀ {kvs : List (α × D)}, hasKD q kvs = true → getKD k (setKD q d kvs) = if q = k then some d else getKD k kvs
  | [], h => by cases h
  | (g, v) :: r, h => by
    have h' : (if g = q then true else hasKD q r) = true := h
    show getKD k (if g = q then (g, d) :: setKD q d r else (g, v) :: setKD q d r) = if q = k then some d else if g = k then some v else getKD k r
    by_cases c : g = q
    · subst c
      rw [if_pos rfl]
      show (if g = k then some d else getKD k (setKD g d r)) = _
      by_cases e : g = k
      · rw [if_pos e, if_pos e]
      · rw [if_neg e, if_neg e, if_neg e]
        cases z : hasKD g r with
        | true => rw [getKD_set z, if_neg e]
        | false =>
          have := setKD_no (d := d) z
          rw [this]
    · rw [if_neg c] at h' ⊢
      show (if g = k then some v else getKD k (setKD q d r)) = _
      rw [getKD_set h']
      by_cases e : g = k
      · subst e
        rw [if_pos rfl, if_neg (fun z => c z.symm), if_pos rfl]
      · rw [if_neg e, if_neg e]
theorem getKD_put {α : Type} [DecidableEq α] {k q : α} {d : D} {kvs : List (α × D)} : getKD k (putKD kvs q d) = if q = k then some d else getKD k kvs := by
  unfold putKD
  cases h : hasKD q kvs with
  | true => rw [if_pos rfl, getKD_set h]
  | false =>
    rw [if_neg Bool.false_ne_true, getKD_app]
    by_cases c : q = k
    · subst c
      cases z : getKD q kvs with
      | none => rfl
      | some d' => exact absurd (hasKD_iff.mpr (getKD_mem z)) (by rw [h]; exact Bool.false_ne_true)
    · rw [if_neg c, if_neg c]
      cases getKD k kvs <;> rfl
theorem putKD_keys {α : Type} [DecidableEq α] {q : α} {d : D} {kvs : List (α × D)} (hn : (kvs.map (·.1)).Nodup) : ((putKD kvs q d).map (·.1)).Nodup ∧ ∀ k ∈ (putKD kvs q d).map (·.1), k = q ∨ k ∈ kvs.map (·.1) := by
  unfold putKD
  cases h : hasKD q kvs with
  | true => rw [if_pos rfl, setKD_keys]; exact ⟨hn, fun k hk => .inr hk⟩
  | false =>
    rw [if_neg Bool.false_ne_true, List.map_append, List.map_cons, List.map_nil]
    refine ⟨List.nodup_append.mpr ⟨hn, List.nodup_cons.mpr ⟨List.not_mem_nil, List.nodup_nil⟩, fun x hx y hy e => ?_⟩, fun k hk => ?_⟩
    · have e2 : x = q := e.trans (List.mem_singleton.mp hy)
      rw [e2] at hx
      rw [hasKD_iff.mpr hx] at h
      cases h
    · rcases List.mem_append.mp hk with z | z
      · exact .inr z
      · exact .inl (List.mem_singleton.mp z)
theorem law_far_stretchU (C : Addr) (N : Nat) (spR : DSp) (hR : ∀ M, N = M + 1 → ∀ ds W Q PX, sp_far_stretchU C M ds W Q PX → spR ds W Q PX) :
    ∀ ds W Q PX, sp_far_stretchU C N ds W Q PX → ds.length = P_far_stretch.length ∧ w_far_stretch C spR PX { nx := fun _ W' => Q .non W', rt := Q } (env0 N_far_stretch ds) W := by
  rintro ds W Q PX ⟨a, p, ps, cs, lo0, hi0, m, kvs, U, S, n, lo, hi, rfl, hr, hq, hca, hcv, hw, hlo, hd, h0, hN, hlh, hL, hb1, hb2, hm, hmo, hS, hRe, hU, h⟩
  refine ⟨rfl, ?_⟩
  obtain ⟨pw, lw, hra, hrp⟩ := id hr.ex
  have hp := hq.pr
  have hp0 : 0 < p := by omega
  have hp5 : p ≤ 5 := by omega
  have nS : ∀ b, W b = none → ¬ S b := fun b hb z => hS b z hb
  generalize hB : b_far_stretch_2 C spR = Bd
  simp only [w_far_stretch, N_far_stretch, wRaise, wTry, wXVal, wXIs, wXIsV, wCallX, fMulS, wSeq, wLRg1, wLRg2, wRngB, mExtend, wSetIxN, wBoxN, fNotInN, fGetN, wForEn, wSealQ, wPopD, wRep, wAug, wAsg, wSkip, wIf, wRet, wRetN, wDrop, wB, wTru, wBin, wUn, wApp, wAppF, wVal, wBox, wVar, wC, wFrz, wCons, wNil, wLst, wTup, wPar2, wPar3, wSetIx, wSetFld, wMu, wAnd, wOr, wNot, wAndV, wOrV, wNotV, wIte, wChain, wGet2, wFld, wProp, wMeth, wMethK, wCall, wCallK, wMakeK, wSeal, wOwn, wDisp, wPs, wDnK, wSortIt, wRev, wSlc, wONo, wOYes, wFor, wForLk, wIter, wRng1, wRng2, wEnum, wLc, wLcLk, wDc, wDcLk, wSetV, wSetB, wNo, wNoE, wYes, fAdd, fSub, fMul, fDiv, fMod, fPow, fLt, fLe, fGt, fGe, fNeg, fIsN, fNotN, isN, fInt, fAbs, bindG, Ob.toD, env0, List.map_cons, List.map_nil, List.cons_append, List.nil_append, List.append_nil, List.length_cons, List.length_nil, List.replicate_succ, List.replicate_zero, List.replicate, List.getElem?_cons_zero, List.getElem?_cons_succ, List.set_cons_zero, List.set_cons_succ, Option.some.injEq, exists_eq_left', exists_eq_left, D.int.injEq, D.bl.injEq, D.obj.injEq, keyD, keysD, fSet, mAppend, mInsert, mPop, mReverse, mClear, WS.put_same, dkD, lookD, truD, seqD, wipeD, List.set_nil, hB]
  refine eqK_int ⟨_, rfl, ?_⟩
  rw [if_neg Bool.false_ne_true]
  by_cases hn : n = 0
  · subst hn
    rw [decide_eq_true rfl]
    have e : (hi + 1 - lo).toNat = (hi - lo + 1).toNat := by congr 1; omega
    show lcW _ _ _ (rngD lo (hi + 1 - lo).toNat) _ _ _ _
    rw [e, rngD_eq, List.range_eq_range']
    refine lc_cells hca rfl (by show 14 < 19; decide) lo _ 0 [] _ (sz_small (by simp; omega)) ?_
    rw [List.nil_append]
    intro b hb
    have hbm : m ≠ b := fun z => by rw [← z, hm] at hb; cases hb
    have ex : ExB [m] W (W.put b (.lst ((List.range' 0 (hi - lo + 1).toNat).map fun i => D.int (lookI cs (lo + (i : Nat)))))) := ExB.put (.inr hb)
    refine h kvs b _ (hmo.keep hm ex) (by rw [WS.put_ne hbm]; exact hm) (nS b hb) ?_ ex
    rw [WS.put_same]
    unfold lineV
    rw [List.range_eq_range']
    congr 2
    refine List.map_congr_left fun i _ => ?_
    rw [show (0 : Int).toNat = 0 from rfl, far_end hp0 hca.nodup hcv]
  rw [decide_eq_false hn]
  have hn0 : 0 < n := by omega
  simp only [wRaise, wTry, wXVal, wXIs, wXIsV, wCallX, fMulS, wSeq, wLRg1, wLRg2, wRngB, mExtend, wSetIxN, wBoxN, fNotInN, fGetN, wForEn, wSealQ, wPopD, wRep, wAug, wAsg, wSkip, wIf, wRet, wRetN, wDrop, wB, wTru, wBin, wUn, wApp, wAppF, wVal, wBox, wVar, wC, wFrz, wCons, wNil, wLst, wTup, wPar2, wPar3, wSetIx, wSetFld, wMu, wAnd, wOr, wNot, wAndV, wOrV, wNotV, wIte, wChain, wGet2, wFld, wProp, wMeth, wMethK, wCall, wCallK, wMakeK, wSeal, wOwn, wDisp, wPs, wDnK, wSortIt, wRev, wSlc, wONo, wOYes, wFor, wForLk, wIter, wRng1, wRng2, wEnum, wLc, wLcLk, wDc, wDcLk, wSetV, wSetB, wNo, wNoE, wYes, fAdd, fSub, fMul, fDiv, fMod, fPow, fLt, fLe, fGt, fGe, fNeg, fIsN, fNotN, isN, fInt, fAbs, bindG, Ob.toD, env0, List.map_cons, List.map_nil, List.cons_append, List.nil_append, List.append_nil, List.length_cons, List.length_nil, List.replicate_succ, List.replicate_zero, List.replicate, List.getElem?_cons_zero, List.getElem?_cons_succ, List.set_cons_zero, List.set_cons_succ, Option.some.injEq, exists_eq_left', exists_eq_left, D.int.injEq, D.bl.injEq, D.obj.injEq, keyD, keysD, fSet, mAppend, mInsert, mPop, mReverse, mClear, WS.put_same, dkD, lookD, truD, seqD, wipeD, List.set_nil]
  refine ⟨by decide, ⟨_, view_ob hra⟩, a, p, ps, rfl, hr, ?_⟩
  simp only [wRaise, wTry, wXVal, wXIs, wXIsV, wCallX, fMulS, wSeq, wLRg1, wLRg2, wRngB, mExtend, wSetIxN, wBoxN, fNotInN, fGetN, wForEn, wSealQ, wPopD, wRep, wAug, wAsg, wSkip, wIf, wRet, wRetN, wDrop, wB, wTru, wBin, wUn, wApp, wAppF, wVal, wBox, wVar, wC, wFrz, wCons, wNil, wLst, wTup, wPar2, wPar3, wSetIx, wSetFld, wMu, wAnd, wOr, wNot, wAndV, wOrV, wNotV, wIte, wChain, wGet2, wFld, wProp, wMeth, wMethK, wCall, wCallK, wMakeK, wSeal, wOwn, wDisp, wPs, wDnK, wSortIt, wRev, wSlc, wONo, wOYes, wFor, wForLk, wIter, wRng1, wRng2, wEnum, wLc, wLcLk, wDc, wDcLk, wSetV, wSetB, wNo, wNoE, wYes, fAdd, fSub, fMul, fDiv, fMod, fPow, fLt, fLe, fGt, fGe, fNeg, fIsN, fNotN, isN, fInt, fAbs, bindG, Ob.toD, env0, List.map_cons, List.map_nil, List.cons_append, List.nil_append, List.append_nil, List.length_cons, List.length_nil, List.replicate_succ, List.replicate_zero, List.replicate, List.getElem?_cons_zero, List.getElem?_cons_succ, List.set_cons_zero, List.set_cons_succ, Option.some.injEq, exists_eq_left', exists_eq_left, D.int.injEq, D.bl.injEq, D.obj.injEq, keyD, keysD, fSet, mAppend, mInsert, mPop, mReverse, mClear, WS.put_same, dkD, lookD, truD, seqD, wipeD, List.set_nil]
  refine ⟨m, kvs, keyN cs n lo hi, rfl, hm, nk_key cs n lo hi, depth_key cs n lo hi, ⟨_, rfl⟩, ?_⟩
  have back : ∀ (W' : WS) (kvs' : List (NestedKey × D)), W' m = some (.dN kvs') → MemoOk p ps W' S U kvs' → hasKD (keyN cs n lo hi) kvs' = true → ExB [m] W W' →
      fGetN (.obj m) (.tup [.ptup (cs.map prD), .int n, .tup [.int lo, .int hi]]) W' fun d => Q d W' := fun W' kvs' g1 g2 g3 g4 => by
    obtain ⟨d, hd⟩ := getKD_has g3
    obtain ⟨cs', n', lo', hi', b, k1, k2, k3, k4, k5, k6⟩ := g2.ok _ _ hd
    obtain ⟨rfl, rfl, rfl, rfl⟩ := key_inj k1
    subst k4
    exact ⟨m, kvs', keyN cs n lo hi, .obj b, rfl, g1, nk_key cs n lo hi, depth_key cs n lo hi, ⟨_, rfl⟩, hd, h kvs' b W' g2 g1 k5 k6 g4⟩
  cases hk : hasKD (keyN cs n lo hi) kvs with
  | true =>
    rw [Bool.not_true]
    simp only [wRaise, wTry, wXVal, wXIs, wXIsV, wCallX, fMulS, wSeq, wLRg1, wLRg2, wRngB, mExtend, wSetIxN, wBoxN, fNotInN, fGetN, wForEn, wSealQ, wPopD, wRep, wAug, wAsg, wSkip, wIf, wRet, wRetN, wDrop, wB, wTru, wBin, wUn, wApp, wAppF, wVal, wBox, wVar, wC, wFrz, wCons, wNil, wLst, wTup, wPar2, wPar3, wSetIx, wSetFld, wMu, wAnd, wOr, wNot, wAndV, wOrV, wNotV, wIte, wChain, wGet2, wFld, wProp, wMeth, wMethK, wCall, wCallK, wMakeK, wSeal, wOwn, wDisp, wPs, wDnK, wSortIt, wRev, wSlc, wONo, wOYes, wFor, wForLk, wIter, wRng1, wRng2, wEnum, wLc, wLcLk, wDc, wDcLk, wSetV, wSetB, wNo, wNoE, wYes, fAdd, fSub, fMul, fDiv, fMod, fPow, fLt, fLe, fGt, fGe, fNeg, fIsN, fNotN, isN, fInt, fAbs, bindG, Ob.toD, env0, List.map_cons, List.map_nil, List.cons_append, List.nil_append, List.append_nil, List.length_cons, List.length_nil, List.replicate_succ, List.replicate_zero, List.replicate, List.getElem?_cons_zero, List.getElem?_cons_succ, List.set_cons_zero, List.set_cons_succ, Option.some.injEq, exists_eq_left', exists_eq_left, D.int.injEq, D.bl.injEq, D.obj.injEq, keyD, keysD, fSet, mAppend, mInsert, mPop, mReverse, mClear, WS.put_same, dkD, lookD, truD, seqD, wipeD, List.set_nil]
    obtain ⟨a', kvs2, k, d, e, r⟩ := back W kvs hm hmo hk ExB.refl
    exact ⟨a', kvs2, k, d, D.obj.inj e, r⟩
  | false =>
    rw [Bool.not_false]
    simp only [wRaise, wTry, wXVal, wXIs, wXIsV, wCallX, fMulS, wSeq, wLRg1, wLRg2, wRngB, mExtend, wSetIxN, wBoxN, fNotInN, fGetN, wForEn, wSealQ, wPopD, wRep, wAug, wAsg, wSkip, wIf, wRet, wRetN, wDrop, wB, wTru, wBin, wUn, wApp, wAppF, wVal, wBox, wVar, wC, wFrz, wCons, wNil, wLst, wTup, wPar2, wPar3, wSetIx, wSetFld, wMu, wAnd, wOr, wNot, wAndV, wOrV, wNotV, wIte, wChain, wGet2, wFld, wProp, wMeth, wMethK, wCall, wCallK, wMakeK, wSeal, wOwn, wDisp, wPs, wDnK, wSortIt, wRev, wSlc, wONo, wOYes, wFor, wForLk, wIter, wRng1, wRng2, wEnum, wLc, wLcLk, wDc, wDcLk, wSetV, wSetB, wNo, wNoE, wYes, fAdd, fSub, fMul, fDiv, fMod, fPow, fLt, fLe, fGt, fGe, fNeg, fIsN, fNotN, isN, fInt, fAbs, bindG, Ob.toD, env0, List.map_cons, List.map_nil, List.cons_append, List.nil_append, List.append_nil, List.length_cons, List.length_nil, List.replicate_succ, List.replicate_zero, List.replicate, List.getElem?_cons_zero, List.getElem?_cons_succ, List.set_cons_zero, List.set_cons_succ, Option.some.injEq, exists_eq_left', exists_eq_left, D.int.injEq, D.bl.injEq, D.obj.injEq, keyD, keysD, fSet, mAppend, mInsert, mPop, mReverse, mClear, WS.put_same, dkD, lookD, truD, seqD, wipeD, List.set_nil]
    refine ⟨by decide, [.int 0], hi - lo + 1, rfl, rfl, by omega, by omega, by
      rw [sizeLine_eq]; show 1 * (hi - lo + 1).toNat ≤ _; omega, fun b hb => ?_⟩
    have hbm : b ≠ m := fun z => by rw [z, hm] at hb; cases hb
    have hab : a ≠ b := fun z => by rw [z, hb] at hra; cases hra
    have hpb : pw ≠ b := fun z => by rw [z, hb] at hrp; cases hrp
    refine fDict_ptup ?_
    rw [mergeI_asc hca]
    generalize hX : (List.replicate (hi - lo + 1).toNat [D.int 0]).flatten = xs
    have hxl : xs.length = (hi - lo + 1).toNat := by rw [← hX]; simp
    have hra1 : (W.put b (.lst xs)) a = _ := (WS.put_ne hab).trans hra
    have hrp1 : (W.put b (.lst xs)) pw = _ := (WS.put_ne hpb).trans hrp
    refine ⟨_, view_ob hra1, _, lookW, hp0, ?_⟩
    have hmod : n % p = ((n % p).toNat : Nat) := by rw [Int.toNat_of_nonneg (Int.emod_nonneg _ (by omega))]
    have hlt : (n % p).toNat < p.toNat := by have := Int.emod_lt_of_pos n hp0; omega
    rw [hmod]
    refine fGet_lst (view_ob hrp1) (pwL_at hlt) ?_
    have pwn := pow_win hp0 hq.bd (n % p).toNat
    have hlc := nd_len hca.nodup hw hlo
    have hlp := nd_len (pow_nodup (p := p) (ps := ps) (n % p).toNat) pwn (by omega)
    have e1 : cs.length ≤ 1001 := by omega
    have e2 : (powI p ps (n % p).toNat).length ≤ 801 := by omega
    refine ⟨cs, powI p ps (n % p).toNat, p, rfl, hp0, Nat.le_trans (Nat.mul_le_mul e1 e2) (by decide), fun q hq' => by have := hcv q hq'; omega, powI_vals hp0 hp5 _, fun W1 ex => ?_⟩
    have mw := mul_win hp0 hw pwn
    have ml : (plainI (mulI cs (powI p ps (n % p).toNat)) p).length ≤ 1000000 := Nat.le_trans (plainI_len _ _) (Nat.le_trans (mulI_len _ _) (Nat.le_trans (Nat.mul_le_mul e1 e2) (by decide)))
    simp only [wRaise, wTry, wXVal, wXIs, wXIsV, wCallX, fMulS, wSeq, wLRg1, wLRg2, wRngB, mExtend, wSetIxN, wBoxN, fNotInN, fGetN, wForEn, wSealQ, wPopD, wRep, wAug, wAsg, wSkip, wIf, wRet, wRetN, wDrop, wB, wTru, wBin, wUn, wApp, wAppF, wVal, wBox, wVar, wC, wFrz, wCons, wNil, wLst, wTup, wPar2, wPar3, wSetIx, wSetFld, wMu, wAnd, wOr, wNot, wAndV, wOrV, wNotV, wIte, wChain, wGet2, wFld, wProp, wMeth, wMethK, wCall, wCallK, wMakeK, wSeal, wOwn, wDisp, wPs, wDnK, wSortIt, wRev, wSlc, wONo, wOYes, wFor, wForLk, wIter, wRng1, wRng2, wEnum, wLc, wLcLk, wDc, wDcLk, wSetV, wSetB, wNo, wNoE, wYes, fAdd, fSub, fMul, fDiv, fMod, fPow, fLt, fLe, fGt, fGe, fNeg, fIsN, fNotN, isN, fInt, fAbs, bindG, Ob.toD, env0, List.map_cons, List.map_nil, List.cons_append, List.nil_append, List.append_nil, List.length_cons, List.length_nil, List.replicate_succ, List.replicate_zero, List.replicate, List.getElem?_cons_zero, List.getElem?_cons_succ, List.set_cons_zero, List.set_cons_succ, Option.some.injEq, exists_eq_left', exists_eq_left, D.int.injEq, D.bl.injEq, D.obj.injEq, keyD, keysD, fSet, mAppend, mInsert, mPop, mReverse, mClear, WS.put_same, dkD, lookD, truD, seqD, wipeD, List.set_nil]
    refine ⟨⟨by omega, by omega⟩, ?_⟩
    subst hB
    have g1 : ∀ c ob, (W.put b (.lst xs)) c = some ob → W1 c = some ob := fun c ob e => ex c ob (by simp) e
    have hb1' : W1 b = some (.lst xs) := g1 b _ WS.put_same
    have exW : ExB [m] W W1 := fun c ob _ e => g1 c ob (by rw [WS.put_ne (fun z => by rw [z, hb] at e; cases e)]; exact e)
    have hm1 : W1 m = some (.dN kvs) := g1 m _ (by rw [WS.put_ne (Ne.symm hbm)]; exact hm)
    have mo1 : MemoOk p ps W1 (fun c => S c ∨ c = b) U kvs := by
      have g := hmo.keep hm exW
      refine ⟨fun k d hd => ?_, g.nd, g.sub⟩
      obtain ⟨cs', n', lo', hi', b', k1, k2, k3, k4, k5, k6⟩ := hmo.ok k d hd
      exact ⟨cs', n', lo', hi', b', k1, k2, k3, k4, ⟨fun z => Or.elim z k5 fun e => by (rw [e, hb] at k6; cases k6), exW b' _ (fun z => by rw [List.mem_singleton.mp z, hm] at k6; cases k6) k6⟩⟩
    refine rem_loop (N := N) (a := a) (b := b) (m := m) (pw := pw) (lw := lw) (S := fun c => S c ∨ c = b) hq hR rfl mw ml (by omega) (by omega) hcv hn0 hN hlh hL hb1 hb2 hbm hpb (.inr rfl) hU (fun r qs k r0 r1 q1 q2 q3 hk => hRe k (.step hn0 r0 r1 q1 q2 q3 hk)) p.toNat 0 _ _ _ _ _ _ _ W1 xs kvs (by omega) (by decide) hb1' (g1 a _ hra1) (g1 pw _ hrp1) hm1 mo1
      (fun c hc => ?_) ⟨hxl, fun i _ hx => absurd hx (by have := Int.emod_nonneg (lo + (i : Int)) (show p ≠ 0 by omega); omega)⟩ fun xs' kvs' x9 x12 x13 x15 x16 x17 x18 W2 k1 k2 k3 k4 k5 => ?_
    · rcases hc with hc | rfl
      · cases z : W c with
        | none => exact absurd z (hS c hc)
        | some ob =>
          by_cases cm : c = m
          · rw [cm, hm1]; exact fun z => nomatch z
          · rw [exW c ob (by simp [cm]) z]; exact fun z => nomatch z
      · rw [hb1']; exact fun z => nomatch z
    have hline := k5.line fun i _ => Int.emod_lt_of_pos _ hp0
    subst hline
    simp only [wRaise, wTry, wXVal, wXIs, wXIsV, wCallX, fMulS, wSeq, wLRg1, wLRg2, wRngB, mExtend, wSetIxN, wBoxN, fNotInN, fGetN, wForEn, wSealQ, wPopD, wRep, wAug, wAsg, wSkip, wIf, wRet, wRetN, wDrop, wB, wTru, wBin, wUn, wApp, wAppF, wVal, wBox, wVar, wC, wFrz, wCons, wNil, wLst, wTup, wPar2, wPar3, wSetIx, wSetFld, wMu, wAnd, wOr, wNot, wAndV, wOrV, wNotV, wIte, wChain, wGet2, wFld, wProp, wMeth, wMethK, wCall, wCallK, wMakeK, wSeal, wOwn, wDisp, wPs, wDnK, wSortIt, wRev, wSlc, wONo, wOYes, wFor, wForLk, wIter, wRng1, wRng2, wEnum, wLc, wLcLk, wDc, wDcLk, wSetV, wSetB, wNo, wNoE, wYes, fAdd, fSub, fMul, fDiv, fMod, fPow, fLt, fLe, fGt, fGe, fNeg, fIsN, fNotN, isN, fInt, fAbs, bindG, Ob.toD, env0, List.map_cons, List.map_nil, List.cons_append, List.nil_append, List.append_nil, List.length_cons, List.length_nil, List.replicate_succ, List.replicate_zero, List.replicate, List.getElem?_cons_zero, List.getElem?_cons_succ, List.set_cons_zero, List.set_cons_succ, Option.some.injEq, exists_eq_left', exists_eq_left, D.int.injEq, D.bl.injEq, D.obj.injEq, keyD, keysD, fSet, mAppend, mInsert, mPop, mReverse, mClear, WS.put_same, dkD, lookD, truD, seqD, wipeD, List.set_nil]
    have hk' : hasKD (keyN cs n lo hi) kvs' = true ∨ hasKD (keyN cs n lo hi) kvs' = false := by cases hasKD (keyN cs n lo hi) kvs' <;> simp
    have klen : kvs'.length < sizeLine := by
      have := nodup_len k3.nd k3.sub
      rw [List.length_map] at this
      omega
    have mo2 : MemoOk p ps W2 S U kvs' := ⟨fun k d hd => by
      obtain ⟨cs', n', lo', hi', b', y1, y2, y3, y4, y5, y6⟩ := k3.ok k d hd
      exact ⟨cs', n', lo', hi', b', y1, y2, y3, y4, fun z => y5 (.inl z), y6⟩, k3.nd, k3.sub⟩
    refine ⟨m, kvs', keyN cs n lo hi, rfl, k2, nk_key cs n lo hi, depth_key cs n lo hi, ⟨_, rfl⟩, klen, ?_⟩
    have exF : ExB [m] W (W2.put m (.dN (putKD kvs' (keyN cs n lo hi) (.obj b)))) := fun c ob hc e => by
      have cm : c ≠ m := fun z => hc (by simp [z])
      have cb : c ≠ b := fun z => by rw [z, hb] at e; cases e
      rw [WS.put_ne cm]
      exact k4 c ob (by simp [cm, cb]) (exW c ob hc e)
    have put2 : MemoOk p ps (W2.put m (.dN (putKD kvs' (keyN cs n lo hi) (.obj b)))) S U (putKD kvs' (keyN cs n lo hi) (.obj b)) := by
      obtain ⟨y1, y2⟩ := putKD_keys (q := keyN cs n lo hi) (d := .obj b) k3.nd
      refine ⟨fun k d hd => ?_, y1, fun k hk => Or.elim (y2 k hk) (fun e => by rw [e]; exact hRe _ (.here hn0)) (k3.sub k)⟩
      rw [getKD_put] at hd
      by_cases c : keyN cs n lo hi = k
      · rw [if_pos c] at hd
        cases hd
        exact ⟨cs, n, lo, hi, b, c.symm, h0, hlh, rfl, nS b hb, by rw [WS.put_ne hbm]; exact k1⟩
      · rw [if_neg c] at hd
        obtain ⟨cs', n', lo', hi', b', z1, z2, z3, z4, z5, z6⟩ := mo2.ok k d hd
        exact ⟨cs', n', lo', hi', b', z1, z2, z3, z4, z5, by rw [WS.put_ne (fun z => by rw [z, k2] at z6; cases z6)]; exact z6⟩
    have has2 : hasKD (keyN cs n lo hi) (putKD kvs' (keyN cs n lo hi) (.obj b)) = true := by
      refine hasKD_iff.mpr ?_
      have e := getKD_put (k := keyN cs n lo hi) (q := keyN cs n lo hi) (d := D.obj b) (kvs := kvs')
      rw [if_pos rfl] at e
      exact getKD_mem e
    obtain ⟨a', kvs2, k, d, e, r⟩ := back _ _ WS.put_same put2 has2 exF
    exact ⟨a', kvs2, k, d, D.obj.inj e, r⟩
theorem law_check_stretch (C : Addr) : ∀ ds W Q PX, sp_check_stretch C ds W Q PX → ds.length = P_check_stretch.length ∧ w_check_stretch C PX { nx := fun _ W' => Q .non W', rt := Q } (env0 N_check_stretch ds) W := by
  rintro ds W Q PX ⟨lo, hi, rfl, hl, h⟩
  refine ⟨rfl, ?_⟩
  simp only [w_check_stretch, N_check_stretch, wRaise, wTry, wXVal, wXIs, wXIsV, wCallX, fMulS, wSeq, wLRg1, wLRg2, wRngB, mExtend, wSetIxN, wBoxN, fNotInN, fGetN, wForEn, wSealQ, wPopD, wRep, wAug, wAsg, wSkip, wIf, wRet, wRetN, wDrop, wB, wTru, wBin, wUn, wApp, wAppF, wVal, wBox, wVar, wC, wFrz, wCons, wNil, wLst, wTup, wPar2, wPar3, wSetIx, wSetFld, wMu, wAnd, wOr, wNot, wAndV, wOrV, wNotV, wIte, wChain, wGet2, wFld, wProp, wMeth, wMethK, wCall, wCallK, wMakeK, wSeal, wOwn, wDisp, wPs, wDnK, wSortIt, wRev, wSlc, wONo, wOYes, wFor, wForLk, wIter, wRng1, wRng2, wEnum, wLc, wLcLk, wDc, wDcLk, wSetV, wSetB, wNo, wNoE, wYes, fAdd, fSub, fMul, fDiv, fMod, fPow, fLt, fLe, fGt, fGe, fNeg, fIsN, fNotN, isN, fInt, fAbs, bindG, Ob.toD, env0, List.map_cons, List.map_nil, List.cons_append, List.nil_append, List.append_nil, List.length_cons, List.length_nil, List.replicate_succ, List.replicate_zero, List.replicate, List.getElem?_cons_zero, List.getElem?_cons_succ, List.set_cons_zero, List.set_cons_succ, Option.some.injEq, exists_eq_left', exists_eq_left, D.int.injEq, D.bl.injEq, D.obj.injEq, keyD, keysD, fSet, mAppend, mInsert, mPop, mReverse, mClear, WS.put_same, dkD, lookD, truD, seqD, wipeD, List.set_nil]
  rw [decide_eq_false (by omega)]
  exact h
theorem law_cells_between (C : Addr) : ∀ ds W Q PX, sp_cells_between C ds W Q PX → ds.length = P_cells_between.length ∧ w_cells_between C PX { nx := fun _ W' => Q .non W', rt := Q } (env0 N_cells_between ds) W := by
  rintro ds W Q PX ⟨a, p, ps, cs, lo0, hi0, U, n, lo, hi, rfl, hr, hq, hca, hcv, hw, hlo, hdd, h0, h1, hlh, hL, hb1, hb2, hRe, hU, h⟩
  refine ⟨rfl, ?_⟩
  have hp : 2 ≤ p := by rcases hq.pr with h | h | h <;> omega
  have hN : n.toNat < p.toNat ^ 100 := by
    have e : (2 : Nat) ^ 100 ≤ p.toNat ^ 100 := Nat.pow_le_pow_left (by omega) 100
    omega
  simp only [w_cells_between, N_cells_between, wRaise, wTry, wXVal, wXIs, wXIsV, wCallX, fMulS, wSeq, wLRg1, wLRg2, wRngB, mExtend, wSetIxN, wBoxN, fNotInN, fGetN, wForEn, wSealQ, wPopD, wRep, wAug, wAsg, wSkip, wIf, wRet, wRetN, wDrop, wB, wTru, wBin, wUn, wApp, wAppF, wVal, wBox, wVar, wC, wFrz, wCons, wNil, wLst, wTup, wPar2, wPar3, wSetIx, wSetFld, wMu, wAnd, wOr, wNot, wAndV, wOrV, wNotV, wIte, wChain, wGet2, wFld, wProp, wMeth, wMethK, wCall, wCallK, wMakeK, wSeal, wOwn, wDisp, wPs, wDnK, wSortIt, wRev, wSlc, wONo, wOYes, wFor, wForLk, wIter, wRng1, wRng2, wEnum, wLc, wLcLk, wDc, wDcLk, wSetV, wSetB, wNo, wNoE, wYes, fAdd, fSub, fMul, fDiv, fMod, fPow, fLt, fLe, fGt, fGe, fNeg, fIsN, fNotN, isN, fInt, fAbs, bindG, Ob.toD, env0, List.map_cons, List.map_nil, List.cons_append, List.nil_append, List.append_nil, List.length_cons, List.length_nil, List.replicate_succ, List.replicate_zero, List.replicate, List.getElem?_cons_zero, List.getElem?_cons_succ, List.set_cons_zero, List.set_cons_succ, Option.some.injEq, exists_eq_left', exists_eq_left, D.int.injEq, D.bl.injEq, D.obj.injEq, keyD, keysD, fSet, mAppend, mInsert, mPop, mReverse, mClear, WS.put_same, dkD, lookD, truD, seqD, wipeD, List.set_nil, fPTup, view]
  refine ⟨a, p, ps, cs, n, rfl, hr, hca, hcv, h0, lo, hi, rfl, hlh, by decide, fun m hm => ?_⟩
  have ex : ExB [] W (W.put m (.dN [])) := ExB.put (.inr hm)
  refine ⟨a, p, ps, cs, lo0, hi0, m, [], U, fun b => W b ≠ none, n, lo, hi, rfl, hr.keep ex (by simp), hq, hca, hcv, hw, hlo, hdd, h0, hN, hlh, hL, hb1, hb2, WS.put_same, ⟨(fun k d z => by cases z), List.nodup_nil, fun k z => by cases z⟩, fun b hb => ?_, hRe, hU, fun kvs b W' g1 g2 g3 g4 g5 => ?_⟩
  · cases z : W b with
    | none => exact absurd z hb
    | some ob => rw [ex b ob (by simp) z]; exact fun z => nomatch z
  · have hbn : W b = none := by
      cases z : W b with
      | none => rfl
      | some ob => exact absurd (show W b ≠ none by rw [z]; exact fun z => nomatch z) g3
    refine h b W' hbn g4 fun c ob hc e => ?_
    have cm : c ≠ m := fun z => by rw [z, hm] at e; cases e
    exact g5 c ob (by simp [cm]) (by rw [WS.put_ne cm]; exact e)
end DL

set_option maxRecDepth 100000
set_option maxHeartbeats 4000000
set_option linter.all false
namespace DL
open PySem PySem.Spec PyProof.Rows L2
/-- few keys for few digits -/
theorem small_reach {p : Int} {ps : IP} (hp : p = 2 ∨ p = 3 ∨ p = 5) : ∀ (f : Nat) (cs : IP) (n lo hi : Int), n.toNat < p.toNat ^ f → ∃ U : List NestedKey, (∀ k, Reach p ps cs n lo hi k → k ∈ U) ∧ U.length ≤ 6 ^ f
  | 0, cs, n, lo, hi, h => ⟨[], fun k hk => by
      rw [Nat.pow_zero] at h
      cases hk with
      | here h0 => omega
      | step h0 _ _ _ _ _ _ => omega, Nat.zero_le _⟩
  | f + 1, cs, n, lo, hi, h => by
    have one : ∀ r : Int, ∃ Ur : List NestedKey, (∀ qs k, qs.Perm (partI p r (plainI (mulI cs (powI p ps (n % p).toNat)) p)) → Asc qs → Reach p ps qs (n / p) (-((r - lo) / p)) ((hi - r) / p) k → k ∈ Ur) ∧ Ur.length ≤ 6 ^ f := fun r => by
      by_cases hq : ∃ qs, qs.Perm (partI p r (plainI (mulI cs (powI p ps (n % p).toNat)) p)) ∧ Asc qs
      · obtain ⟨qs, hq1, hq2⟩ := hq
        have hn : (n / p).toNat < p.toNat ^ f := by
          by_cases c : 0 ≤ n
          · have e : n / p = ((n.toNat / p.toNat : Nat) : Int) := by
              rw [Int.natCast_ediv, Int.toNat_of_nonneg (by omega), Int.toNat_of_nonneg (by omega)]
            rw [e, Int.toNat_natCast]
            refine Nat.div_lt_of_lt_mul ?_
            rw [Nat.mul_comm, ← Nat.pow_succ]; exact h
          · have : n / p ≤ 0 := by rcases hp with rfl | rfl | rfl <;> omega
            have : 0 < p.toNat ^ f := Nat.pow_pos (by omega)
            omega
        obtain ⟨U, h1, h2⟩ := small_reach hp f qs (n / p) (-((r - lo) / p)) ((hi - r) / p) hn
        refine ⟨U, fun qs' k g1 g2 g3 => h1 k ?_, h2⟩
        have : qs' = qs := asc_uniq g2 hq2 (g1.trans hq1.symm)
        rw [this] at g3; exact g3
      · exact ⟨[], fun qs k g1 g2 _ => absurd ⟨qs, g1, g2⟩ hq, Nat.zero_le _⟩
    obtain ⟨U0, a0, b0⟩ := one 0
    obtain ⟨U1, a1, b1⟩ := one 1
    obtain ⟨U2, a2, b2⟩ := one 2
    obtain ⟨U3, a3, b3⟩ := one 3
    obtain ⟨U4, a4, b4⟩ := one 4
    refine ⟨keyN cs n lo hi :: (U0 ++ U1 ++ U2 ++ U3 ++ U4), fun k hk => ?_, ?_⟩
    · cases hk with
      | here h0 => exact List.mem_cons_self
      | @step _ qs _ _ _ r _ h0 r0 r1 g1 g2 g3 g4 =>
        refine List.mem_cons_of_mem _ ?_
        have : r = 0 ∨ r = 1 ∨ r = 2 ∨ r = 3 ∨ r = 4 := by omega
        simp only [List.mem_append]
        rcases this with rfl | rfl | rfl | rfl | rfl
        · exact .inl (.inl (.inl (.inl (a0 qs k g1 g2 g4))))
        · exact .inl (.inl (.inl (.inr (a1 qs k g1 g2 g4))))
        · exact .inl (.inl (.inr (a2 qs k g1 g2 g4)))
        · exact .inl (.inr (a3 qs k g1 g2 g4))
        · exact .inr (a4 qs k g1 g2 g4)
    · have : 0 < 6 ^ f := Nat.pow_pos (by decide)
      simp only [List.length_cons, List.length_append, Nat.pow_succ]
      omega
end DL

set_option maxRecDepth 100000
set_option maxHeartbeats 4000000
set_option linter.all false
namespace DL
open PySem PySem.Spec PyProof.Rows L2
theorem Chain.append {p : Int} {ps q : IP} : ∀ {L : List IP} {cur z : IP}, Chain p ps cur L → (cur :: L).getLast? = some z → Next p ps z q → Chain p ps cur (L ++ [q])
  | [], cur, z, _, e, h => by
    have : cur = z := by simpa using e
    subst this
    exact ⟨h, trivial⟩
  | y :: L, cur, z, h, e, g => ⟨h.1, Chain.append (L := L) (cur := y) (z := z) h.2 (by rw [List.getLast?_cons_cons] at e; exact e) g⟩
theorem rows_loopO {C a b c : Addr} {p lo hi : Int} {ps rs : IP} {d1 d2 : D} {PX : XP} {P : WEnds} {W0 : WS} (hq : Parts p ps) (hw : Win lo hi rs) (hlo : lo ≤ hi + 1) (hd : hi - lo ≤ 500) (hs : Asc rs) (hv : Vl p rs) (hb0 : W0 b = none) (hcb : c ≠ b) : ∀ (nn : Nat) (l0 : Int) (L : List IP) (x4 : Option D) (W : WS), L.length + nn ≤ 40 → RuleAt C W a p ps → ExB [] W0 W → Chain p ps rs L → W b = some (.lst (.obj c :: L.map rowD)) → W c = some (.lst (rs.map prD)) → a ≠ b →
    (∀ L' W' x4, Chain p ps rs L' → L'.length = L.length + nn → ExB [] W0 W' → W' b = some (.lst (.obj c :: L'.map rowD)) → W' c = some (.lst (rs.map prD)) → P.nx [some (.obj a), some d1, some d2, some (.obj b), x4] W') →
    forW (.nm 4) (b_rows_until_1 C) PX P (rngD l0 nn) [some (.obj a), some d1, some d2, some (.obj b), x4] W
  | 0, l0, L, x4, W, _, _, he, hc, hb, hwc, _, K => K L W x4 hc rfl he hb hwc
  | nn + 1, l0, L, x4, W, hn, hr, he, hc, hb, hwc, hab, K => by
    have ih := rows_loopO (C := C) (a := a) (d1 := d1) (d2 := d2) (PX := PX) (P := P) hq hw hlo hd hs hv hb0 hcb nn (l0 + 1)
    rw [rngD_succ]
    show bindG _ _ _ _
    generalize hK : forW (.nm 4) (b_rows_until_1 C) PX P (rngD (l0 + 1) nn) = Kf
    rw [hK] at ih
    obtain ⟨pw, lw, ha, hpw⟩ := id hr.ex
    obtain ⟨z, hz⟩ : ∃ z, (rs :: L).getLast? = some z := ⟨_, List.getLast?_cons⟩
    obtain ⟨i, hi1, hi2⟩ : ∃ i, i ≤ L.length ∧ (rs :: L)[i]? = some z := by
      rw [List.getLast?_eq_getElem?] at hz
      exact ⟨_, by rw [List.length_cons]; omega, hz⟩
    obtain ⟨q, hq1, hq2, hq3, hq4⟩ := chain_at L rs 0 hs hv (mul_one' rs).symm.mod hc i hi1
    rw [hi2] at hq1
    cases hq1
    have wz := chain_win hq L rs lo hi hw hc i z hi2
    have lz := asc_len hq2 wz (by omega)
    obtain ⟨d, hd1, hd2⟩ : ∃ d, (D.obj c :: L.map rowD).getLast? = some d ∧ view W d = .lst (z.map prD) := by
      cases L with
      | nil =>
        have : rs = z := by simpa using hz
        subst this
        exact ⟨_, rfl, view_ob hwc⟩
      | cons y L =>
        rw [List.getLast?_cons_cons] at hz
        exact ⟨rowD z, by rw [List.map_cons, List.getLast?_cons_cons, ← List.map_cons, List.getLast?_map, hz]; rfl, rfl⟩
    simp only [b_rows_until_1, wRaise, wTry, wXVal, wXIs, wXIsV, wCallX, fMulS, wSeq, wLRg1, wLRg2, wRngB, mExtend, wSetIxN, wBoxN, fNotInN, fGetN, wForEn, wSealQ, wPopD, wRep, wAug, wAsg, wSkip, wIf, wRet, wRetN, wDrop, wB, wTru, wBin, wUn, wApp, wAppF, wVal, wBox, wVar, wC, wFrz, wCons, wNil, wLst, wTup, wPar2, wPar3, wSetIx, wSetFld, wMu, wAnd, wOr, wNot, wAndV, wOrV, wNotV, wIte, wChain, wGet2, wFld, wProp, wMeth, wMethK, wCall, wCallK, wMakeK, wSeal, wOwn, wDisp, wPs, wDnK, wSortIt, wRev, wSlc, wONo, wOYes, wFor, wForLk, wIter, wRng1, wRng2, wEnum, wLc, wLcLk, wDc, wDcLk, wSetV, wSetB, wNo, wNoE, wYes, fAdd, fSub, fMul, fDiv, fMod, fPow, fLt, fLe, fGt, fGe, fNeg, fIsN, fNotN, isN, fInt, fAbs, bindG, Ob.toD, env0, List.map_cons, List.map_nil, List.cons_append, List.nil_append, List.append_nil, List.length_cons, List.length_nil, List.replicate_succ, List.replicate_zero, List.replicate, List.getElem?_cons_zero, List.getElem?_cons_succ, List.set_cons_zero, List.set_cons_succ, Option.some.injEq, exists_eq_left', exists_eq_left, D.int.injEq, D.bl.injEq, D.obj.injEq, keyD, keysD, fSet, mAppend, mInsert, mPop, mReverse, mClear, WS.put_same, dkD, lookD, truD, seqD, wipeD, List.set_nil]
    refine ⟨⟨_, hb⟩, _, view_ob ha, noNext, ?_⟩
    refine fGet_lst (view_ob hb) (x := d) (atI_neg1 hd1) ?_
    refine ⟨a, p, ps, z, _, rfl, hd2, hr, hq, hq2, hq3, by omega, fun qs t W' hN ht e' hwt => ?_⟩
    refine ⟨t, _, rfl, hwt, ?_⟩
    have hbt : b ≠ t := fun c => by subst c; rw [ht] at hb; cases hb
    have hat : a ≠ t := fun c => by subst c; rw [ht] at ha; cases ha
    have hct : c ≠ t := fun y => by rw [y, ht] at hwc; cases hwc
    have hb' : (W'.del t) b = some (.lst (.obj c :: L.map rowD)) := by rw [WS.del_ne hbt]; exact e' b _ (by simp) hb
    refine ⟨_, hb', sz_small (by rw [List.length_cons, List.length_map]; omega), ?_⟩
    have hr' : RuleAt C ((W'.del t).put b (.lst (.obj c :: L.map rowD ++ [rowD qs]))) a p ps := by
      have hpt : pw ≠ t := fun c => by subst c; rw [ht] at hpw; cases hpw
      have hpb : pw ≠ b := fun c => by
        subst c
        rw [hpw] at hb
        injection hb with hb
        injection hb with hb
        have h0 : (pwL p ps p.toNat)[0]? = some (dkI (powI p ps 0)) := by
          unfold pwL
          rw [List.getElem?_map, List.getElem?_range (by have := hq.pr; omega)]; rfl
        rw [hb] at h0
        cases h0
      refine ⟨pw, lw, ?_, ?_⟩
      · rw [WS.put_ne hab, WS.del_ne hat]; exact e' a _ (by simp) ha
      · rw [WS.put_ne hpb, WS.del_ne hpt]; exact e' pw _ (by simp) hpw
    have he' : ExB [] W0 ((W'.del t).put b (.lst (.obj c :: L.map rowD ++ [rowD qs]))) := fun c ob hcs ec => by
      have h1 := he c ob hcs ec
      have hcb : c ≠ b := fun z => by subst z; rw [hb0] at ec; cases ec
      have hct : c ≠ t := fun z => by subst z; rw [ht] at h1; cases h1
      rw [WS.put_ne hcb, WS.del_ne hct]
      exact e' c ob (by simp) h1
    refine ih (L ++ [qs]) _ _ (by rw [List.length_append, List.length_singleton]; omega) hr' he' (hc.append hz hN) ?_ ?_ hab fun L' W'' x4 c1 c2 c3 c4 c5 => K L' W'' x4 c1 ?_ c3 c4 c5
    · rw [WS.put_same, List.map_append]; rfl
    · rw [WS.put_ne hcb, WS.del_ne hct]; exact e' c _ (by simp) hwc
    · rw [c2, List.length_append, List.length_singleton]; omega
theorem law_rows_untilO (C : Addr) : ∀ ds W Q PX, sp_rows_untilO C ds W Q PX → ds.length = P_rows_until.length ∧ w_rows_until C PX { nx := fun _ W' => Q .non W', rt := Q } (env0 N_rows_until ds) W := by
  rintro ds W Q PX ⟨a, p, ps, rs, lo, hi, n, rfl, hr, hq, hs, hv, hw, hlo, hd, hn, h⟩
  refine ⟨rfl, ?_⟩
  obtain ⟨pw, lw, ha, hpw⟩ := id hr.ex
  generalize hB : b_rows_until_1 C = Bd
  simp only [w_rows_until, N_rows_until, wRaise, wTry, wXVal, wXIs, wXIsV, wCallX, fMulS, wSeq, wLRg1, wLRg2, wRngB, mExtend, wSetIxN, wBoxN, fNotInN, fGetN, wForEn, wSealQ, wPopD, wRep, wAug, wAsg, wSkip, wIf, wRet, wRetN, wDrop, wB, wTru, wBin, wUn, wApp, wAppF, wVal, wBox, wVar, wC, wFrz, wCons, wNil, wLst, wTup, wPar2, wPar3, wSetIx, wSetFld, wMu, wAnd, wOr, wNot, wAndV, wOrV, wNotV, wIte, wChain, wGet2, wFld, wProp, wMeth, wMethK, wCall, wCallK, wMakeK, wSeal, wOwn, wDisp, wPs, wDnK, wSortIt, wRev, wSlc, wONo, wOYes, wFor, wForLk, wIter, wRng1, wRng2, wEnum, wLc, wLcLk, wDc, wDcLk, wSetV, wSetB, wNo, wNoE, wYes, fAdd, fSub, fMul, fDiv, fMod, fPow, fLt, fLe, fGt, fGe, fNeg, fIsN, fNotN, isN, fInt, fAbs, bindG, Ob.toD, env0, List.map_cons, List.map_nil, List.cons_append, List.nil_append, List.append_nil, List.length_cons, List.length_nil, List.replicate_succ, List.replicate_zero, List.replicate, List.getElem?_cons_zero, List.getElem?_cons_succ, List.set_cons_zero, List.set_cons_succ, Option.some.injEq, exists_eq_left', exists_eq_left, D.int.injEq, D.bl.injEq, D.obj.injEq, keyD, keysD, fSet, mAppend, mInsert, mPop, mReverse, mClear, WS.put_same, dkD, lookD, truD, seqD, wipeD, List.set_nil, hB]
  refine ⟨a, p, ps, rs, n, rfl, hr, hs, hv, by omega, ?_⟩
  refine fList_lst rfl fun c hc => ⟨by decide, fun b hb => ?_⟩
  have hcb : c ≠ b := fun y => by rw [y, WS.put_same] at hb; cases hb
  have hb1 : W b = none := by rw [WS.put_ne (Ne.symm hcb)] at hb; exact hb
  have hab : a ≠ b := fun c => by subst c; rw [hb1] at ha; cases ha
  have hpb : pw ≠ b := fun c => by subst c; rw [hb1] at hpw; cases hpw
  have hac : a ≠ c := fun z => by subst z; rw [hc] at ha; cases ha
  have hpc : pw ≠ c := fun z => by subst z; rw [hc] at hpw; cases hpw
  refine ⟨⟨by omega, by omega⟩, ?_⟩
  subst hB
  refine rows_loopO (c := c) (W0 := W) hq hw hlo hd hs hv hb1 hcb n 0 [] none _ (by show 0 + n ≤ 40; omega) ⟨pw, lw, by rw [WS.put_ne hab, WS.put_ne hac]; exact ha, by rw [WS.put_ne hpb, WS.put_ne hpc]; exact hpw⟩ ((ExB.put (.inr hc)).trans (ExB.put (.inr hb))) trivial WS.put_same (by rw [WS.put_ne hcb, WS.put_same]) hab fun L W' x4 c1 c2 c3 c4 c5 => ?_
  exact ⟨_, rfl, h L b c W' c1 (by rw [c2]; show 0 + n = n; omega) hb1 hc hcb c3 c4 c5⟩
/-- a long print -/
theorem reprV_big {W : WS} {d : D} {p : PyData} {P : D → Prop} (h : PlV W d p) (hk : okP p = true) (hs : p.bulk ≤ 380000) (hd : p.depth ≤ 60) (hp : P (.str p.shown)) : fReprV [d] W P := by
  obtain ⟨a, b, c, e, _, _⟩ := okP_all p hk
  refine ⟨p, h, a, b, hd, ?_, hp⟩
  have s := PyData.shown_le_bulk 41 (by decide) p c
  rw [sizeLine_eq]
  omega
theorem bulk_prs : ∀ ps : IP, PyData.bulkAll (ps.map pPr) = 3 * ps.length
  | [] => by simp only [List.map_nil, PyData.bulkAll, List.length_nil]
  | q :: r => by
    simp only [List.map_cons, PyData.bulkAll, bulk_prs r, List.length_cons, pPr, PyData.bulk]; omega
theorem bulk_rows {n : Nat} : ∀ {L : List IP}, (∀ r ∈ L, r.length ≤ n) → PyData.bulkAll (L.map pRow) ≤ L.length * (1 + 3 * n)
  | [], _ => by simp only [List.map_nil, PyData.bulkAll]; omega
  | r :: L, h => by
    have ih := bulk_rows (L := L) fun z hz => h z (List.mem_cons_of_mem _ hz)
    have h1 := h r List.mem_cons_self
    simp only [List.map_cons, PyData.bulkAll, List.length_cons, pRow, PyData.bulk, bulk_prs, Nat.add_mul] at ih ⊢
    omega
end DL

set_option maxRecDepth 100000
set_option maxHeartbeats 4000000
set_option linter.all false
namespace DL
open PySem PySem.Spec PyProof.Rows L2
inductive SortO : List IP → List IP → Prop
  | nil : SortO [] []
  | cons {q s : IP} {qs ss : List IP} : s.Perm q → Asc s → SortO qs ss → SortO (q :: qs) (s :: ss)
theorem SortO.len : ∀ {a b : List IP}, SortO a b → a.length = b.length
  | _, _, .nil => rfl
  | _, _, .cons _ _ t => by rw [List.length_cons, List.length_cons, t.len]
theorem SortO.at_ : ∀ {a b : List IP} {i : Nat} {q : IP}, SortO a b → a[i]? = some q → ∃ s, b[i]? = some s ∧ s.Perm q ∧ Asc s
  | _, _, _, _, .nil, h => by simp at h
  | _, _, 0, _, .cons h1 h2 _, h => by simp at h; subst h; exact ⟨_, rfl, h1, h2⟩
  | _, _, i + 1, q, .cons _ _ t, h => by
    obtain ⟨s, h1, h2⟩ := t.at_ (i := i) (q := q) (by simpa using h)
    exact ⟨s, by simpa using h1, h2⟩
theorem lc_lines {env : DEnv} {W : WS} {j : Nat} (hl : j < env.length) : ∀ (rest acc : List IP) (P : List D → WS → Prop), (∀ q ∈ rest, (q.map (·.1)).Nodup) → acc.length + rest.length < sizeLine → (∀ S, SortO rest S → P ((acc ++ S).map rowD) W) →
    lcW (.nm j) wYes (wVal (wSortIt (wVar j))) (rest.map dkI) env W (acc.map rowD) P
  | [], acc, P, _, _, h => by
    have := h [] .nil
    rw [List.append_nil] at this
    exact this
  | q :: r, acc, P, hn, hz, h => by
    show bindG _ _ _ _
    rw [List.length_cons] at hz
    simp only [wRaise, wTry, wXVal, wXIs, wXIsV, wCallX, fMulS, wSeq, wLRg1, wLRg2, wRngB, mExtend, wSetIxN, wBoxN, fNotInN, fGetN, wForEn, wSealQ, wPopD, wRep, wAug, wAsg, wSkip, wIf, wRet, wRetN, wDrop, wB, wTru, wBin, wUn, wApp, wAppF, wVal, wBox, wVar, wC, wFrz, wCons, wNil, wLst, wTup, wPar2, wPar3, wSetIx, wSetFld, wMu, wAnd, wOr, wNot, wAndV, wOrV, wNotV, wIte, wChain, wGet2, wFld, wProp, wMeth, wMethK, wCall, wCallK, wMakeK, wSeal, wOwn, wDisp, wPs, wDnK, wSortIt, wRev, wSlc, wONo, wOYes, wFor, wForLk, wIter, wRng1, wRng2, wEnum, wLc, wLcLk, wDc, wDcLk, wSetV, wSetB, wNo, wNoE, wYes, fAdd, fSub, fMul, fDiv, fMod, fPow, fLt, fLe, fGt, fGe, fNeg, fIsN, fNotN, isN, fInt, fAbs, bindG, Ob.toD, env0, List.map_cons, List.map_nil, List.cons_append, List.nil_append, List.append_nil, List.length_cons, List.length_nil, List.replicate_succ, List.replicate_zero, List.replicate, List.getElem?_cons_zero, List.getElem?_cons_succ, List.set_cons_zero, List.set_cons_succ, Option.some.injEq, exists_eq_left', exists_eq_left, D.int.injEq, D.bl.injEq, D.obj.injEq, keyD, keysD, fSet, mAppend, mInsert, mPop, mReverse, mClear, WS.put_same, dkD, lookD, truD, seqD, wipeD, List.set_nil, dkI]
    refine ⟨_, by rw [List.getElem?_set_self hl], _, q, rfl, ipD_mk q, fun s s1 s2 => ⟨by rw [List.length_map]; omega, ?_⟩⟩
    have sa := asc_of_perm (hn q List.mem_cons_self) s1 s2
    have := lc_lines (W := W) hl r (acc ++ [s]) P (fun z hz => hn z (List.mem_cons_of_mem _ hz)) (by rw [List.length_append, List.length_singleton]; omega) (fun S hS => by
      rw [List.append_assoc]; exact h (s :: S) (.cons s1 sa hS))
    rw [List.map_append] at this
    exact this
theorem rows_same {p : Int} (hp : 0 < p) {ts ps rs : IP} (hperm : ps.Perm (swapI ts)) (hs : Asc rs) (hv : Vl p rs) {L S L' : List IP} (hw : Walk p ts rs L) (hS : SortO (rs :: L) S) (hc : Chain p ps rs L') (hl : L'.length = L.length) : S = rs :: L' := by
  refine List.ext_getElem? fun i => ?_
  by_cases hi : i ≤ L.length
  · obtain ⟨q, q1, q2, q3, q4⟩ := walk_far hp hperm L rs 0 hs.nodup hv (mul_one' rs).symm.mod hw i hi
    obtain ⟨s, s1, s2, s3⟩ := hS.at_ q1
    obtain ⟨z, z1, z2, z3, z4⟩ := chain_at L' rs 0 hs hv (mul_one' rs).symm.mod hc i (by omega)
    rw [s1, z1]
    congr 1
    refine asc_ext s3 z2 (vl_ne (vl_perm q3 s2)) (vl_ne z3) fun x => ?_
    rw [lookI_perm q2 s2, q4]
    have e := z4.cf_eq x
    rw [cf_look z2.nodup] at e
    have := look_range hp z3 x
    rw [Int.emod_eq_of_lt this.1 this.2] at e
    exact e.symm
  · rw [List.getElem?_eq_none (by rw [← hS.len, List.length_cons]; omega), List.getElem?_eq_none (by rw [List.length_cons]; omega)]
theorem next_winW {p lo hi u v : Int} {ps ln qs : IP} (hps : ∀ t ∈ ps, u ≤ t.1 ∧ t.1 ≤ v) (w : Win lo hi ln) (h : Next p ps ln qs) : Win (lo + u) (hi + v) qs := by
  intro z hz
  have g := getI_mem h.1.nodup hz
  have e : lookI qs z.1 = z.2 := by unfold lookI; rw [g]; rfl
  have h1 := h.2.2 z.1
  have h2 := (h.2.1 z hz).1
  rw [e, look_mul] at h1
  have hne : tot ps z.1 ln ≠ 0 := fun c => by rw [c] at h1; simp at h1; omega
  obtain ⟨y, hy, t, ht, ey⟩ := tot_mem hne
  have b := hps t ht
  have w1 := w y hy
  omega
theorem chain_winW {p u v : Int} {ps : IP} (hps : ∀ t ∈ ps, u ≤ t.1 ∧ t.1 ≤ v) : ∀ (L : List IP) (cur : IP) (lo hi : Int), Win lo hi cur → Chain p ps cur L → ∀ (i : Nat) (q : IP), (cur :: L)[i]? = some q → Win (lo + u * i) (hi + v * i) q
  | L, cur, lo, hi, w, _, 0, q, e => by
    have : cur = q := by simpa using e
    subst this
    simpa using w
  | [], _, _, _, _, _, i + 1, _, e => by simp at e
  | z :: L, cur, lo, hi, w, h, i + 1, q, e => by
    have := chain_winW hps L z _ _ (next_winW hps w h.1) h.2 i q (by simpa using e)
    intro y hy
    have := this y hy
    have e1 : u * ((i + 1 : Nat) : Int) = u * i + u := by push_cast; rw [Int.mul_add, Int.mul_one]
    have e2 : v * ((i + 1 : Nat) : Int) = v * i + v := by push_cast; rw [Int.mul_add, Int.mul_one]
    omega
/-- what is known of the rows that are told -/
structure Rows6 (L : List IP) : Prop where
  len : L.length ≤ 41
  ok : ∀ r ∈ L, okR r
  short : ∀ r ∈ L, r.length ≤ 211
  bd : ∀ r ∈ L, ∀ q ∈ r, -(10 ^ 32) ≤ q.1 ∧ q.1 ≤ 10 ^ 32
theorem rows6 {p : Int} {ps rs : IP} {L : List IP} (hq : Parts p ps) (hwd : ∀ q ∈ ps, ∀ z ∈ ps, q.1 - z.1 ≤ 4) (hs : Asc rs) (hv : Vl p rs) (hw : Win40 rs) (hb : Bd (10 ^ 31) rs) (hc : Chain p ps rs L) (hl : L.length ≤ 40) : Rows6 (rs :: L) := by
  obtain ⟨o, r, e⟩ : ∃ o r, ps = o :: r := by
    cases ps with
    | nil => exact absurd rfl hq.ne
    | cons o r => exact ⟨o, r, rfl⟩
  have hp5 : p ≤ 5 := by rcases hq.pr with h | h | h <;> omega
  have ho : o ∈ ps := by rw [e]; exact List.mem_cons_self
  have wd : ∀ t ∈ ps, o.1 ≤ t.1 ∧ t.1 ≤ o.1 + 4 := fun t ht => by
    have a := hwd t ht o ho
    have b := hq.asc
    rw [e] at b ht
    rcases List.mem_cons.mp ht with rfl | ht
    · omega
    · have := (List.pairwise_cons.mp b).1 t ht
      omega
  obtain ⟨lo, hw⟩ := hw
  have hp0 : 0 < p := by rcases hq.pr with h | h | h <;> omega
  have at_ : ∀ q ∈ rs :: L, ∃ i : Nat, i ≤ 40 ∧ (rs :: L)[i]? = some q := fun q hq => by
    obtain ⟨i, hi, e⟩ := List.mem_iff_getElem.mp hq
    exact ⟨i, by rw [List.length_cons] at hi; omega, by rw [List.getElem?_eq_getElem hi, e]⟩
  have bd : ∀ q ∈ rs :: L, ∀ z ∈ q, -(10 ^ 32) ≤ z.1 ∧ z.1 ≤ 10 ^ 32 := fun q hq' z hz => by
    obtain ⟨i, i1, i2⟩ := at_ q hq'
    have := chain_win hq L rs (-(10 ^ 31)) (10 ^ 31) hb hc i q i2 z hz
    omega
  have vl : ∀ q ∈ rs :: L, Asc q ∧ Vl p q := fun q hq' => by
    obtain ⟨i, i1, i2⟩ := at_ q hq'
    have hiL : i ≤ L.length := by
      have := (List.getElem?_eq_some_iff.mp i2).1
      rw [List.length_cons] at this; omega
    obtain ⟨z, z1, z2, z3, _⟩ := chain_at L rs 0 hs hv (mul_one' rs).symm.mod hc i hiL
    rw [i2] at z1
    cases z1
    exact ⟨z2, z3⟩
  refine ⟨by rw [List.length_cons]; omega, fun q hq' z hz => ?_, fun q hq' => ?_, bd⟩
  · have b := bd q hq' z hz
    have v := (vl q hq').2 z hz
    omega
  · obtain ⟨i, i1, i2⟩ := at_ q hq'
    have w := chain_winW wd L rs lo (lo + 50) hw hc i q i2
    have e4 : (o.1 + 4) * (i : Int) = o.1 * i + 4 * i := by rw [Int.add_mul]
    have := asc_len (vl q hq').1 w (by omega)
    omega
/-- a line of cells -/
theorem lc_line {q : IP} {env : DEnv} {W : WS} (q10 : env[10]? = some (some (.dK (mkI q)))) (hl : 15 < env.length) : ∀ (nn : Nat) (lo : Int) (acc : List D) (P : List D → WS → Prop), acc.length + nn ≤ 100 → P (acc ++ (List.range nn).map fun i : Nat => D.int (lookI q (lo + (i : Int)))) W →
    lcW (.nm 15) wYes (wGet2 (wVar 10) (wVar 15) (wC (.int 0))) (rngD lo nn) env W acc P
  | 0, lo, acc, P, _, h => by
    rw [List.range_zero, List.map_nil, List.append_nil] at h
    exact h
  | nn + 1, lo, acc, P, hn, h => by
    rw [rngD_succ]
    show bindG _ _ _ _
    simp only [wRaise, wTry, wXVal, wXIs, wXIsV, wCallX, fMulS, wSeq, wLRg1, wLRg2, wRngB, mExtend, wSetIxN, wBoxN, fNotInN, fGetN, wForEn, wSealQ, wPopD, wRep, wAug, wAsg, wSkip, wIf, wRet, wRetN, wDrop, wB, wTru, wBin, wUn, wApp, wAppF, wVal, wBox, wVar, wC, wFrz, wCons, wNil, wLst, wTup, wPar2, wPar3, wSetIx, wSetFld, wMu, wAnd, wOr, wNot, wAndV, wOrV, wNotV, wIte, wChain, wGet2, wFld, wProp, wMeth, wMethK, wCall, wCallK, wMakeK, wSeal, wOwn, wDisp, wPs, wDnK, wSortIt, wRev, wSlc, wONo, wOYes, wFor, wForLk, wIter, wRng1, wRng2, wEnum, wLc, wLcLk, wDc, wDcLk, wSetV, wSetB, wNo, wNoE, wYes, fAdd, fSub, fMul, fDiv, fMod, fPow, fLt, fLe, fGt, fGe, fNeg, fIsN, fNotN, isN, fInt, fAbs, bindG, Ob.toD, env0, List.map_cons, List.map_nil, List.cons_append, List.nil_append, List.append_nil, List.length_cons, List.length_nil, List.replicate_succ, List.replicate_zero, List.replicate, List.getElem?_cons_zero, List.getElem?_cons_succ, List.set_cons_zero, List.set_cons_succ, Option.some.injEq, exists_eq_left', exists_eq_left, D.int.injEq, D.bl.injEq, D.obj.injEq, keyD, keysD, fSet, mAppend, mInsert, mPop, mReverse, mClear, WS.put_same, dkD, lookD, truD, seqD, wipeD, List.set_nil]
    refine ⟨_, by rw [List.getElem?_set_ne (by decide)]; exact q10, rfl, _, by rw [List.getElem?_set_self hl], _, dget_mk W _ q lo rfl, ?_⟩
    have eg : ((getI lo q).map D.int).getD (.int 0) = .int (lookI q lo) := by
      unfold lookI
      cases getI lo q <;> rfl
    rw [eg]
    refine ⟨sz_small (by omega), lc_line q10 hl nn (lo + 1) _ P (by rw [List.length_append, List.length_singleton]; omega) ?_⟩
    rw [List.range_succ_eq_map, List.map_cons, List.map_map] at h
    rw [List.append_assoc, List.singleton_append]
    have e1 : lookI q (lo + ((0 : Nat) : Int)) = lookI q lo := by rw [show lo + ((0 : Nat) : Int) = lo by omega]
    rw [e1] at h
    have e2 : ((fun i : Nat => D.int (lookI q (lo + (i : Int)))) ∘ Nat.succ) = fun i : Nat => D.int (lookI q (lo + 1 + (i : Int))) := by
      funext i
      show D.int _ = D.int _
      rw [show lo + ((i.succ : Nat) : Int) = lo + 1 + (i : Int) by push_cast; omega]
    rw [e2] at h
    exact h
end DL

set_option maxRecDepth 100000
set_option maxHeartbeats 4000000
set_option linter.all false
namespace DL
open PySem PySem.Spec PyProof.Rows L2
/-- what stays over the turns -/
structure At6 (C a b : Addr) (p : Int) (ts ps rs : IP) (L : List IP) (n : Nat) : Prop where
  hk : Kind p ts
  perm : ps.Perm (swapI ts)
  hq : Parts p ps
  hs : Asc rs
  hv : Vl p rs
  win : Win40 rs
  walk : Walk p ts rs L
  len : L.length = n
  few : n ≤ 40
  bd : ∀ r ∈ rs :: L, ∀ q ∈ r, -(10 ^ 32) ≤ q.1 ∧ q.1 ≤ 10 ^ 32
theorem edge6 {C a b : Addr} {p : Int} {ts ps rs : IP} {L : List IP} {n i : Nat} {d1 d3 d8 x4 x10 x11 x12 x13 x14 x15 : Option D} {PX : XP} {P : WEnds} {R : WStm} {W : WS} {m : Nat} {q : IP} (H : At6 C a b p ts ps rs L n) (q1 : (rs :: L)[i]? = some q) (hp : PoolOk W a m) (hm : m ≤ 900000)
    (h : ∀ (e : Int) W', -(10 ^ 32) ≤ e → e ≤ 10 ^ 32 → ExB [a] W W' → PoolOk W' a (m + 2) → R PX P [some (.obj a), d1, some (.int n), d3, x4, some (.int i), some (.obj b), some (.lst (rs.map prD)), d8, some (.lst ((rs :: L).map dkI)), some (dkI q), some (.int e), x12, x13, x14, x15] W') :
    (wSeq (wAsg (wBin fGet (wVar 9) (wVar 5)) (.nm 10)) (
wSeq (wAsg (wIte (wAnd (wB (wBin (fEqD true) (wVar 10) (wVal (wDnK)))) (wB (wBin (fEqK false) (wCall (sp__law_draw C) (wCons (wVar 0) (wCons (wC (.int 2)) (wNil)))) (wC (.int 0))))) (wApp fMin (wCons (wVal (wAppF fListK (wCons (wVar 10) (wNil)))) (wNil))) (wBin fSub (wCall (sp__law_draw C) (wCons (wVar 0) (wCons (wC (.int 99)) (wNil)))) (wC (.int 50)))) (.nm 11)) R)) PX P [some (.obj a), d1, some (.int n), d3, x4, some (.int i), some (.obj b), some (.lst (rs.map prD)), d8, some (.lst ((rs :: L).map dkI)), x10, x11, x12, x13, x14, x15] W := by
  have hqm : q ∈ rs :: L := List.mem_of_getElem? q1
  simp only [wRaise, wTry, wXVal, wXIs, wXIsV, wCallX, fMulS, wSeq, wLRg1, wLRg2, wRngB, mExtend, wSetIxN, wBoxN, fNotInN, fGetN, wForEn, wSealQ, wPopD, wRep, wAug, wAsg, wSkip, wIf, wRet, wRetN, wDrop, wB, wTru, wBin, wUn, wApp, wAppF, wVal, wBox, wVar, wC, wFrz, wCons, wNil, wLst, wTup, wPar2, wPar3, wSetIx, wSetFld, wMu, wAnd, wOr, wNot, wAndV, wOrV, wNotV, wIte, wChain, wGet2, wFld, wProp, wMeth, wMethK, wCall, wCallK, wMakeK, wSeal, wOwn, wDisp, wPs, wDnK, wSortIt, wRev, wSlc, wONo, wOYes, wFor, wForLk, wIter, wRng1, wRng2, wEnum, wLc, wLcLk, wDc, wDcLk, wSetV, wSetB, wNo, wNoE, wYes, fAdd, fSub, fMul, fDiv, fMod, fPow, fLt, fLe, fGt, fGe, fNeg, fIsN, fNotN, isN, fInt, fAbs, bindG, Ob.toD, env0, List.map_cons, List.map_nil, List.cons_append, List.nil_append, List.append_nil, List.length_cons, List.length_nil, List.replicate_succ, List.replicate_zero, List.replicate, List.getElem?_cons_zero, List.getElem?_cons_succ, List.set_cons_zero, List.set_cons_succ, Option.some.injEq, exists_eq_left', exists_eq_left, D.int.injEq, D.bl.injEq, D.obj.injEq, keyD, keysD, fSet, mAppend, mInsert, mPop, mReverse, mClear, WS.put_same, dkD, lookD, truD, seqD, wipeD, List.set_nil]
  refine fGet_lst (ds := (rs :: L).map dkI) rfl (x := dkI q) (atI_nat (by rw [List.getElem?_map, q1]; rfl)) ?_
  refine ⟨_, rfl, rfl, _, rfl, ?_⟩
  rw [if_pos rfl]
  have other : ∀ W' k, ExB [a] W W' → PoolOk W' a k → k ≤ m + 1 → sp__law_draw C [D.obj a, D.int 99] W' (fun d W2 => match d, D.int 50, W2, fun d => R PX P [some (.obj a), d1, some (.int n), d3, x4, some (.int i), some (.obj b), some (.lst (rs.map prD)), d8, some (.lst ((rs :: L).map dkI)), some (dkI q), some d, x12, x13, x14, x15] W2 with
      | D.int i, D.int j, x, P => P (D.int (i - j))
      | x, x_1, x_2, x_3 => False) PX := fun W' k e' p' hk => by
    refine draw_ok p' (by decide) (by decide) (by omega) fun r W2 r0 r1 e2 k2 p2 => ?_
    exact h (r - 50) W2 (by omega) (by omega) (e'.trans e2) (p2.more (by omega))
  cases q with
  | nil => exact other W m ExB.refl hp (by omega)
  | cons z q =>
    refine draw_ok hp (by decide) (by decide) (by omega) fun r1 W1 r10 r11 e1 k1 p1 => ?_
    refine eqK_int ⟨_, rfl, ?_⟩
    rw [if_neg Bool.false_ne_true]
    by_cases hr : r1 = 0
    · rw [decide_eq_true hr]
      refine ⟨_, rfl, _, _, rfl, by rw [keys_int]; exact intsD_map _, by rw [List.length_map, List.length_cons]; omega, fun e he _ => ?_⟩
      obtain ⟨y, hy, rfl⟩ := List.mem_map.mp he
      have := H.bd _ hqm y hy
      exact h y.1 W1 this.1 this.2 e1 (p1.more (by omega))
    · rw [decide_eq_false hr]
      exact other W1 (m + 1) e1 p1 (by omega)
theorem plvs_fn (W : WS) (f : Nat → Int) : ∀ l : List Nat, PlVs W (l.map fun j => D.int (f j)) (l.map fun j => PyData.int (f j))
  | [] => .nil
  | j :: l => .cons (.int _) (plvs_fn W f l)
def lineP (p : Int) (ps cs : IP) (n : Nat) (lo : Int) (m : Nat) : PyData := .list ((List.range m).map fun i => .int (FarV p ps cs n (lo + (i : Nat))))
theorem ok_fn (f : Nat → Int) (hf : ∀ j, (f j).natAbs < 10 ^ 40) : ∀ l : List Nat, okPs (l.map fun j => PyData.int (f j)) = true ∧ szPs (l.map fun j => PyData.int (f j)) = l.length ∧ PyData.depthAll (l.map fun j => PyData.int (f j)) = 0
  | [] => ⟨rfl, rfl, rfl⟩
  | j :: l => by
    obtain ⟨a, b, c⟩ := ok_fn f hf l
    refine ⟨?_, ?_, ?_⟩
    · simp only [List.map_cons, okPs, okP, a, decide_eq_true (hf j), Bool.and_self]
    · simp only [List.map_cons, szPs, szP, b, List.length_cons]; omega
    · simp only [List.map_cons, PyData.depthAll, PyData.depth, c]; rfl
theorem line_ok {p : Int} (hp : 0 < p) (hp5 : p ≤ 5) (ps cs : IP) (n : Nat) (lo : Int) (m : Nat) : okP (lineP p ps cs n lo m) = true ∧ szP (lineP p ps cs n lo m) = 1 + m ∧ (lineP p ps cs n lo m).depth = 1 := by
  obtain ⟨a, b, c⟩ := ok_fn (fun j : Nat => FarV p ps cs n (lo + (j : Nat))) (fun j => by
    have h0 : 0 ≤ FarV p ps cs n (lo + (j : Nat)) := Int.emod_nonneg _ (by omega)
    have h1 : FarV p ps cs n (lo + (j : Nat)) < p := Int.emod_lt_of_pos _ hp
    omega) (List.range m)
  unfold lineP
  refine ⟨by simp only [okP]; exact a, ?_, ?_⟩
  · simp only [szP, b, List.length_range]
  · simp only [PyData.depth, c]
theorem plv_line (W : WS) (p : Int) (ps cs : IP) (n : Nat) (lo : Int) (m : Nat) : PlVs W (lineV p ps cs n lo m) ((List.range m).map fun i => .int (FarV p ps cs n (lo + (i : Nat)))) := plvs_fn W _ _
theorem turn6 {C a b : Addr} {p : Int} {ts ps rs : IP} {L : List IP} {n : Nat} {d1 d3 d8 : Option D} {PX : XP} {P : WEnds} (H : At6 C a b p ts ps rs L n) : ∀ (is : List Int) (x4 x5 x10 x11 x12 x13 x14 x15 : Option D) (W : WS) (m : Nat), (∀ t ∈ is, 0 ≤ t ∧ t ≤ n) → PoolOk W a m → RuleAt C W b p ps → m + 10 * is.length ≤ 900000 →
    (∀ x4 x5 x10 x11 x12 x13 x14 x15 W', ExB [a] W W' → PoolOk W' a (m + 10 * is.length) → RuleAt C W' b p ps → P.nx [some (.obj a), d1, some (.int n), d3, x4, x5, some (.obj b), some (.lst (rs.map prD)), d8, some (.lst ((rs :: L).map dkI)), x10, x11, x12, x13, x14, x15] W') →
    forW (.nm 5) (b__law_right_1 C) PX P (is.map D.int) [some (.obj a), d1, some (.int n), d3, x4, x5, some (.obj b), some (.lst (rs.map prD)), d8, some (.lst ((rs :: L).map dkI)), x10, x11, x12, x13, x14, x15] W
  | [], x4, x5, x10, x11, x12, x13, x14, x15, W, m, _, hp, hr, hm, K => K _ _ _ _ _ _ _ _ W ExB.refl hp hr
  | t :: is, x4, x5, x10, x11, x12, x13, x14, x15, W, m, ht, hp, hr, hm, K => by
    have ih := turn6 (C := C) (d1 := d1) (d3 := d3) (d8 := d8) (PX := PX) (P := P) H is (a := a) (b := b)
    have hp0 : 0 < p := by rcases H.hq.pr with h | h | h <;> omega
    obtain ⟨t0, t1⟩ := ht t List.mem_cons_self
    obtain ⟨i, rfl⟩ : ∃ i : Nat, t = i := ⟨t.toNat, by omega⟩
    have hi : i ≤ n := by omega
    obtain ⟨q, q1, q2, q3, q4⟩ := walk_far hp0 H.perm L rs 0 H.hs.nodup H.hv (mul_one' rs).symm.mod H.walk i (by rw [H.len]; exact hi)
    rw [Nat.zero_add] at q4
    have hqm : q ∈ rs :: L := List.mem_of_getElem? q1
    rw [List.map_cons]
    show bindG _ _ _ _
    generalize hK : forW (.nm 5) (b__law_right_1 C) PX P (is.map D.int) = Kf
    simp only [hK] at ih
    unfold b__law_right_1
    refine edge6 (i := i) H q1 hp (by omega) fun e W1 eb1 eb2 e1 p1 => ?_
    simp only [wRaise, wTry, wXVal, wXIs, wXIsV, wCallX, fMulS, wSeq, wLRg1, wLRg2, wRngB, mExtend, wSetIxN, wBoxN, fNotInN, fGetN, wForEn, wSealQ, wPopD, wRep, wAug, wAsg, wSkip, wIf, wRet, wRetN, wDrop, wB, wTru, wBin, wUn, wApp, wAppF, wVal, wBox, wVar, wC, wFrz, wCons, wNil, wLst, wTup, wPar2, wPar3, wSetIx, wSetFld, wMu, wAnd, wOr, wNot, wAndV, wOrV, wNotV, wIte, wChain, wGet2, wFld, wProp, wMeth, wMethK, wCall, wCallK, wMakeK, wSeal, wOwn, wDisp, wPs, wDnK, wSortIt, wRev, wSlc, wONo, wOYes, wFor, wForLk, wIter, wRng1, wRng2, wEnum, wLc, wLcLk, wDc, wDcLk, wSetV, wSetB, wNo, wNoE, wYes, fAdd, fSub, fMul, fDiv, fMod, fPow, fLt, fLe, fGt, fGe, fNeg, fIsN, fNotN, isN, fInt, fAbs, bindG, Ob.toD, env0, List.map_cons, List.map_nil, List.cons_append, List.nil_append, List.append_nil, List.length_cons, List.length_nil, List.replicate_succ, List.replicate_zero, List.replicate, List.getElem?_cons_zero, List.getElem?_cons_succ, List.set_cons_zero, List.set_cons_succ, Option.some.injEq, exists_eq_left', exists_eq_left, D.int.injEq, D.bl.injEq, D.obj.injEq, keyD, keysD, fSet, mAppend, mInsert, mPop, mReverse, mClear, WS.put_same, dkD, lookD, truD, seqD, wipeD, List.set_nil]
    refine draw_ok p1 (by decide) (by decide) (by omega) fun r1 W2 r10 r11 e2 k2 p2 => ?_
    simp only [wRaise, wTry, wXVal, wXIs, wXIsV, wCallX, fMulS, wSeq, wLRg1, wLRg2, wRngB, mExtend, wSetIxN, wBoxN, fNotInN, fGetN, wForEn, wSealQ, wPopD, wRep, wAug, wAsg, wSkip, wIf, wRet, wRetN, wDrop, wB, wTru, wBin, wUn, wApp, wAppF, wVal, wBox, wVar, wC, wFrz, wCons, wNil, wLst, wTup, wPar2, wPar3, wSetIx, wSetFld, wMu, wAnd, wOr, wNot, wAndV, wOrV, wNotV, wIte, wChain, wGet2, wFld, wProp, wMeth, wMethK, wCall, wCallK, wMakeK, wSeal, wOwn, wDisp, wPs, wDnK, wSortIt, wRev, wSlc, wONo, wOYes, wFor, wForLk, wIter, wRng1, wRng2, wEnum, wLc, wLcLk, wDc, wDcLk, wSetV, wSetB, wNo, wNoE, wYes, fAdd, fSub, fMul, fDiv, fMod, fPow, fLt, fLe, fGt, fGe, fNeg, fIsN, fNotN, isN, fInt, fAbs, bindG, Ob.toD, env0, List.map_cons, List.map_nil, List.cons_append, List.nil_append, List.append_nil, List.length_cons, List.length_nil, List.replicate_succ, List.replicate_zero, List.replicate, List.getElem?_cons_zero, List.getElem?_cons_succ, List.set_cons_zero, List.set_cons_succ, Option.some.injEq, exists_eq_left', exists_eq_left, D.int.injEq, D.bl.injEq, D.obj.injEq, keyD, keysD, fSet, mAppend, mInsert, mPop, mReverse, mClear, WS.put_same, dkD, lookD, truD, seqD, wipeD, List.set_nil]
    refine draw_ok p2 (by decide) (by decide) (by omega) fun r2 W3 r20 r21 e3 k3 p3 => ⟨by decide, ?_⟩
    refine fGet_tup (ds := [.int (e - r1), .int (e + r2)]) rfl (x := .int (e - r1)) (atI_nat (i := 0) rfl) (fGet_tup (ds := [.int (e - r1), .int (e + r2)]) rfl (x := .int (e + r2)) (atI_nat (i := 1) rfl) ?_)
    refine lc_line (q := q) rfl (by show 15 < 16; decide) _ _ _ _ (by rw [List.length_nil]; omega) ?_
    have X3 : ExB [a] W W3 := (e1.trans e2).trans e3
    have hba : b ∉ [a] := fun z => by
      obtain ⟨_, _, _, hw, _⟩ := hp.ex
      obtain ⟨_, _, hb, _⟩ := hr.ex
      rw [List.mem_singleton.mp z, hw] at hb; cases hb
    have hr3 : RuleAt C W3 b p ps := hr.keep X3 hba (pool_pw hp hp0)
    have eL : ∀ k, ([] ++ (List.range k).map fun j : Nat => D.int (lookI q (e - r1 + (j : Int)))) = lineV p ps rs i (e - r1) k := fun k => by
      rw [List.nil_append]
      unfold lineV
      refine List.map_congr_left fun j _ => ?_
      rw [q4]
    have ek : (e + r2 + 1 - (e - r1)).toNat = (e + r2 - (e - r1) + 1).toNat := by omega
    rw [eL, ek]
    generalize hlo : e - r1 = lo
    generalize hhi : e + r2 = hi
    have hlen : 1 ≤ (hi - lo + 1).toNat ∧ (hi - lo + 1).toNat ≤ 64 := by omega
    generalize hkk : (hi - lo + 1).toNat = kk at hlen
    obtain ⟨lo0, hw0⟩ := H.win
    have hfew := H.few
    have h6 : (i : Int).toNat < p.toNat ^ 6 := by
      have e : (2 : Nat) ^ 6 ≤ p.toNat ^ 6 := Nat.pow_le_pow_left (by rcases H.hq.pr with h | h | h <;> omega) 6
      have : (2 : Nat) ^ 6 = 64 := by decide
      omega
    obtain ⟨U, u1, u2⟩ := small_reach (ps := ps) H.hq.pr 6 rs i lo hi h6
    have cells : ∀ W', RuleAt C W' b p ps → ∀ (Q : D → WS → Prop) (PX : XP), (∀ c W'', W' c = none → W'' c = some (.lst (lineV p ps rs i lo kk)) → ExB [] W' W'' → Q (.obj c) W'') → sp_cells_between C [.obj b, .lst (rs.map prD), .int i, .int lo, .int hi] W' Q PX := fun W' hr' Q PX K' => by
      refine ⟨b, p, ps, rs, lo0, lo0 + 50, U, i, lo, hi, rfl, hr', H.hq, H.hs, H.hv, hw0, by omega, by omega, by omega, by omega, by omega, by omega, ?_, ?_, u1, Nat.lt_of_le_of_lt u2 (sz_small (by decide)), fun c W'' g1 g2 g3 => K' c W'' g1 (by rw [hkk] at g2; exact g2) g3⟩
      · unfold bigB; omega
      · unfold bigB; omega
    refine fGet_tup (ds := [.int lo, .int hi]) rfl (x := .int lo) (atI_nat (i := 0) rfl) (fGet_tup (ds := [.int lo, .int hi]) rfl (x := .int hi) (atI_nat (i := 1) rfl) ?_)
    refine cells W3 hr3 _ _ fun c1 W4 hc1 hw4 e4 => ⟨by decide, fun f hf => ?_⟩
    have hr4 := hr3.keep e4 (by simp)
    have e5 : ExB [] W4 (W4.put f (.lst [.obj c1])) := ExB.put (.inr hf)
    have hc1f : c1 ≠ f := fun z => by rw [z, hf] at hw4; cases hw4
    have hr5 := hr4.keep e5 (by simp)
    have w5c : (W4.put f (.lst [.obj c1])) c1 = some (.lst (lineV p ps rs i lo kk)) := by rw [WS.put_ne hc1f]; exact hw4
    have w5f : (W4.put f (.lst [.obj c1])) f = some (.lst [.obj c1]) := WS.put_same
    generalize W4.put f (.lst [.obj c1]) = W5 at e5 hr5 w5c w5f ⊢
    refine ⟨⟨_, rfl⟩, fGet_tup (ds := [.int lo, .int hi]) rfl (x := .int hi) (atI_nat (i := 1) rfl) (fGet_tup (ds := [.int lo, .int hi]) rfl (x := .int lo) (atI_nat (i := 0) rfl) ⟨trivial, trivial, ?_⟩)⟩
    refine cells W5 hr5 _ _ fun c2 W6 hc2 hw6 e6 => ⟨c2, _, rfl, hw6, ?_⟩
    have hfc2 : f ≠ c2 := fun z => by rw [z, hc2] at w5f; cases w5f
    have hc12 : c1 ≠ c2 := fun z => by rw [z, hc2] at w5c; cases w5c
    have w6f : (W6.del c2) f = some (.lst [.obj c1]) := by rw [WS.del_ne hfc2]; exact e6 f _ (by simp) w5f
    have w6c : (W6.del c2) c1 = some (.lst (lineV p ps rs i lo kk)) := by rw [WS.del_ne hc12]; exact e6 c1 _ (by simp) w5c
    have hf3 : W3 f = none := e4.was hf
    have e36 : ExB [] W3 (W6.del c2) := ((e4.trans e5).trans e6).delN (((e4.trans e5)).was hc2)
    refine ⟨_, w6f, sz_small (by show 1 ≤ 10000000; decide), ?_⟩
    have e37 : ExB [] W3 ((W6.del c2).put f (.lst ([.obj c1] ++ [.lst (lineV p ps rs i lo kk)]))) := e36.putN hf3
    have w7c : ((W6.del c2).put f (.lst ([.obj c1] ++ [.lst (lineV p ps rs i lo kk)]))) c1 = some (.lst (lineV p ps rs i lo kk)) := by rw [WS.put_ne hc1f]; exact w6c
    have w7f : ((W6.del c2).put f (.lst ([.obj c1] ++ [.lst (lineV p ps rs i lo kk)]))) f = some (.lst ([.obj c1] ++ [.lst (lineV p ps rs i lo kk)])) := WS.put_same
    dsimp only
    generalize (W6.del c2).put f (.lst ([.obj c1] ++ [.lst (lineV p ps rs i lo kk)])) = W7 at e37 w7c w7f ⊢
    have hp5 : p ≤ 5 := by rcases H.hq.pr with h | h | h <;> omega
    obtain ⟨l1, l2, l3⟩ := line_ok hp0 hp5 ps rs i lo kk
    have ok2 : okP (.list [lineP p ps rs i lo kk, lineP p ps rs i lo kk]) = true := by simp only [okP, okPs, l1]; decide
    have sz2 : szP (.list [lineP p ps rs i lo kk, lineP p ps rs i lo kk]) ≤ 2500 := by simp only [szP, szPs, l2]; omega
    have dp2 : (PyData.list [lineP p ps rs i lo kk, lineP p ps rs i lo kk]).depth ≤ 60 := by simp only [PyData.depth, PyData.depthAll, l3]; decide
    refine reprV_ok (p := .list [lineP p ps rs i lo kk, lineP p ps rs i lo kk]) (.obj w7f (.cons (.obj w7c (plv_line ..)) (.cons (.lst (plv_line ..)) .nil))) ok2 sz2 dp2 ⟨by decide, ?_⟩
    refine reprV_ok (p := .list [lineP p ps rs i lo kk, lineP p ps rs i lo kk]) (.lst (.cons (.lst (plv_line ..)) (.cons (.lst (plv_line ..)) .nil))) ok2 sz2 dp2 ?_
    have e : ∀ x : Str, (if true = true then !decide (x = x) else decide (x = x)) = false := fun x => by simp
    unfold fEqS
    simp only [e]
    refine ⟨_, rfl, ?_⟩
    refine fGet_lst (view_ob w7f) (x := .obj c1) (atI_nat (i := 0) rfl) ⟨_, rfl, ⟨_, w7c⟩, _, w7c, ?_⟩
    dsimp only
    have hc13 : W3 c1 = none := hc1
    have e38 : ExB [] W3 (W7.put c1 (.lst [])) := e37.putN hc13
    generalize W7.put c1 (.lst []) = W8 at e38 ⊢
    refine fGet_tup (ds := [.int lo, .int hi]) rfl (x := .int lo) (atI_nat (i := 0) rfl) ?_
    have p8 : PoolOk W8 a (m + 4) := p3.ext e38 (by simp)
    have hll : (lineV p ps rs i lo kk).length = kk := by unfold lineV; rw [List.length_map, List.length_range]
    simp only [fLen, view, hll]
    refine draw_ok p8 (by omega) (by omega) (by omega) fun r3 W9 r30 r31 e9 k9 p9 => ?_
    have X9 : ExB [a] W W9 := (X3.trans (e38.mono (by simp))).trans e9
    have hr9 : RuleAt C W9 b p ps := hr.keep X9 hba (pool_pw hp hp0)
    refine ⟨b, p, ps, rs, lo0, lo0 + 50, i, lo + r3, rfl, hr9, H.hq, H.hs, H.hv, hw0, by omega, by omega, by omega, fun W10 e10 => ⟨trivial, trivial, ?_⟩⟩
    refine ⟨b, p, ps, rs, lo0, lo0 + 50, i, lo + r3, rfl, hr9.keep e10 (by simp), H.hq, H.hs, H.hv, hw0, by omega, by omega, by omega, fun W11 e11 => ⟨by decide, fun g hg => ?_⟩⟩
    have hF : (FarV p ps rs (i : Int).toNat (lo + r3)).natAbs < 10 ^ 40 := by
      have h0 : 0 ≤ FarV p ps rs (i : Int).toNat (lo + r3) := Int.emod_nonneg _ (by omega)
      have h1 : FarV p ps rs (i : Int).toNat (lo + r3) < p := Int.emod_lt_of_pos _ hp0
      omega
    have hFq : lookI q (lo + r3) = FarV p ps rs (i : Int).toNat (lo + r3) := q4 _
    generalize FarV p ps rs (i : Int).toNat (lo + r3) = F at hF hFq
    have okF : okP (.list [.int F, .int F]) = true := by simp only [okP, okPs, decide_eq_true hF]; decide
    have szF : szP (.list [.int F, .int F]) ≤ 2500 := by simp only [szP, szPs]; decide
    have dpF : (PyData.list [.int F, .int F]).depth ≤ 60 := by simp only [PyData.depth, PyData.depthAll]; decide
    refine reprV_ok (p := .list [.int F, .int F]) (.obj WS.put_same (.cons (.int _) (.cons (.int _) .nil))) okF szF dpF ?_
    have eg : ((getI (lo + r3) q).map D.int).getD (.int 0) = .int F := by
      rw [← hFq]
      unfold lookI
      cases getI (lo + r3) q <;> rfl
    refine ⟨rfl, _, dget_mk _ _ q (lo + r3) rfl, by decide, [.int F], 2, ?_, rfl, by decide, by decide, by show 2 ≤ sizeLine; decide, ?_⟩
    · rw [eg]; rfl
    refine reprV_ok (p := .list [.int F, .int F]) (.lst (.cons (.int _) (.cons (.int _) .nil))) okF szF dpF ?_
    refine ⟨false, ?_, ?_⟩
    · simp
    have X11 : ExB [a] W (W11.put g (.lst [.int F, .int F])) := ((X9.trans (e10.mono (by simp))).trans (e11.mono (by simp))).trans (ExB.put (.inr hg))
    exact ih _ _ _ _ _ _ _ _ _ (m + 10) (fun t ht' => ht t (List.mem_cons_of_mem _ ht')) (((p9.ext e10 (by simp)).ext (e11.trans (ExB.put (.inr hg))) (by simp)).more (by omega)) (hr.keep X11 hba (pool_pw hp hp0)) (by rw [List.length_cons] at hm; omega) fun x4 x5 x10 x11 x12 x13 x14 x15 W' e' p' r' => K x4 x5 x10 x11 x12 x13 x14 x15 W' (X11.trans e') (by rw [List.length_cons, show m + 10 * (is.length + 1) = m + 10 + 10 * is.length by omega]; exact p') r'
end DL

set_option maxRecDepth 100000
set_option maxHeartbeats 4000000
set_option linter.all false
namespace DL
open PySem PySem.Spec PyProof.Rows L2
theorem pick_int {ns : List Int} {r : Int} (h0 : 0 ≤ r) (h1 : r < ns.length) : ∃ z, atI (ns.map D.int) r = some (.int z) ∧ z ∈ ns := by
  obtain ⟨i, rfl⟩ : ∃ i : Nat, r = i := ⟨r.toNat, by omega⟩
  have hi : i < ns.length := by omega
  exact ⟨ns[i], atI_nat (by rw [List.getElem?_map, List.getElem?_eq_getElem hi]; rfl), List.getElem_mem hi⟩
theorem plvs_rowD (W : WS) : ∀ L : List IP, PlVs W (L.map rowD) (L.map pRow)
  | [] => .nil
  | r :: L => .cons (plv_row W r) (plvs_rowD W L)
theorem ok_rowsB : ∀ {L : List IP}, (∀ r ∈ L, okR r) → okPs (L.map pRow) = true
  | [], _ => rfl
  | r :: L, h => by
    simp only [List.map_cons, okPs, ok_row (h r List.mem_cons_self), ok_rowsB (L := L) fun z hz => h z (List.mem_cons_of_mem _ hz), Bool.and_self]
theorem dp_rowsB : ∀ L : List IP, PyData.depthAll (L.map pRow) ≤ 2
  | [] => by simp only [List.map_nil, PyData.depthAll]; omega
  | r :: L => by
    have := dp_row r
    have := dp_rowsB L
    simp only [List.map_cons, PyData.depthAll]; omega
theorem walk_nd {p : Int} {ts : IP} : ∀ {L : List IP} {cur : IP}, Walk p ts cur L → ∀ q ∈ L, (q.map (·.1)).Nodup
  | [], _, _, _, h => by cases h
  | q :: L, _, w, z, h => by
    rcases List.mem_cons.mp h with rfl | h
    · exact w.1
    · exact walk_nd w.2.2.2 z h
theorem q4_near {C a b : Addr} {p : Int} {ts ps rs : IP} {n : Nat} {m : Nat} {W : WS} {P : WEnds} {PX : XP} (hk : Kind p ts) (hperm : ps.Perm (swapI ts)) (hq : Parts p ps) (hwd : ∀ q ∈ ps, ∀ z ∈ ps, q.1 - z.1 ≤ 4) (hs : Asc rs) (hv : Vl p rs) (hw : Win40 rs) (hb : Bd (10 ^ 31) rs) (hn : n ≤ 40) (hp : PoolOk W a m) (hr : RuleAt C W b p ps) (hm : m ≤ 899000)
    (h : ∀ W', PoolOk W' a (m + 100) → P.rt (.bl true) W') :
    q__law_right_4 C PX P [some (.obj a), some (.tup [.int p, .lst (ts.map prD)]), some (.int n), none, none, none, some (.obj b), some (.lst (rs.map prD)), none, none, none, none, none, none, none, none] W := by
  have hp0 : 0 < p := by rcases hq.pr with h | h | h <;> omega
  obtain ⟨lo, hw0⟩ := id hw
  generalize hB : b__law_right_1 C = Bd
  simp only [q__law_right_4, wRaise, wTry, wXVal, wXIs, wXIsV, wCallX, fMulS, wSeq, wLRg1, wLRg2, wRngB, mExtend, wSetIxN, wBoxN, fNotInN, fGetN, wForEn, wSealQ, wPopD, wRep, wAug, wAsg, wSkip, wIf, wRet, wRetN, wDrop, wB, wTru, wBin, wUn, wApp, wAppF, wVal, wBox, wVar, wC, wFrz, wCons, wNil, wLst, wTup, wPar2, wPar3, wSetIx, wSetFld, wMu, wAnd, wOr, wNot, wAndV, wOrV, wNotV, wIte, wChain, wGet2, wFld, wProp, wMeth, wMethK, wCall, wCallK, wMakeK, wSeal, wOwn, wDisp, wPs, wDnK, wSortIt, wRev, wSlc, wONo, wOYes, wFor, wForLk, wIter, wRng1, wRng2, wEnum, wLc, wLcLk, wDc, wDcLk, wSetV, wSetB, wNo, wNoE, wYes, fAdd, fSub, fMul, fDiv, fMod, fPow, fLt, fLe, fGt, fGe, fNeg, fIsN, fNotN, isN, fInt, fAbs, bindG, Ob.toD, env0, List.map_cons, List.map_nil, List.cons_append, List.nil_append, List.append_nil, List.length_cons, List.length_nil, List.replicate_succ, List.replicate_zero, List.replicate, List.getElem?_cons_zero, List.getElem?_cons_succ, List.set_cons_zero, List.set_cons_succ, Option.some.injEq, exists_eq_left', exists_eq_left, D.int.injEq, D.bl.injEq, D.obj.injEq, keyD, keysD, fSet, mAppend, mInsert, mPop, mReverse, mClear, WS.put_same, dkD, lookD, truD, seqD, wipeD, List.set_nil, hB]
  refine fList_lst rfl ?_
  refine ⟨p, ts, rs, n, lo, lo + 50, rfl, hk, hs, hv, hw0, by omega, by omega, by omega, by omega, fun L W1 hwk hL e1 => ⟨_, rfl, ?_⟩⟩
  have hL : L.length = n := by omega
  refine lc_lines (j := 10) (by show 10 < 16; decide) (rs :: L) [] _ (fun q hq => ?_) (by rw [List.length_nil, List.length_cons]; exact sz_small (by omega)) fun S hS => ?_
  · rcases List.mem_cons.mp hq with rfl | hq
    · exact hs.nodup
    · exact walk_nd hwk q hq
  rw [List.nil_append]
  have hr1 := hr.keep e1 (by simp)
  refine ⟨b, p, ps, rs, lo, lo + 50, n, rfl, hr1, hq, hs, hv, hw0, by omega, by omega, hn, fun L' g c W2 hc hL' hg hcn hcg e2 w2g w2c => ?_⟩
  have eS := rows_same hp0 hperm hs hv hwk hS hc (by omega)
  subst eS
  have R := rows6 hq hwd hs hv hw hb hc (by omega)
  have rows : ∀ W', RuleAt C W' b p ps → ∀ (Q : D → WS → Prop) (PX : XP), (∀ g c W'', W' g = none → W' c = none → c ≠ g → ExB [] W' W'' → W'' g = some (.lst (.obj c :: L'.map rowD)) → W'' c = some (.lst (rs.map prD)) → Q (.obj g) W'') → sp_rows_untilO C [.obj b, .lst (rs.map prD), .int n] W' Q PX := fun W' hr' Q PX K' => by
    refine ⟨b, p, ps, rs, lo, lo + 50, n, rfl, hr', hq, hs, hv, hw0, by omega, by omega, hn, fun L2 g c W'' hc2 hL2 g1 g2 g3 g4 g5 g6 => ?_⟩
    have e := rows_same hp0 hperm hs hv hwk hS hc2 (by omega)
    injection e with _ e
    subst e
    exact K' g c W'' g1 g2 g3 g4 g5 g6
  have hr2 := hr1.keep e2 (by simp)
  refine ⟨trivial, trivial, ?_⟩
  refine rows W2 hr2 _ _ fun g2 c2 W3 hg2 hc2 hcg2 e3 w3g2 w3c2 => ⟨g2, _, rfl, w3g2, by decide, ?_⟩
  have ngg : g ≠ g2 := fun z => by rw [z, hg2] at w2g; cases w2g
  have ncg : c ≠ g2 := fun z => by rw [z, hg2] at w2c; cases w2c
  have w3g : (W3.del g2) g = some (.lst (.obj c :: L'.map rowD)) := by rw [WS.del_ne ngg]; exact e3 g _ (by simp) w2g
  have w3c : (W3.del g2) c = some (.lst (rs.map prD)) := by rw [WS.del_ne ncg]; exact e3 c _ (by simp) w2c
  have w3d : (W3.del g2) c2 = some (.lst (rs.map prD)) := by rw [WS.del_ne hcg2]; exact w3c2
  have E3 : ExB [] W1 (W3.del g2) := (e2.trans e3).delN (e2.was hg2)
  generalize W3.del g2 = W4 at w3g w3c w3d E3 ⊢
  have okA : okP (.list ((rs :: L').map pRow)) = true := by simp only [okP]; exact ok_rowsB R.ok
  have bkA : (PyData.list ((rs :: L').map pRow)).bulk ≤ 30000 := by
    have := bulk_rows (n := 211) (L := rs :: L') R.short
    have h41 := R.len
    have : (rs :: L').length * (1 + 3 * 211) ≤ 41 * 634 := Nat.mul_le_mul h41 (by decide)
    simp only [PyData.bulk]
    omega
  have dpA : (PyData.list ((rs :: L').map pRow)).depth ≤ 3 := by
    have := dp_rowsB (rs :: L')
    simp only [PyData.depth]; omega
  have plvO : ∀ W c, W c = some (.lst (rs.map prD)) → PlVs W (.obj c :: L'.map rowD) ((rs :: L').map pRow) := fun W c hc => .cons (plv_rowO hc) (plvs_rowD W L')
  have plvV : ∀ W, PlV W (.lst ((rs :: L').map rowD)) (.list ((rs :: L').map pRow)) := fun W => .lst (plvs_rowD W _)
  generalize hPP : PyData.list ((rs :: L').map pRow) = PP at okA bkA dpA
  have ok2 : okP (.list [PP, PP]) = true := by simp only [okP, okPs, okA]; decide
  have bk2 : (PyData.list [PP, PP]).bulk ≤ 380000 := by simp only [PyData.bulk, PyData.bulkAll]; omega
  have dp2 : (PyData.list [PP, PP]).depth ≤ 60 := by simp only [PyData.depth, PyData.depthAll]; omega
  refine reprV_big (p := .list [PP, PP]) (.lst (.cons (hPP ▸ .obj w3g (plvO W4 c w3c)) (.cons (hPP ▸ .lst (plvO W4 c2 w3d)) .nil))) ok2 bk2 dp2 ⟨by decide, ?_⟩
  refine reprV_big (p := .list [PP, PP]) (.lst (.cons (hPP ▸ plvV W4) (.cons (hPP ▸ plvV W4) .nil))) ok2 bk2 dp2 ?_
  refine ⟨false, by simp, ?_⟩
  refine fGet_lst (view_ob w3g) (x := .obj c) (atI_nat (i := 0) rfl) ⟨c, rfl, ⟨_, w3c⟩, by decide, _, w3c, ?_⟩
  have lrs : rs.length ≤ 211 := R.short rs List.mem_cons_self
  refine ⟨sz_small (by rw [List.length_map]; omega), g, rfl, ?_⟩
  have w5g : (W4.put c (.lst (rs.map prD ++ [.tup [.int 0, .int 1]]))) g = some (.lst (.obj c :: L'.map rowD)) := by rw [WS.put_ne (Ne.symm hcg)]; exact w3g
  have E5 : ExB [] W1 (W4.put c (.lst (rs.map prD ++ [.tup [.int 0, .int 1]]))) := E3.putN hcn
  generalize W4.put c (.lst (rs.map prD ++ [.tup [.int 0, .int 1]])) = W5 at w5g E5 ⊢
  refine ⟨⟨_, w5g⟩, _, w5g, ?_⟩
  obtain ⟨y, hy⟩ : ∃ y, (D.obj c :: L'.map rowD)[(D.obj c :: L'.map rowD).length - 1]? = some y := ⟨_, List.getElem?_eq_getElem (by rw [List.length_cons]; omega)⟩
  refine ⟨y, hy, ?_⟩
  dsimp only
  have E6 : ExB [] W1 (W5.put g (.lst (D.obj c :: L'.map rowD).dropLast)) := E5.putN hg
  generalize W5.put g (.lst (D.obj c :: L'.map rowD).dropLast) = W6 at E6 ⊢
  have p6 : PoolOk W6 a m := (hp.ext e1 (by simp)).ext E6 (by simp)
  refine draw_ok p6 (by omega) (by omega) (by omega) fun r W7 r0 r1 e7 k7 p7 => ⟨by decide, ?_⟩
  subst hB
  have X7 : ExB [a] W W7 := (((e1.trans E6).mono (by simp)).trans e7)
  have hba : b ∉ [a] := fun z => by
    obtain ⟨_, _, _, hw, _⟩ := hp.ex
    obtain ⟨_, _, hb, _⟩ := hr.ex
    rw [List.mem_singleton.mp z, hw] at hb; cases hb
  have hr7 : RuleAt C W7 b p ps := hr.keep X7 hba (pool_pw hp hp0)
  have H : At6 C a b p ts ps rs L n := ⟨hk, hperm, hq, hs, hv, hw, hwk, hL, hn, fun q hqm z hz => ?_⟩
  · refine turn6 H [0, (n : Int), r] _ _ _ _ _ _ _ _ W7 (m + 1) (fun t ht => ?_) p7 hr7 (by show m + 1 + 10 * 3 ≤ 900000; omega) fun x4 x5 x10 x11 x12 x13 x14 x15 W8 e8 p8 r8 => ?_
    · simp only [List.mem_cons, List.not_mem_nil, or_false] at ht
      rcases ht with rfl | rfl | rfl <;> omega
    simp only [wRaise, wTry, wXVal, wXIs, wXIsV, wCallX, fMulS, wSeq, wLRg1, wLRg2, wRngB, mExtend, wSetIxN, wBoxN, fNotInN, fGetN, wForEn, wSealQ, wPopD, wRep, wAug, wAsg, wSkip, wIf, wRet, wRetN, wDrop, wB, wTru, wBin, wUn, wApp, wAppF, wVal, wBox, wVar, wC, wFrz, wCons, wNil, wLst, wTup, wPar2, wPar3, wSetIx, wSetFld, wMu, wAnd, wOr, wNot, wAndV, wOrV, wNotV, wIte, wChain, wGet2, wFld, wProp, wMeth, wMethK, wCall, wCallK, wMakeK, wSeal, wOwn, wDisp, wPs, wDnK, wSortIt, wRev, wSlc, wONo, wOYes, wFor, wForLk, wIter, wRng1, wRng2, wEnum, wLc, wLcLk, wDc, wDcLk, wSetV, wSetB, wNo, wNoE, wYes, fAdd, fSub, fMul, fDiv, fMod, fPow, fLt, fLe, fGt, fGe, fNeg, fIsN, fNotN, isN, fInt, fAbs, bindG, Ob.toD, env0, List.map_cons, List.map_nil, List.cons_append, List.nil_append, List.append_nil, List.length_cons, List.length_nil, List.replicate_succ, List.replicate_zero, List.replicate, List.getElem?_cons_zero, List.getElem?_cons_succ, List.set_cons_zero, List.set_cons_succ, Option.some.injEq, exists_eq_left', exists_eq_left, D.int.injEq, D.bl.injEq, D.obj.injEq, keyD, keysD, fSet, mAppend, mInsert, mPop, mReverse, mClear, WS.put_same, dkD, lookD, truD, seqD, wipeD, List.set_nil]
    refine eqK_rows (ps := rs) (qs := rs) rfl rfl ?_
    rw [if_neg Bool.false_ne_true, decide_eq_true rfl]
    refine ⟨true, rfl, ?_⟩
    refine rows W8 r8 _ _ fun g3 c3 W9 hg3 hc3 hcg3 e9 w9g w9c => ⟨g3, _, rfl, w9g, ?_⟩
    have w9d : (W9.del g3) c3 = some (.lst (rs.map prD)) := by rw [WS.del_ne hcg3]; exact w9c
    have E9 : ExB [] W8 (W9.del g3) := e9.delN hg3
    generalize W9.del g3 = W10 at w9d E9 ⊢
    have bk1 : PP.bulk ≤ 380000 := by omega
    refine reprV_big (p := PP) (hPP ▸ .lst (plvO W10 c3 w9d)) okA bk1 (by omega) ?_
    refine reprV_big (p := PP) (hPP ▸ plvV W10) okA bk1 (by omega) ?_
    refine (show P.rt (D.bl (if (false : Bool) = true then !decide (PP.shown = PP.shown) else decide (PP.shown = PP.shown))) W10 from ?_)
    rw [if_neg Bool.false_ne_true, decide_eq_true rfl]
    exact h W10 ((p8.ext E9 (by simp)).more (by show m + 1 + 10 * 3 ≤ m + 100; omega))
  · obtain ⟨i, hi⟩ := List.mem_iff_getElem?.mp hqm
    obtain ⟨s, s1, s2, _⟩ := hS.at_ hi
    exact R.bd s (List.mem_of_getElem? s1) z (s2.mem_iff.mpr hz)
theorem law__law_right (C : Addr) : ∀ ds W Q PX, sp__law_right C ds W Q PX → ds.length = P__law_right.length ∧ w__law_right C PX { nx := fun _ W' => Q .non W', rt := Q } (env0 N__law_right ds) W := by
  rintro ds W Q PX ⟨a, n, rfl, hn, hp, h⟩
  refine ⟨rfl, ?_⟩
  have pk30 : PowOk 10 30 := ⟨by decide, 4, by decide, by decide⟩
  generalize hQ : q__law_right_4 C = Q4
  simp only [w__law_right, N__law_right, wRaise, wTry, wXVal, wXIs, wXIsV, wCallX, fMulS, wSeq, wLRg1, wLRg2, wRngB, mExtend, wSetIxN, wBoxN, fNotInN, fGetN, wForEn, wSealQ, wPopD, wRep, wAug, wAsg, wSkip, wIf, wRet, wRetN, wDrop, wB, wTru, wBin, wUn, wApp, wAppF, wVal, wBox, wVar, wC, wFrz, wCons, wNil, wLst, wTup, wPar2, wPar3, wSetIx, wSetFld, wMu, wAnd, wOr, wNot, wAndV, wOrV, wNotV, wIte, wChain, wGet2, wFld, wProp, wMeth, wMethK, wCall, wCallK, wMakeK, wSeal, wOwn, wDisp, wPs, wDnK, wSortIt, wRev, wSlc, wONo, wOYes, wFor, wForLk, wIter, wRng1, wRng2, wEnum, wLc, wLcLk, wDc, wDcLk, wSetV, wSetB, wNo, wNoE, wYes, fAdd, fSub, fMul, fDiv, fMod, fPow, fLt, fLe, fGt, fGe, fNeg, fIsN, fNotN, isN, fInt, fAbs, bindG, Ob.toD, env0, List.map_cons, List.map_nil, List.cons_append, List.nil_append, List.append_nil, List.length_cons, List.length_nil, List.replicate_succ, List.replicate_zero, List.replicate, List.getElem?_cons_zero, List.getElem?_cons_succ, List.set_cons_zero, List.set_cons_succ, Option.some.injEq, exists_eq_left', exists_eq_left, D.int.injEq, D.bl.injEq, D.obj.injEq, keyD, keysD, fSet, mAppend, mInsert, mPop, mReverse, mClear, WS.put_same, dkD, lookD, truD, seqD, wipeD, List.set_nil, hQ]
  refine ⟨a, n, rfl, by omega, hp, fun p ts W1 hk hl hwd e1 p1 => ?_⟩
  refine ⟨p, ts, rfl, hk, fun b qs W2 hb hperm hps e2 hr2 => ?_⟩
  have p2 := p1.ext e2 (by simp)
  refine ⟨pk30, a, p, ts, 12, _, n + 100, rfl, hk, by decide, by decide, by decide, by decide, by omega, p2, fun rs W3 hrow hwin hne hlen e3 p3 => ?_⟩
  have hp0 : 0 < p := by rcases hk.pr with h | h | h <;> omega
  have hwq : ∀ q ∈ qs, ∀ z ∈ qs, q.1 - z.1 ≤ 4 := fun q hq z hz => by
    have m1 := hperm.mem_iff.mp hq
    have m2 := hperm.mem_iff.mp hz
    unfold swapI at m1 m2
    obtain ⟨t, ht, rfl⟩ := List.mem_map.mp m1
    obtain ⟨u, hu, rfl⟩ := List.mem_map.mp m2
    exact hwd t ht u hu
  have hba : b ∉ [a] := fun z => by
    obtain ⟨_, _, _, hw, _⟩ := p1.ex
    rw [← List.mem_singleton.mp z, hb] at hw; cases hw
  refine draw_ok p3 (by decide) (by decide) (by omega) fun r1 W4 r10 r11 e4 k4 p4 => ⟨by decide, ?_⟩
  refine draw_ok p4 (by decide) (by decide) (by omega) fun r2 W5 r20 r21 e5 k5 p5 => ?_
  obtain ⟨t, ht, mt⟩ := pick_int (ns := [0, 1, r1, 40]) r20 (by simpa using r21)
  refine fGet_lst (ds := [.int 0, .int 1, .int r1, .int 40]) rfl ht ?_
  have ht2 : 0 ≤ t ∧ t ≤ 40 := by
    simp only [List.mem_cons, List.not_mem_nil, or_false] at mt
    rcases mt with rfl | rfl | rfl | rfl <;> omega
  obtain ⟨k, rfl⟩ : ∃ k : Nat, t = k := ⟨t.toNat, by omega⟩
  refine draw_ok p5 (by decide) (by decide) (by omega) fun r3 W6 r30 r31 e6 k6 p6 => ?_
  have hr6 : RuleAt C W6 b p qs := hr2.keep (((e3.trans e4).trans e5).trans e6) hba (pool_pw p2 hp0)
  refine eqK_int ⟨_, rfl, ?_⟩
  rw [if_neg Bool.false_ne_true]
  subst hQ
  have rest : ∀ (PE : WEnds), PE.rt = Q → ∀ rs : IP, Asc rs → Vl p rs → Win40 rs → Bd (10 ^ 31) rs → q__law_right_4 C PX PE [some (.obj a), some (.tup [.int p, .lst (ts.map prD)]), some (.int k), none, none, none, some (.obj b), some (.lst (rs.map prD)), none, none, none, none, none, none, none, none] W6 := fun PE hPE rs g1 g2 g3 g4 =>
    q4_near hk hperm hps hwq g1 g2 g3 g4 (by omega) (p6.more (m := n + 2000) (by omega)) hr6 (by omega) fun W' p' => by rw [hPE]; exact h W' (p'.more (by omega))
  by_cases hr : r3 = 0
  · rw [decide_eq_true hr]
    exact ⟨Nat.zero_le _, rest _ rfl [] List.Pairwise.nil (fun _ z => nomatch z) ⟨0, fun _ z => nomatch z⟩ (fun _ z => nomatch z)⟩
  · rw [decide_eq_false hr]
    exact rest _ rfl rs hrow.asc hrow.vl hwin hrow.bd
end DL

set_option maxRecDepth 100000
set_option maxHeartbeats 4000000
set_option linter.all false
namespace DL
open PySem PySem.Spec PyProof.Rows L2
theorem turns_loop {C a : Addr} {d0 d1 : Option D} {PX : XP} {P : WEnds} : ∀ (nn : Nat) (l0 : Int) (x3 : Option D) (W : WS) (m : Nat), PoolOk W a m → m + 5000 * nn ≤ 500000 →
    (∀ W' x3, P.nx [d0, d1, some (.obj a), x3] W') → forW (.nm 3) (b_law_1 C) PX P (rngD l0 nn) [d0, d1, some (.obj a), x3] W
  | 0, l0, x3, W, m, _, _, K => K W x3
  | nn + 1, l0, x3, W, m, hp, hm, K => by
    have ih := turns_loop (C := C) (d0 := d0) (d1 := d1) (PX := PX) (P := P) nn (l0 + 1) (a := a)
    rw [rngD_succ]
    show bindG _ _ _ _
    generalize hK : forW (.nm 3) (b_law_1 C) PX P (rngD (l0 + 1) nn) = Kf
    simp only [hK] at ih
    simp only [b_law_1, wRaise, wTry, wXVal, wXIs, wXIsV, wCallX, fMulS, wSeq, wLRg1, wLRg2, wRngB, mExtend, wSetIxN, wBoxN, fNotInN, fGetN, wForEn, wSealQ, wPopD, wRep, wAug, wAsg, wSkip, wIf, wRet, wRetN, wDrop, wB, wTru, wBin, wUn, wApp, wAppF, wVal, wBox, wVar, wC, wFrz, wCons, wNil, wLst, wTup, wPar2, wPar3, wSetIx, wSetFld, wMu, wAnd, wOr, wNot, wAndV, wOrV, wNotV, wIte, wChain, wGet2, wFld, wProp, wMeth, wMethK, wCall, wCallK, wMakeK, wSeal, wOwn, wDisp, wPs, wDnK, wSortIt, wRev, wSlc, wONo, wOYes, wFor, wForLk, wIter, wRng1, wRng2, wEnum, wLc, wLcLk, wDc, wDcLk, wSetV, wSetB, wNo, wNoE, wYes, fAdd, fSub, fMul, fDiv, fMod, fPow, fLt, fLe, fGt, fGe, fNeg, fIsN, fNotN, isN, fInt, fAbs, bindG, Ob.toD, env0, List.map_cons, List.map_nil, List.cons_append, List.nil_append, List.append_nil, List.length_cons, List.length_nil, List.replicate_succ, List.replicate_zero, List.replicate, List.getElem?_cons_zero, List.getElem?_cons_succ, List.set_cons_zero, List.set_cons_succ, Option.some.injEq, exists_eq_left', exists_eq_left, D.int.injEq, D.bl.injEq, D.obj.injEq, keyD, keysD, fSet, mAppend, mInsert, mPop, mReverse, mClear, WS.put_same, dkD, lookD, truD, seqD, wipeD, List.set_nil]
    refine ⟨a, m, rfl, by omega, hp, fun W' hp' => ⟨true, rfl, ?_⟩⟩
    simp only [Bool.not_true]
    exact ih _ W' (m + 5000) hp' (by omega) K
theorem spots_loop {C : Addr} {is : List Int} {PX : XP} {P : WEnds} (hl : is.length ≤ 63) : ∀ (nn : Nat) (l0 : Nat) (x1 x2 x3 : Option D) (W : WS), l0 + nn ≤ 6 →
    (∀ W' x1 x2 x3, P.nx [some (.klst (is.map D.int)), x1, x2, x3] W') → forW (.nm 1) (b_law_2 C) PX P (rngD (l0 : Int) nn) [some (.klst (is.map D.int)), x1, x2, x3] W
  | 0, l0, x1, x2, x3, W, _, K => K W x1 x2 x3
  | nn + 1, l0, x1, x2, x3, W, hn, K => by
    have ih := spots_loop (C := C) (PX := PX) (P := P) hl nn (l0 + 1)
    rw [rngD_succ]
    show bindG _ _ _ _
    have e : ((l0 : Int) + 1) = ((l0 + 1 : Nat) : Int) := by omega
    rw [e]
    generalize hK : forW (.nm 1) (b_law_2 C) PX P (rngD ((l0 + 1 : Nat) : Int) nn) = Kf
    simp only [hK] at ih
    generalize hB : b_law_1 C = Bd1
    simp only [b_law_2, wRaise, wTry, wXVal, wXIs, wXIsV, wCallX, fMulS, wSeq, wLRg1, wLRg2, wRngB, mExtend, wSetIxN, wBoxN, fNotInN, fGetN, wForEn, wSealQ, wPopD, wRep, wAug, wAsg, wSkip, wIf, wRet, wRetN, wDrop, wB, wTru, wBin, wUn, wApp, wAppF, wVal, wBox, wVar, wC, wFrz, wCons, wNil, wLst, wTup, wPar2, wPar3, wSetIx, wSetFld, wMu, wAnd, wOr, wNot, wAndV, wOrV, wNotV, wIte, wChain, wGet2, wFld, wProp, wMeth, wMethK, wCall, wCallK, wMakeK, wSeal, wOwn, wDisp, wPs, wDnK, wSortIt, wRev, wSlc, wONo, wOYes, wFor, wForLk, wIter, wRng1, wRng2, wEnum, wLc, wLcLk, wDc, wDcLk, wSetV, wSetB, wNo, wNoE, wYes, fAdd, fSub, fMul, fDiv, fMod, fPow, fLt, fLe, fGt, fGe, fNeg, fIsN, fNotN, isN, fInt, fAbs, bindG, Ob.toD, env0, List.map_cons, List.map_nil, List.cons_append, List.nil_append, List.append_nil, List.length_cons, List.length_nil, List.replicate_succ, List.replicate_zero, List.replicate, List.getElem?_cons_zero, List.getElem?_cons_succ, List.set_cons_zero, List.set_cons_succ, Option.some.injEq, exists_eq_left', exists_eq_left, D.int.injEq, D.bl.injEq, D.obj.injEq, keyD, keysD, fSet, mAppend, mInsert, mPop, mReverse, mClear, WS.put_same, dkD, lookD, truD, seqD, wipeD, List.set_nil, hB]
    subst hB
    refine ⟨is, l0, rfl, by omega, hl, fun a l ha hp => ⟨⟨by decide, by decide⟩, ?_⟩⟩
    exact turns_loop 3 0 _ _ 0 hp (by omega) fun W' x3 => ih _ _ _ W' (by omega) K
theorem law_law (C : Addr) : ∀ ds W Q PX, sp_law C ds W Q PX → ds.length = P_law.length ∧ w_law C PX { nx := fun _ W' => Q .non W', rt := Q } (env0 N_law ds) W := by
  rintro ds W Q PX ⟨is, rfl, hl, h⟩
  refine ⟨rfl, ?_⟩
  generalize hB : b_law_2 C = Bd
  simp only [w_law, N_law, wRaise, wTry, wXVal, wXIs, wXIsV, wCallX, fMulS, wSeq, wLRg1, wLRg2, wRngB, mExtend, wSetIxN, wBoxN, fNotInN, fGetN, wForEn, wSealQ, wPopD, wRep, wAug, wAsg, wSkip, wIf, wRet, wRetN, wDrop, wB, wTru, wBin, wUn, wApp, wAppF, wVal, wBox, wVar, wC, wFrz, wCons, wNil, wLst, wTup, wPar2, wPar3, wSetIx, wSetFld, wMu, wAnd, wOr, wNot, wAndV, wOrV, wNotV, wIte, wChain, wGet2, wFld, wProp, wMeth, wMethK, wCall, wCallK, wMakeK, wSeal, wOwn, wDisp, wPs, wDnK, wSortIt, wRev, wSlc, wONo, wOYes, wFor, wForLk, wIter, wRng1, wRng2, wEnum, wLc, wLcLk, wDc, wDcLk, wSetV, wSetB, wNo, wNoE, wYes, fAdd, fSub, fMul, fDiv, fMod, fPow, fLt, fLe, fGt, fGe, fNeg, fIsN, fNotN, isN, fInt, fAbs, bindG, Ob.toD, env0, List.map_cons, List.map_nil, List.cons_append, List.nil_append, List.append_nil, List.length_cons, List.length_nil, List.replicate_succ, List.replicate_zero, List.replicate, List.getElem?_cons_zero, List.getElem?_cons_succ, List.set_cons_zero, List.set_cons_succ, Option.some.injEq, exists_eq_left', exists_eq_left, D.int.injEq, D.bl.injEq, D.obj.injEq, keyD, keysD, fSet, mAppend, mInsert, mPop, mReverse, mClear, WS.put_same, dkD, lookD, truD, seqD, wipeD, List.set_nil, hB, fLen, fMin, fMax, view]
  refine ⟨⟨by split <;> split <;> omega, by split <;> split <;> omega⟩, ?_⟩
  subst hB
  refine spots_loop hl _ 0 _ _ _ W ?_ fun W' x1 x2 x3 => h W'
  split <;> split <;> omega
theorem law_fin (C : Addr) (is : List Int) (W : WS) (h : is.length ≤ 63) : sp_law C [.klst (is.map D.int)] W (fun d _ => d = .bl true) noX := ⟨is, rfl, h, fun _ => rfl⟩
end DL

set_option maxRecDepth 100000
set_option maxHeartbeats 8000000
set_option linter.all false
namespace DL
open PySem PySem.Spec PyProof.Rows L2
section
variable {P : Program} {w : World} {K : Fg} {mg : Str → Option Value} {base : Heap} {C : Addr}
theorem ok__law_pool (Z : Tab P K mg C) {f : Addr} {fd : FuncData} (F : Fun K "_law_pool" "_law_pool" st__law_pool f fd) : FnD P w K mg base 1 f fd P__law_pool (sp__law_pool C) :=
  fnD_go F sc__law_pool (fun cdv A outer s H E T => r__law_pool Z T) (law__law_pool C)
theorem ok__law_draw (Z : Tab P K mg C) {f : Addr} {fd : FuncData} (F : Fun K "_law_draw" "_law_draw" st__law_draw f fd) : FnD P w K mg base 1 f fd P__law_draw (sp__law_draw C) :=
  fnD_go F sc__law_draw (fun cdv A outer s H E T => r__law_draw Z T) (law__law_draw C)
theorem ok__law_kind (Z : Tab P K mg C) (Q__law_draw : FnG P w K mg base 1 "_law_draw" "_law_draw" st__law_draw P__law_draw ((sp__law_draw C))) {f : Addr} {fd : FuncData} (F : Fun K "_law_kind" "_law_kind" st__law_kind f fd) : FnD P w K mg base 3 f fd P__law_kind (sp__law_kind C) :=
  fnD_go F sc__law_kind (fun cdv A outer s H E T => r__law_kind Z Q__law_draw T) (law__law_kind C)
theorem ok_check_row (Z : Tab P K mg C) {f : Addr} {fd : FuncData} (F : Fun K "check_row" "check_row" st_check_row f fd) : FnD P w K mg base 1 f fd P_check_row (sp_check_row C) :=
  fnD_go F sc_check_row (fun cdv A outer s H E T => r_check_row Z T) (law_check_row C)
theorem ok_check_number (Z : Tab P K mg C) {f : Addr} {fd : FuncData} (F : Fun K "check_number" "check_number" st_check_number f fd) : FnD P w K mg base 1 f fd P_check_number (sp_check_number C) :=
  fnD_go F sc_check_number (fun cdv A outer s H E T => r_check_number Z T) (law_check_number C)
theorem ok_check_far (Z : Tab P K mg C) (Q_check_row : FnG P w K mg base 1 "check_row" "check_row" st_check_row P_check_row ((sp_check_row C))) (Q_check_number : FnG P w K mg base 1 "check_number" "check_number" st_check_number P_check_number ((sp_check_number C))) {f : Addr} {fd : FuncData} (F : Fun K "check_far" "check_far" st_check_far f fd) : FnD P w K mg base 3 f fd P_check_far (sp_check_far C) :=
  fnD_go F sc_check_far (fun cdv A outer s H E T => r_check_far Z Q_check_row Q_check_number T) (law_check_far C)
theorem ok_row_of (Z : Tab P K mg C) {f : Addr} {fd : FuncData} (F : Fun K "row_of" "row_of" st_row_of f fd) : FnD P w K mg base 1 f fd P_row_of (sp_row_of C) :=
  fnD_go F sc_row_of (fun cdv A outer s H E T => r_row_of Z T) (law_row_of C)
theorem ok_plain (Z : Tab P K mg C) {f : Addr} {fd : FuncData} (F : Fun K "plain" "plain" st_plain f fd) : FnD P w K mg base 1 f fd P_plain (sp_plain C) :=
  fnD_go F sc_plain (fun cdv A outer s H E T => r_plain Z T) (law_plain C)
theorem ok_multiplied (Z : Tab P K mg C) (Q_plain : FnG P w K mg base 1 "plain" "plain" st_plain P_plain ((sp_plain C))) {f : Addr} {fd : FuncData} (F : Fun K "multiplied" "multiplied" st_multiplied f fd) : FnD P w K mg base 3 f fd P_multiplied (sp_multiplied C) :=
  fnD_go F sc_multiplied (fun cdv A outer s H E T => r_multiplied Z Q_plain T) (law_multiplied C)
theorem ok_cells_of (Z : Tab P K mg C) {f : Addr} {fd : FuncData} (F : Fun K "cells_of" "cells_of" st_cells_of f fd) : FnD P w K mg base 1 f fd P_cells_of (sp_cells_of C) :=
  fnD_go F sc_cells_of (fun cdv A outer s H E T => r_cells_of Z T) (law_cells_of C)
theorem ok_Rule_next_row (Z : Tab P K mg C) (Q_check_row : FnG P w K mg base 1 "check_row" "check_row" st_check_row P_check_row ((sp_check_row C))) (Q_row_of : FnG P w K mg base 1 "row_of" "row_of" st_row_of P_row_of ((sp_row_of C))) (Q_multiplied : FnG P w K mg base 3 "multiplied" "multiplied" st_multiplied P_multiplied ((sp_multiplied C))) (Q_cells_of : FnG P w K mg base 1 "cells_of" "cells_of" st_cells_of P_cells_of ((sp_cells_of C))) {f : Addr} {fd : FuncData} (F : Fun K "next_row" "Rule.next_row" st_Rule_next_row f fd) : FnD P w K mg base 5 f fd P_Rule_next_row (sp_Rule_next_row C) :=
  fnD_go F sc_Rule_next_row (fun cdv A outer s H E T => r_Rule_next_row Z Q_check_row Q_row_of Q_multiplied Q_cells_of T) (law_Rule_next_row C)
theorem ok_rows_until (Z : Tab P K mg C) (Q_check_far : FnG P w K mg base 3 "check_far" "check_far" st_check_far P_check_far ((sp_check_far C))) (Q_next_row : MtG P w K mg base C 5 "next_row" "Rule.next_row" st_Rule_next_row P_Rule_next_row ((sp_Rule_next_row C))) {f : Addr} {fd : FuncData} (F : Fun K "rows_until" "rows_until" st_rows_until f fd) : FnD P w K mg base 7 f fd P_rows_until (sp_rows_untilO C) :=
  fnD_go F sc_rows_until (fun cdv A outer s H E T => r_rows_until Z Q_check_far Q_next_row T) (law_rows_untilO C)
theorem ok_check_terms (Z : Tab P K mg C) {f : Addr} {fd : FuncData} (F : Fun K "check_terms" "check_terms" st_check_terms f fd) : FnD P w K mg base 1 f fd P_check_terms (sp_check_terms C) :=
  fnD_go F sc_check_terms (fun cdv A outer s H E T => r_check_terms Z T) (law_check_terms C)
theorem ok_Rule_init (Z : Tab P K mg C) (Q_check_terms : FnG P w K mg base 1 "check_terms" "check_terms" st_check_terms P_check_terms ((sp_check_terms C))) (Q_multiplied : FnG P w K mg base 3 "multiplied" "multiplied" st_multiplied P_multiplied ((sp_multiplied C))) {f : Addr} {fd : FuncData} (F : Fun K "__init__" "Rule.__init__" st_Rule_init f fd) : FnD P w K mg base 5 f fd P_Rule_init (sp_Rule_init C) :=
  fnD_go F sc_Rule_init (fun cdv A outer s H E T => r_Rule_init Z Q_check_terms Q_multiplied T) (law_Rule_init C)
theorem ok__law_made (Z : Tab P K mg C) (Q_init : MkG P w K mg base C 5 "Rule.__init__" st_Rule_init P_Rule_init ((sp_Rule_init C))) {f : Addr} {fd : FuncData} (F : Fun K "_law_made" "_law_made" st__law_made f fd) : FnD P w K mg base 7 f fd P__law_made (sp__law_made C) :=
  fnD_go F sc__law_made (fun cdv A outer s H E T => r__law_made Z Q_init T) (law__law_made C)
theorem ok__law_row (Z : Tab P K mg C) (Q__law_draw : FnG P w K mg base 1 "_law_draw" "_law_draw" st__law_draw P__law_draw ((sp__law_draw C))) {f : Addr} {fd : FuncData} (F : Fun K "_law_row" "_law_row" st__law_row f fd) : FnD P w K mg base 3 f fd P__law_row (sp__law_row C) :=
  fnD_go F sc__law_row (fun cdv A outer s H E T => r__law_row Z Q__law_draw T) (law__law_row C)
theorem ok__law_step (Z : Tab P K mg C) {f : Addr} {fd : FuncData} (F : Fun K "_law_step" "_law_step" st__law_step f fd) : FnD P w K mg base 1 f fd P__law_step (sp__law_step C) :=
  fnD_go F sc__law_step (fun cdv A outer s H E T => r__law_step Z T) (law__law_step C)
theorem ok__law_walk (Z : Tab P K mg C) (Q__law_step : FnG P w K mg base 1 "_law_step" "_law_step" st__law_step P__law_step ((sp__law_step C))) {f : Addr} {fd : FuncData} (F : Fun K "_law_walk" "_law_walk" st__law_walk f fd) : FnD P w K mg base 3 f fd P__law_walk (sp__law_walk C) :=
  fnD_go F sc__law_walk (fun cdv A outer s H E T => r__law_walk Z Q__law_step T) (law__law_walk C)
theorem ok_check_stretch (Z : Tab P K mg C) {f : Addr} {fd : FuncData} (F : Fun K "check_stretch" "check_stretch" st_check_stretch f fd) : FnD P w K mg base 1 f fd P_check_stretch (sp_check_stretch C) :=
  fnD_go F sc_check_stretch (fun cdv A outer s H E T => r_check_stretch Z T) (law_check_stretch C)
theorem ok_Rule_prime (Z : Tab P K mg C) {f : Addr} {fd : FuncData} (F : Fun K "prime" "Rule.prime" st_Rule_prime f fd) : FnD P w K mg base 1 f fd P_Rule_prime (sp_Rule_prime C) :=
  fnD_go F sc_Rule_prime (fun cdv A outer s H E T => r_Rule_prime Z T) (law_Rule_prime C)
theorem ok_parted (Z : Tab P K mg C) {f : Addr} {fd : FuncData} (F : Fun K "parted" "parted" st_parted f fd) : FnD P w K mg base 1 f fd P_parted (sp_parted C) :=
  fnD_go F sc_parted (fun cdv A outer s H E T => r_parted Z T) (law_parted C)
theorem ok_far_stretch (Z : Tab P K mg C) (Q_prime : PrG P w K mg base C 1 "prime" ((sp_Rule_prime C))) (Q_multiplied : FnG P w K mg base 3 "multiplied" "multiplied" st_multiplied P_multiplied ((sp_multiplied C))) (Q_parted : FnG P w K mg base 1 "parted" "parted" st_parted P_parted ((sp_parted C))) {f : Addr} {fd : FuncData} (hm : mg "far_stretch" = some (.ref f)) (F : Fun K "far_stretch" "far_stretch" st_far_stretch f fd) (hb : Binds K fd P_far_stretch []) : FnD P w K mg base 111 f fd P_far_stretch (sp_far_stretch C) := by
  have no : FnD P w K mg base 0 f fd P_far_stretch (fun _ _ _ _ => False) := ⟨fun _ _ _ _ h => h.elim, fun _ _ _ _ _ _ _ _ _ _ _ _ _ ⟨_, _, _, _, _, _, _, h, _⟩ => h.elim⟩
  have key : ∀ N : Nat, FnD P w K mg base (N + 11) f fd P_far_stretch (sp_far_stretchU C N) := by
    intro N
    induction N with
    | zero => exact fnD_go F sc_far_stretch (fun cdv A outer s H E T => r_far_stretch Z Q_prime Q_multiplied (by omega) (by omega) ⟨⟨f, fd, hm, F, hb, no⟩⟩ Q_parted T) (law_far_stretchU C 0 _ (fun M h => absurd h (by omega)))
    | succ N ih => exact fnD_go F sc_far_stretch (fun cdv A outer s H E T => r_far_stretch Z Q_prime Q_multiplied (by omega) (by omega) ⟨⟨f, fd, hm, F, hb, ih⟩⟩ Q_parted T) (law_far_stretchU C (N + 1) _ (fun M h ds W Q PX q => by have e : N = M := (by omega); subst e; exact q))
  exact key 100
theorem ok_cells_between (Z : Tab P K mg C) (Q_check_far : FnG P w K mg base 3 "check_far" "check_far" st_check_far P_check_far ((sp_check_far C))) (Q_check_stretch : FnG P w K mg base 1 "check_stretch" "check_stretch" st_check_stretch P_check_stretch ((sp_check_stretch C))) (Q_far_stretch : FnG P w K mg base 111 "far_stretch" "far_stretch" st_far_stretch P_far_stretch ((sp_far_stretch C))) {f : Addr} {fd : FuncData} (F : Fun K "cells_between" "cells_between" st_cells_between f fd) : FnD P w K mg base 113 f fd P_cells_between (sp_cells_between C) :=
  fnD_go F sc_cells_between (fun cdv A outer s H E T => r_cells_between Z Q_check_far Q_check_stretch Q_far_stretch T) (law_cells_between C)
theorem ok_far_value (Z : Tab P K mg C) (Q_multiplied : FnG P w K mg base 3 "multiplied" "multiplied" st_multiplied P_multiplied ((sp_multiplied C))) (Q_parted : FnG P w K mg base 1 "parted" "parted" st_parted P_parted ((sp_parted C))) {f : Addr} {fd : FuncData} (F : Fun K "far_value" "far_value" st_far_value f fd) : FnD P w K mg base 5 f fd P_far_value (sp_far_value C) :=
  fnD_go F sc_far_value (fun cdv A outer s H E T => r_far_value Z Q_multiplied Q_parted T) (law_far_value C)
theorem ok_value_in (Z : Tab P K mg C) (Q_far_value : FnG P w K mg base 5 "far_value" "far_value" st_far_value P_far_value ((sp_far_value C))) (Q_cells_of : FnG P w K mg base 1 "cells_of" "cells_of" st_cells_of P_cells_of ((sp_cells_of C))) (Q_prime : PrG P w K mg base C 1 "prime" ((sp_Rule_prime C))) {f : Addr} {fd : FuncData} (F : Fun K "value_in" "value_in" st_value_in f fd) : FnD P w K mg base 7 f fd P_value_in (sp_value_in C) :=
  fnD_go F sc_value_in (fun cdv A outer s H E T => r_value_in Z Q_far_value Q_cells_of Q_prime T) (law_value_in C)
theorem ok_cell_at (Z : Tab P K mg C) (Q_check_far : FnG P w K mg base 3 "check_far" "check_far" st_check_far P_check_far ((sp_check_far C))) (Q_value_in : FnG P w K mg base 7 "value_in" "value_in" st_value_in P_value_in ((sp_value_in C))) {f : Addr} {fd : FuncData} (F : Fun K "cell_at" "cell_at" st_cell_at f fd) : FnD P w K mg base 9 f fd P_cell_at (sp_cell_at C) :=
  fnD_go F sc_cell_at (fun cdv A outer s H E T => r_cell_at Z Q_check_far Q_value_in T) (law_cell_at C)
theorem ok__law_right (Z : Tab P K mg C) (Q__law_kind : FnG P w K mg base 3 "_law_kind" "_law_kind" st__law_kind P__law_kind ((sp__law_kind C))) (Q_rows_until : FnG P w K mg base 7 "rows_until" "rows_until" st_rows_until P_rows_until ((sp_rows_untilO C))) (Q__law_made : FnG P w K mg base 7 "_law_made" "_law_made" st__law_made P__law_made ((sp__law_made C))) (Q__law_row : FnG P w K mg base 3 "_law_row" "_law_row" st__law_row P__law_row ((sp__law_row C))) (Q__law_draw : FnG P w K mg base 1 "_law_draw" "_law_draw" st__law_draw P__law_draw ((sp__law_draw C))) (Q__law_walk : FnG P w K mg base 3 "_law_walk" "_law_walk" st__law_walk P__law_walk ((sp__law_walk C))) (Q_cells_between : FnG P w K mg base 113 "cells_between" "cells_between" st_cells_between P_cells_between ((sp_cells_between C))) (Q_cell_at : FnG P w K mg base 9 "cell_at" "cell_at" st_cell_at P_cell_at ((sp_cell_at C))) {f : Addr} {fd : FuncData} (F : Fun K "_law_right" "_law_right" st__law_right f fd) : FnD P w K mg base 115 f fd P__law_right (sp__law_right C) :=
  fnD_go F sc__law_right (fun cdv A outer s H E T => r__law_right Z Q__law_kind Q_rows_until Q__law_made Q__law_row Q__law_draw Q__law_walk Q_cells_between Q_cell_at T) (law__law_right C)
theorem ok_law (Z : Tab P K mg C) (Q__law_pool : FnG P w K mg base 1 "_law_pool" "_law_pool" st__law_pool P__law_pool ((sp__law_pool C))) (Q__law_right : FnG P w K mg base 115 "_law_right" "_law_right" st__law_right P__law_right ((sp__law_right C))) {f : Addr} {fd : FuncData} (F : Fun K "law" "law" st_law f fd) : FnD P w K mg base 117 f fd P_law (sp_law C) :=
  fnD_go F sc_law (fun cdv A outer s H E T => r_law Z Q__law_pool Q__law_right T) (law_law C)
end
theorem all_mk {l : PySem.W.OpenLaw} {w : World} {K : Fg} {h : Heap} {mg : Str → Option Value} {fa C aP : Addr} {f0 f1 f2 f3 f4 f5 f6 f7 f8 f9 f10 f11 f12 f13 f14 f15 f16 f17 f18 f19 f20 f21 f22 f23 f24 f25 f26 f27 q19 : Addr} (X : K.In h) (G : h.Ns mainGlobals mg) (hfa : mg "law" = some (.ref fa))
    {od0 an0 od1 an1 od2 an2 od3 an3 od4 an4 od5 an5 od6 an6 od7 an7 od8 an8 od9 an9 od10 an10 od11 an11 od12 an12 od13 an13 od14 an14 od15 an15 od16 an16 od17 an17 od18 an18 od19 an19 od20 an20 od21 an21 od22 an22 od23 an23 od24 an24 od25 an25 od26 an26 od27 an27 odP : Option Addr} {sl0 sl1 sl2 sl3 sl4 sl5 sl6 sl7 sl8 sl9 sl10 sl11 sl12 sl13 sl14 sl15 sl16 sl17 sl18 sl19 sl20 sl21 sl22 sl23 sl24 sl25 sl26 sl27 slP : Array (Option Value)} {oc0 kV0 dc0 pm0 cd0 ct0 oc1 kV1 dc1 pm1 cd1 ct1 oc2 kV2 dc2 pm2 cd2 ct2 oc3 kV3 dc3 pm3 cd3 ct3 oc4 kV4 dc4 pm4 cd4 ct4 oc5 kV5 dc5 pm5 cd5 ct5 oc6 kV6 dc6 pm6 cd6 ct6 oc7 kV7 dc7 pm7 cd7 ct7 oc8 kV8 dc8 pm8 cd8 ct8 oc9 kV9 dc9 pm9 cd9 ct9 oc10 kV10 dc10 pm10 cd10 ct10 oc11 kV11 dc11 pm11 cd11 ct11 oc12 kV12 dc12 pm12 cd12 ct12 oc13 kV13 dc13 pm13 cd13 ct13 oc14 kV14 dc14 pm14 cd14 ct14 oc15 kV15 dc15 pm15 cd15 ct15 oc16 kV16 dc16 pm16 cd16 ct16 oc17 kV17 dc17 pm17 cd17 ct17 oc18 kV18 dc18 pm18 cd18 ct18 oc19 kV19 dc19 pm19 cd19 ct19 oc20 kV20 dc20 pm20 cd20 ct20 oc21 kV21 dc21 pm21 cd21 ct21 oc22 kV22 dc22 pm22 cd22 ct22 oc23 kV23 dc23 pm23 cd23 ct23 oc24 kV24 dc24 pm24 cd24 ct24 oc25 kV25 dc25 pm25 cd25 ct25 oc26 kV26 dc26 pm26 cd26 ct26 oc27 kV27 dc27 pm27 cd27 ct27 : Value} {rs19 : List Value} {tk1 tk2 tk3 : Tok} {nP : Nat}
    (aC : PySem.W.nsIn K mainGlobals "Rule" = some (some (.ref C)))
    (a0 : PySem.W.nsIn K mainGlobals "_law_pool" = some (some (.ref f0)))
    (l0 : K.lookup f0 = some ⟨oc0, od0, .func (PySem.W.fnOf "_law_pool" "_law_pool" (defArgs st__law_pool) (defBody st__law_pool) (defScope st__law_pool) .none kV0 dc0 pm0 an0 cd0 ct0), sl0⟩)
    (c0 : PySem.W.codeIn K cd0 "_law_pool" = true)
    (k0 : PySem.W.keepIn K (.ref f0) = true)
    (a1 : PySem.W.nsIn K mainGlobals "_law_draw" = some (some (.ref f1)))
    (l1 : K.lookup f1 = some ⟨oc1, od1, .func (PySem.W.fnOf "_law_draw" "_law_draw" (defArgs st__law_draw) (defBody st__law_draw) (defScope st__law_draw) .none kV1 dc1 pm1 an1 cd1 ct1), sl1⟩)
    (c1 : PySem.W.codeIn K cd1 "_law_draw" = true)
    (k1 : PySem.W.keepIn K (.ref f1) = true)
    (a2 : PySem.W.nsIn K mainGlobals "_law_kind" = some (some (.ref f2)))
    (l2 : K.lookup f2 = some ⟨oc2, od2, .func (PySem.W.fnOf "_law_kind" "_law_kind" (defArgs st__law_kind) (defBody st__law_kind) (defScope st__law_kind) .none kV2 dc2 pm2 an2 cd2 ct2), sl2⟩)
    (c2 : PySem.W.codeIn K cd2 "_law_kind" = true)
    (k2 : PySem.W.keepIn K (.ref f2) = true)
    (a3 : PySem.W.nsIn K mainGlobals "check_row" = some (some (.ref f3)))
    (l3 : K.lookup f3 = some ⟨oc3, od3, .func (PySem.W.fnOf "check_row" "check_row" (defArgs st_check_row) (defBody st_check_row) (defScope st_check_row) .none kV3 dc3 pm3 an3 cd3 ct3), sl3⟩)
    (c3 : PySem.W.codeIn K cd3 "check_row" = true)
    (k3 : PySem.W.keepIn K (.ref f3) = true)
    (a4 : PySem.W.nsIn K mainGlobals "check_number" = some (some (.ref f4)))
    (l4 : K.lookup f4 = some ⟨oc4, od4, .func (PySem.W.fnOf "check_number" "check_number" (defArgs st_check_number) (defBody st_check_number) (defScope st_check_number) .none kV4 dc4 pm4 an4 cd4 ct4), sl4⟩)
    (c4 : PySem.W.codeIn K cd4 "check_number" = true)
    (k4 : PySem.W.keepIn K (.ref f4) = true)
    (a5 : PySem.W.nsIn K mainGlobals "check_far" = some (some (.ref f5)))
    (l5 : K.lookup f5 = some ⟨oc5, od5, .func (PySem.W.fnOf "check_far" "check_far" (defArgs st_check_far) (defBody st_check_far) (defScope st_check_far) .none kV5 dc5 pm5 an5 cd5 ct5), sl5⟩)
    (c5 : PySem.W.codeIn K cd5 "check_far" = true)
    (k5 : PySem.W.keepIn K (.ref f5) = true)
    (a6 : PySem.W.nsIn K mainGlobals "row_of" = some (some (.ref f6)))
    (l6 : K.lookup f6 = some ⟨oc6, od6, .func (PySem.W.fnOf "row_of" "row_of" (defArgs st_row_of) (defBody st_row_of) (defScope st_row_of) .none kV6 dc6 pm6 an6 cd6 ct6), sl6⟩)
    (c6 : PySem.W.codeIn K cd6 "row_of" = true)
    (k6 : PySem.W.keepIn K (.ref f6) = true)
    (a7 : PySem.W.nsIn K mainGlobals "plain" = some (some (.ref f7)))
    (l7 : K.lookup f7 = some ⟨oc7, od7, .func (PySem.W.fnOf "plain" "plain" (defArgs st_plain) (defBody st_plain) (defScope st_plain) .none kV7 dc7 pm7 an7 cd7 ct7), sl7⟩)
    (c7 : PySem.W.codeIn K cd7 "plain" = true)
    (k7 : PySem.W.keepIn K (.ref f7) = true)
    (a8 : PySem.W.nsIn K mainGlobals "multiplied" = some (some (.ref f8)))
    (l8 : K.lookup f8 = some ⟨oc8, od8, .func (PySem.W.fnOf "multiplied" "multiplied" (defArgs st_multiplied) (defBody st_multiplied) (defScope st_multiplied) .none kV8 dc8 pm8 an8 cd8 ct8), sl8⟩)
    (c8 : PySem.W.codeIn K cd8 "multiplied" = true)
    (k8 : PySem.W.keepIn K (.ref f8) = true)
    (a9 : PySem.W.nsIn K mainGlobals "cells_of" = some (some (.ref f9)))
    (l9 : K.lookup f9 = some ⟨oc9, od9, .func (PySem.W.fnOf "cells_of" "cells_of" (defArgs st_cells_of) (defBody st_cells_of) (defScope st_cells_of) .none kV9 dc9 pm9 an9 cd9 ct9), sl9⟩)
    (c9 : PySem.W.codeIn K cd9 "cells_of" = true)
    (k9 : PySem.W.keepIn K (.ref f9) = true)
    (a10 : PySem.W.findIn K (.ref C) "next_row" = some (some (.ref f10)))
    (i10 : PySem.W.isFn K (.ref f10) = true)
    (l10 : K.lookup f10 = some ⟨oc10, od10, .func (PySem.W.fnOf "next_row" "Rule.next_row" (defArgs st_Rule_next_row) (defBody st_Rule_next_row) (defScope st_Rule_next_row) .none kV10 dc10 pm10 an10 cd10 ct10), sl10⟩)
    (c10 : PySem.W.codeIn K cd10 "Rule.next_row" = true)
    (k10 : PySem.W.keepIn K (.ref f10) = true)
    (a11 : PySem.W.nsIn K mainGlobals "rows_until" = some (some (.ref f11)))
    (l11 : K.lookup f11 = some ⟨oc11, od11, .func (PySem.W.fnOf "rows_until" "rows_until" (defArgs st_rows_until) (defBody st_rows_until) (defScope st_rows_until) .none kV11 dc11 pm11 an11 cd11 ct11), sl11⟩)
    (c11 : PySem.W.codeIn K cd11 "rows_until" = true)
    (k11 : PySem.W.keepIn K (.ref f11) = true)
    (a12 : PySem.W.nsIn K mainGlobals "check_terms" = some (some (.ref f12)))
    (l12 : K.lookup f12 = some ⟨oc12, od12, .func (PySem.W.fnOf "check_terms" "check_terms" (defArgs st_check_terms) (defBody st_check_terms) (defScope st_check_terms) .none kV12 dc12 pm12 an12 cd12 ct12), sl12⟩)
    (c12 : PySem.W.codeIn K cd12 "check_terms" = true)
    (k12 : PySem.W.keepIn K (.ref f12) = true)
    (a13 : PySem.W.findIn K (.ref C) "__init__" = some (some (.ref f13)))
    (i13 : PySem.W.isFn K (.ref f13) = true)
    (l13 : K.lookup f13 = some ⟨oc13, od13, .func (PySem.W.fnOf "__init__" "Rule.__init__" (defArgs st_Rule_init) (defBody st_Rule_init) (defScope st_Rule_init) .none kV13 dc13 pm13 an13 cd13 ct13), sl13⟩)
    (c13 : PySem.W.codeIn K cd13 "Rule.__init__" = true)
    (k13 : PySem.W.keepIn K (.ref f13) = true)
    (a14 : PySem.W.nsIn K mainGlobals "_law_made" = some (some (.ref f14)))
    (l14 : K.lookup f14 = some ⟨oc14, od14, .func (PySem.W.fnOf "_law_made" "_law_made" (defArgs st__law_made) (defBody st__law_made) (defScope st__law_made) .none kV14 dc14 pm14 an14 cd14 ct14), sl14⟩)
    (c14 : PySem.W.codeIn K cd14 "_law_made" = true)
    (k14 : PySem.W.keepIn K (.ref f14) = true)
    (a15 : PySem.W.nsIn K mainGlobals "_law_row" = some (some (.ref f15)))
    (l15 : K.lookup f15 = some ⟨oc15, od15, .func (PySem.W.fnOf "_law_row" "_law_row" (defArgs st__law_row) (defBody st__law_row) (defScope st__law_row) .none kV15 dc15 pm15 an15 cd15 ct15), sl15⟩)
    (c15 : PySem.W.codeIn K cd15 "_law_row" = true)
    (k15 : PySem.W.keepIn K (.ref f15) = true)
    (a16 : PySem.W.nsIn K mainGlobals "_law_step" = some (some (.ref f16)))
    (l16 : K.lookup f16 = some ⟨oc16, od16, .func (PySem.W.fnOf "_law_step" "_law_step" (defArgs st__law_step) (defBody st__law_step) (defScope st__law_step) .none kV16 dc16 pm16 an16 cd16 ct16), sl16⟩)
    (c16 : PySem.W.codeIn K cd16 "_law_step" = true)
    (k16 : PySem.W.keepIn K (.ref f16) = true)
    (a17 : PySem.W.nsIn K mainGlobals "_law_walk" = some (some (.ref f17)))
    (l17 : K.lookup f17 = some ⟨oc17, od17, .func (PySem.W.fnOf "_law_walk" "_law_walk" (defArgs st__law_walk) (defBody st__law_walk) (defScope st__law_walk) .none kV17 dc17 pm17 an17 cd17 ct17), sl17⟩)
    (c17 : PySem.W.codeIn K cd17 "_law_walk" = true)
    (k17 : PySem.W.keepIn K (.ref f17) = true)
    (a18 : PySem.W.nsIn K mainGlobals "check_stretch" = some (some (.ref f18)))
    (l18 : K.lookup f18 = some ⟨oc18, od18, .func (PySem.W.fnOf "check_stretch" "check_stretch" (defArgs st_check_stretch) (defBody st_check_stretch) (defScope st_check_stretch) .none kV18 dc18 pm18 an18 cd18 ct18), sl18⟩)
    (c18 : PySem.W.codeIn K cd18 "check_stretch" = true)
    (k18 : PySem.W.keepIn K (.ref f18) = true)
    (p19 : PySem.W.findIn K (.ref C) "prime" = some (some (.ref q19)))
    (g19 : PySem.W.specialIn K (.ref q19) "__get__" = some (some (.builtin "property.__get__")))
    (t19 : PySem.W.takesIn K (.ref q19) = some true)
    (r19 : PySem.W.recIn K q19 "property" = some (.ref f19 :: rs19))
    (l19 : K.lookup f19 = some ⟨oc19, od19, .func (PySem.W.fnOf "prime" "Rule.prime" (defArgs st_Rule_prime) (defBody st_Rule_prime) (defScope st_Rule_prime) .none kV19 dc19 pm19 an19 cd19 ct19), sl19⟩)
    (c19 : PySem.W.codeIn K cd19 "Rule.prime" = true)
    (k19 : PySem.W.keepIn K (.ref f19) = true)
    (a20 : PySem.W.nsIn K mainGlobals "parted" = some (some (.ref f20)))
    (l20 : K.lookup f20 = some ⟨oc20, od20, .func (PySem.W.fnOf "parted" "parted" (defArgs st_parted) (defBody st_parted) (defScope st_parted) .none kV20 dc20 pm20 an20 cd20 ct20), sl20⟩)
    (c20 : PySem.W.codeIn K cd20 "parted" = true)
    (k20 : PySem.W.keepIn K (.ref f20) = true)
    (a21 : PySem.W.nsIn K mainGlobals "far_stretch" = some (some (.ref f21)))
    (l21 : K.lookup f21 = some ⟨oc21, od21, .func (PySem.W.fnOf "far_stretch" "far_stretch" (defArgs st_far_stretch) (defBody st_far_stretch) (defScope st_far_stretch) .none kV21 dc21 pm21 an21 cd21 ct21), sl21⟩)
    (c21 : PySem.W.codeIn K cd21 "far_stretch" = true)
    (k21 : PySem.W.keepIn K (.ref f21) = true)
    (a22 : PySem.W.nsIn K mainGlobals "cells_between" = some (some (.ref f22)))
    (l22 : K.lookup f22 = some ⟨oc22, od22, .func (PySem.W.fnOf "cells_between" "cells_between" (defArgs st_cells_between) (defBody st_cells_between) (defScope st_cells_between) .none kV22 dc22 pm22 an22 cd22 ct22), sl22⟩)
    (c22 : PySem.W.codeIn K cd22 "cells_between" = true)
    (k22 : PySem.W.keepIn K (.ref f22) = true)
    (a23 : PySem.W.nsIn K mainGlobals "far_value" = some (some (.ref f23)))
    (l23 : K.lookup f23 = some ⟨oc23, od23, .func (PySem.W.fnOf "far_value" "far_value" (defArgs st_far_value) (defBody st_far_value) (defScope st_far_value) .none kV23 dc23 pm23 an23 cd23 ct23), sl23⟩)
    (c23 : PySem.W.codeIn K cd23 "far_value" = true)
    (k23 : PySem.W.keepIn K (.ref f23) = true)
    (a24 : PySem.W.nsIn K mainGlobals "value_in" = some (some (.ref f24)))
    (l24 : K.lookup f24 = some ⟨oc24, od24, .func (PySem.W.fnOf "value_in" "value_in" (defArgs st_value_in) (defBody st_value_in) (defScope st_value_in) .none kV24 dc24 pm24 an24 cd24 ct24), sl24⟩)
    (c24 : PySem.W.codeIn K cd24 "value_in" = true)
    (k24 : PySem.W.keepIn K (.ref f24) = true)
    (a25 : PySem.W.nsIn K mainGlobals "cell_at" = some (some (.ref f25)))
    (l25 : K.lookup f25 = some ⟨oc25, od25, .func (PySem.W.fnOf "cell_at" "cell_at" (defArgs st_cell_at) (defBody st_cell_at) (defScope st_cell_at) .none kV25 dc25 pm25 an25 cd25 ct25), sl25⟩)
    (c25 : PySem.W.codeIn K cd25 "cell_at" = true)
    (k25 : PySem.W.keepIn K (.ref f25) = true)
    (a26 : PySem.W.nsIn K mainGlobals "_law_right" = some (some (.ref f26)))
    (l26 : K.lookup f26 = some ⟨oc26, od26, .func (PySem.W.fnOf "_law_right" "_law_right" (defArgs st__law_right) (defBody st__law_right) (defScope st__law_right) .none kV26 dc26 pm26 an26 cd26 ct26), sl26⟩)
    (c26 : PySem.W.codeIn K cd26 "_law_right" = true)
    (k26 : PySem.W.keepIn K (.ref f26) = true)
    (a27 : PySem.W.nsIn K mainGlobals "law" = some (some (.ref f27)))
    (l27 : K.lookup f27 = some ⟨oc27, od27, .func (PySem.W.fnOf "law" "law" (defArgs st_law) (defBody st_law) (defScope st_law) .none kV27 dc27 pm27 an27 cd27 ct27), sl27⟩)
    (c27 : PySem.W.codeIn K cd27 "law" = true)
    (k27 : PySem.W.keepIn K (.ref f27) = true)
    (pg : PySem.W.plainGet K C Str.empty = true)
    (hd : PySem.W.hasDictIn K C = true)
    (po : PySem.W.plainOver K C = true)
    (sa : PySem.W.findIn K (.ref C) "__setattr__" = some (some (.builtin "object.__setattr__")))
    (mk : PySem.W.makesIn K C = true)
    (kc : PySem.W.keepIn K (.ref C) = true)
    (ha : PySem.W.findIn K (.ref C) "__class__" = some (some (.builtin "object.__class__")))
    (hn : PySem.W.specialIn K (.builtin "object.__class__") "__get__" = some (some (.builtin "getset_descriptor.__get__")))
    (htk : PySem.W.takesIn K (.builtin "object.__class__") = some true)
    (hm : PySem.W.mroIn K C (.type "object") = some true)
    (n_modulus : PySem.W.findIn K (.ref C) "modulus" = some none)
    (n_parts : PySem.W.findIn K (.ref C) "parts" = some none)
    (n_powers : PySem.W.findIn K (.ref C) "powers" = some none)
    (n_lowered : PySem.W.findIn K (.ref C) "lowered" = some none)
    (z_len : PySem.W.nsIn K mainGlobals "len" = some none)
    (z_abs : PySem.W.nsIn K mainGlobals "abs" = some none)
    (z_sum : PySem.W.nsIn K mainGlobals "sum" = some none)
    (z_max : PySem.W.nsIn K mainGlobals "max" = some none)
    (z_min : PySem.W.nsIn K mainGlobals "min" = some none)
    (z_repr : PySem.W.nsIn K mainGlobals "repr" = some none)
    (z_int : PySem.W.nsIn K mainGlobals "int" = some none)
    (z_tuple : PySem.W.nsIn K mainGlobals "tuple" = some none)
    (z_list : PySem.W.nsIn K mainGlobals "list" = some none)
    (z_dict : PySem.W.nsIn K mainGlobals "dict" = some none)
    (z_sorted : PySem.W.nsIn K mainGlobals "sorted" = some none)
    (z_range : PySem.W.nsIn K mainGlobals "range" = some none)
    (z_enumerate : PySem.W.nsIn K mainGlobals "enumerate" = some none)
    (z_isinstance : PySem.W.nsIn K mainGlobals "isinstance" = some none)
    (hP : PySem.W.nsIn K mainGlobals "PRIMES" = some (some (.ref aP)))
    (lP : K.lookup aP = some ⟨.type "tuple", odP, .seq #[.int 2 tk1, .int 3 tk2, .int 5 tk3] nP, slP⟩)
    : ∃ (C : Addr) (fd : FuncData), (∀ (s : Shared) (v : Value), BindsTo s fd ⟨[v], []⟩ [("script", v)]) ∧ ∀ base : Heap, K.In base → base.Ns mainGlobals mg → FnD l.prog w K mg base 117 fa fd ["script"] (sp_law C) := by
  have e := hfa.symm.trans (PySem.W.mg_of X G a27)
  cases e
  have cl : Cls K C := ⟨pg, hd, po, sa⟩
  have Z : Tab l.prog K mg C := ⟨cl, ⟨cl, ha, hn, htk, hm, kit_self _ _⟩, PySem.W.mg_of X G aC, n_modulus, n_parts, n_powers, n_lowered, PySem.W.mg_none_of X G z_len, PySem.W.mg_none_of X G z_abs, PySem.W.mg_none_of X G z_sum, PySem.W.mg_none_of X G z_max, PySem.W.mg_none_of X G z_min, PySem.W.mg_none_of X G z_repr, PySem.W.mg_none_of X G z_int, PySem.W.mg_none_of X G z_tuple, PySem.W.mg_none_of X G z_list, PySem.W.mg_none_of X G z_dict, PySem.W.mg_none_of X G z_sorted, PySem.W.mg_none_of X G z_range, PySem.W.mg_none_of X G z_enumerate, PySem.W.mg_none_of X G z_isinstance, ⟨_, PySem.W.mg_of X G hP, .inr ⟨_, _, _, lP, rfl, rfl, by show 3 ≤ sizeLine; decide, .cons ⟨_, rfl⟩ (.cons ⟨_, rfl⟩ (.cons ⟨_, rfl⟩ .nil))⟩⟩⟩
  have F0 := fun_mk (st := st__law_pool) l0 c0 k0
  have F1 := fun_mk (st := st__law_draw) l1 c1 k1
  have F2 := fun_mk (st := st__law_kind) l2 c2 k2
  have F3 := fun_mk (st := st_check_row) l3 c3 k3
  have F4 := fun_mk (st := st_check_number) l4 c4 k4
  have F5 := fun_mk (st := st_check_far) l5 c5 k5
  have F6 := fun_mk (st := st_row_of) l6 c6 k6
  have F7 := fun_mk (st := st_plain) l7 c7 k7
  have F8 := fun_mk (st := st_multiplied) l8 c8 k8
  have F9 := fun_mk (st := st_cells_of) l9 c9 k9
  have F10 := fun_mk (st := st_Rule_next_row) l10 c10 k10
  have F11 := fun_mk (st := st_rows_until) l11 c11 k11
  have F12 := fun_mk (st := st_check_terms) l12 c12 k12
  have F13 := fun_mk (st := st_Rule_init) l13 c13 k13
  have F14 := fun_mk (st := st__law_made) l14 c14 k14
  have F15 := fun_mk (st := st__law_row) l15 c15 k15
  have F16 := fun_mk (st := st__law_step) l16 c16 k16
  have F17 := fun_mk (st := st__law_walk) l17 c17 k17
  have F18 := fun_mk (st := st_check_stretch) l18 c18 k18
  have F19 := fun_mk (st := st_Rule_prime) l19 c19 k19
  have F20 := fun_mk (st := st_parted) l20 c20 k20
  have F21 := fun_mk (st := st_far_stretch) l21 c21 k21
  have F22 := fun_mk (st := st_cells_between) l22 c22 k22
  have F23 := fun_mk (st := st_far_value) l23 c23 k23
  have F24 := fun_mk (st := st_value_in) l24 c24 k24
  have F25 := fun_mk (st := st_cell_at) l25 c25 k25
  have F26 := fun_mk (st := st__law_right) l26 c26 k26
  have F27 := fun_mk (st := st_law) l27 c27 k27
  have b0 := F0.binds (ps := P__law_pool) fun _ _ _ _ _ _ us hl => match us, hl with | [_, _], _ => rfl
  have b1 := F1.binds (ps := P__law_draw) fun _ _ _ _ _ _ us hl => match us, hl with | [_, _], _ => rfl
  have b2 := F2.binds (ps := P__law_kind) fun _ _ _ _ _ _ us hl => match us, hl with | [_], _ => rfl
  have b3 := F3.binds (ps := P_check_row) fun _ _ _ _ _ _ us hl => match us, hl with | [_, _], _ => rfl
  have b4 := F4.binds (ps := P_check_number) fun _ _ _ _ _ _ us hl => match us, hl with | [_, _], _ => rfl
  have b5 := F5.binds (ps := P_check_far) fun _ _ _ _ _ _ us hl => match us, hl with | [_, _, _], _ => rfl
  have b6 := F6.binds (ps := P_row_of) fun _ _ _ _ _ _ us hl => match us, hl with | [_], _ => rfl
  have b7 := F7.binds (ps := P_plain) fun _ _ _ _ _ _ us hl => match us, hl with | [_, _], _ => rfl
  have b8 := F8.binds (ps := P_multiplied) fun _ _ _ _ _ _ us hl => match us, hl with | [_, _, _], _ => rfl
  have b9 := F9.binds (ps := P_cells_of) fun _ _ _ _ _ _ us hl => match us, hl with | [_], _ => rfl
  have b10 := F10.binds (ps := P_Rule_next_row) fun _ _ _ _ _ _ us hl => match us, hl with | [_, _], _ => rfl
  have b11 := F11.binds (ps := P_rows_until) fun _ _ _ _ _ _ us hl => match us, hl with | [_, _, _], _ => rfl
  have b12 := F12.binds (ps := P_check_terms) fun _ _ _ _ _ _ us hl => match us, hl with | [_, _], _ => rfl
  have b13 := F13.binds (ps := P_Rule_init) fun _ _ _ _ _ _ us hl => match us, hl with | [_, _, _], _ => rfl
  have b14 := F14.binds (ps := P__law_made) fun _ _ _ _ _ _ us hl => match us, hl with | [_], _ => rfl
  have b15 := F15.binds (ps := P__law_row) fun _ _ _ _ _ _ us hl => match us, hl with | [_, _, _, _], _ => rfl
  have b16 := F16.binds (ps := P__law_step) fun _ _ _ _ _ _ us hl => match us, hl with | [_, _], _ => rfl
  have b17 := F17.binds (ps := P__law_walk) fun _ _ _ _ _ _ us hl => match us, hl with | [_, _, _], _ => rfl
  have b18 := F18.binds (ps := P_check_stretch) fun _ _ _ _ _ _ us hl => match us, hl with | [_, _], _ => rfl
  have b19 := F19.binds (ps := P_Rule_prime) fun _ _ _ _ _ _ us hl => match us, hl with | [_], _ => rfl
  have b20 := F20.binds (ps := P_parted) fun _ _ _ _ _ _ us hl => match us, hl with | [_, _, _], _ => rfl
  have b21 := F21.binds (ps := P_far_stretch) fun _ _ _ _ _ _ us hl => match us, hl with | [_, _, _, _, _], _ => rfl
  have b22 := F22.binds (ps := P_cells_between) fun _ _ _ _ _ _ us hl => match us, hl with | [_, _, _, _, _], _ => rfl
  have b23 := F23.binds (ps := P_far_value) fun _ _ _ _ _ _ us hl => match us, hl with | [_, _, _, _], _ => rfl
  have b24 := F24.binds (ps := P_value_in) fun _ _ _ _ _ _ us hl => match us, hl with | [_, _, _, _], _ => rfl
  have b25 := F25.binds (ps := P_cell_at) fun _ _ _ _ _ _ us hl => match us, hl with | [_, _, _, _], _ => rfl
  have b26 := F26.binds (ps := P__law_right) fun _ _ _ _ _ _ us hl => match us, hl with | [_], _ => rfl
  have b27 := F27.binds (ps := P_law) fun _ _ _ _ _ _ us hl => match us, hl with | [_], _ => rfl
  refine ⟨C, PySem.W.fnOf "law" "law" (defArgs st_law) (defBody st_law) (defScope st_law) .none kV27 dc27 pm27 an27 cd27 ct27, fun s v => .of_eq rfl, fun base _ _ => ?_⟩
  have Q__law_pool : FnG l.prog w K mg base 1 "_law_pool" "_law_pool" st__law_pool P__law_pool ((sp__law_pool C)) := ⟨⟨_, _, PySem.W.mg_of X G a0, F0, b0, ok__law_pool Z F0⟩⟩
  have Q__law_draw : FnG l.prog w K mg base 1 "_law_draw" "_law_draw" st__law_draw P__law_draw ((sp__law_draw C)) := ⟨⟨_, _, PySem.W.mg_of X G a1, F1, b1, ok__law_draw Z F1⟩⟩
  have Q__law_kind : FnG l.prog w K mg base 3 "_law_kind" "_law_kind" st__law_kind P__law_kind ((sp__law_kind C)) := ⟨⟨_, _, PySem.W.mg_of X G a2, F2, b2, ok__law_kind Z Q__law_draw F2⟩⟩
  have Q_check_row : FnG l.prog w K mg base 1 "check_row" "check_row" st_check_row P_check_row ((sp_check_row C)) := ⟨⟨_, _, PySem.W.mg_of X G a3, F3, b3, ok_check_row Z F3⟩⟩
  have Q_check_number : FnG l.prog w K mg base 1 "check_number" "check_number" st_check_number P_check_number ((sp_check_number C)) := ⟨⟨_, _, PySem.W.mg_of X G a4, F4, b4, ok_check_number Z F4⟩⟩
  have Q_check_far : FnG l.prog w K mg base 3 "check_far" "check_far" st_check_far P_check_far ((sp_check_far C)) := ⟨⟨_, _, PySem.W.mg_of X G a5, F5, b5, ok_check_far Z Q_check_row Q_check_number F5⟩⟩
  have Q_row_of : FnG l.prog w K mg base 1 "row_of" "row_of" st_row_of P_row_of ((sp_row_of C)) := ⟨⟨_, _, PySem.W.mg_of X G a6, F6, b6, ok_row_of Z F6⟩⟩
  have Q_plain : FnG l.prog w K mg base 1 "plain" "plain" st_plain P_plain ((sp_plain C)) := ⟨⟨_, _, PySem.W.mg_of X G a7, F7, b7, ok_plain Z F7⟩⟩
  have Q_multiplied : FnG l.prog w K mg base 3 "multiplied" "multiplied" st_multiplied P_multiplied ((sp_multiplied C)) := ⟨⟨_, _, PySem.W.mg_of X G a8, F8, b8, ok_multiplied Z Q_plain F8⟩⟩
  have Q_cells_of : FnG l.prog w K mg base 1 "cells_of" "cells_of" st_cells_of P_cells_of ((sp_cells_of C)) := ⟨⟨_, _, PySem.W.mg_of X G a9, F9, b9, ok_cells_of Z F9⟩⟩
  have Q_next_row : MtG l.prog w K mg base C 5 "next_row" "Rule.next_row" st_Rule_next_row P_Rule_next_row ((sp_Rule_next_row C)) := ⟨⟨_, _, ⟨a10, i10, k10⟩, F10, b10, ok_Rule_next_row Z Q_check_row Q_row_of Q_multiplied Q_cells_of F10⟩⟩
  have Q_rows_until : FnG l.prog w K mg base 7 "rows_until" "rows_until" st_rows_until P_rows_until ((sp_rows_untilO C)) := ⟨⟨_, _, PySem.W.mg_of X G a11, F11, b11, ok_rows_until Z Q_check_far Q_next_row F11⟩⟩
  have Q_check_terms : FnG l.prog w K mg base 1 "check_terms" "check_terms" st_check_terms P_check_terms ((sp_check_terms C)) := ⟨⟨_, _, PySem.W.mg_of X G a12, F12, b12, ok_check_terms Z F12⟩⟩
  have Q_init : MkG l.prog w K mg base C 5 "Rule.__init__" st_Rule_init P_Rule_init ((sp_Rule_init C)) := ⟨⟨_, _, ⟨mk, a13, i13, kc⟩, F13, ok_Rule_init Z Q_check_terms Q_multiplied F13⟩⟩
  have Q__law_made : FnG l.prog w K mg base 7 "_law_made" "_law_made" st__law_made P__law_made ((sp__law_made C)) := ⟨⟨_, _, PySem.W.mg_of X G a14, F14, b14, ok__law_made Z Q_init F14⟩⟩
  have Q__law_row : FnG l.prog w K mg base 3 "_law_row" "_law_row" st__law_row P__law_row ((sp__law_row C)) := ⟨⟨_, _, PySem.W.mg_of X G a15, F15, b15, ok__law_row Z Q__law_draw F15⟩⟩
  have Q__law_step : FnG l.prog w K mg base 1 "_law_step" "_law_step" st__law_step P__law_step ((sp__law_step C)) := ⟨⟨_, _, PySem.W.mg_of X G a16, F16, b16, ok__law_step Z F16⟩⟩
  have Q__law_walk : FnG l.prog w K mg base 3 "_law_walk" "_law_walk" st__law_walk P__law_walk ((sp__law_walk C)) := ⟨⟨_, _, PySem.W.mg_of X G a17, F17, b17, ok__law_walk Z Q__law_step F17⟩⟩
  have Q_check_stretch : FnG l.prog w K mg base 1 "check_stretch" "check_stretch" st_check_stretch P_check_stretch ((sp_check_stretch C)) := ⟨⟨_, _, PySem.W.mg_of X G a18, F18, b18, ok_check_stretch Z F18⟩⟩
  have Q_prime : PrG l.prog w K mg base C 1 "prime" ((sp_Rule_prime C)) := ⟨⟨_, _, _, _, ⟨p19, g19, t19, ⟨_, r19⟩⟩, b19, ok_Rule_prime Z F19⟩⟩
  have Q_parted : FnG l.prog w K mg base 1 "parted" "parted" st_parted P_parted ((sp_parted C)) := ⟨⟨_, _, PySem.W.mg_of X G a20, F20, b20, ok_parted Z F20⟩⟩
  have Q_far_stretch : FnG l.prog w K mg base 111 "far_stretch" "far_stretch" st_far_stretch P_far_stretch ((sp_far_stretch C)) := ⟨⟨_, _, PySem.W.mg_of X G a21, F21, b21, ok_far_stretch Z Q_prime Q_multiplied Q_parted (PySem.W.mg_of X G a21) F21 b21⟩⟩
  have Q_cells_between : FnG l.prog w K mg base 113 "cells_between" "cells_between" st_cells_between P_cells_between ((sp_cells_between C)) := ⟨⟨_, _, PySem.W.mg_of X G a22, F22, b22, ok_cells_between Z Q_check_far Q_check_stretch Q_far_stretch F22⟩⟩
  have Q_far_value : FnG l.prog w K mg base 5 "far_value" "far_value" st_far_value P_far_value ((sp_far_value C)) := ⟨⟨_, _, PySem.W.mg_of X G a23, F23, b23, ok_far_value Z Q_multiplied Q_parted F23⟩⟩
  have Q_value_in : FnG l.prog w K mg base 7 "value_in" "value_in" st_value_in P_value_in ((sp_value_in C)) := ⟨⟨_, _, PySem.W.mg_of X G a24, F24, b24, ok_value_in Z Q_far_value Q_cells_of Q_prime F24⟩⟩
  have Q_cell_at : FnG l.prog w K mg base 9 "cell_at" "cell_at" st_cell_at P_cell_at ((sp_cell_at C)) := ⟨⟨_, _, PySem.W.mg_of X G a25, F25, b25, ok_cell_at Z Q_check_far Q_value_in F25⟩⟩
  have Q__law_right : FnG l.prog w K mg base 115 "_law_right" "_law_right" st__law_right P__law_right ((sp__law_right C)) := ⟨⟨_, _, PySem.W.mg_of X G a26, F26, b26, ok__law_right Z Q__law_kind Q_rows_until Q__law_made Q__law_row Q__law_draw Q__law_walk Q_cells_between Q_cell_at F26⟩⟩
  exact ok_law Z Q__law_pool Q__law_right F27
end DL
open PySem PySem.W PyProof.Rows
set_option maxRecDepth 100000 in
set_option maxHeartbeats 0 in
theorem PySem.Challenge.cw_grownrows_k06_near_rows_holds : PySem.Challenge.rw_grownrows_k06_near_rows.Holds := by
  w_on; o_law; k_head; (case hw => w_witness2)
  k_fill
  refine DL.walk_ofD (l := PySem.Challenge.rw_grownrows_k06_near_rows) (n := 63) (k := 117) (sp := DL.sp_law) rfl (by decide) rfl ⟨rfl, by decide, by decide⟩ (fun w h Y => PySem.W.kIn_of Y) ?F (fun C is W h => DL.law_fin C is W h)
  case F =>
    intro w mg fa h KX G hmg
    refine' DL.all_mk KX G hmg ?aC ?a0 ?l0 ?c0 ?k0 ?a1 ?l1 ?c1 ?k1 ?a2 ?l2 ?c2 ?k2 ?a3 ?l3 ?c3 ?k3 ?a4 ?l4 ?c4 ?k4 ?a5 ?l5 ?c5 ?k5 ?a6 ?l6 ?c6 ?k6 ?a7 ?l7 ?c7 ?k7 ?a8 ?l8 ?c8 ?k8 ?a9 ?l9 ?c9 ?k9 ?a10 ?i10 ?l10 ?c10 ?k10 ?a11 ?l11 ?c11 ?k11 ?a12 ?l12 ?c12 ?k12 ?a13 ?i13 ?l13 ?c13 ?k13 ?a14 ?l14 ?c14 ?k14 ?a15 ?l15 ?c15 ?k15 ?a16 ?l16 ?c16 ?k16 ?a17 ?l17 ?c17 ?k17 ?a18 ?l18 ?c18 ?k18 ?p19 ?g19 ?t19 ?r19 ?l19 ?c19 ?k19 ?a20 ?l20 ?c20 ?k20 ?a21 ?l21 ?c21 ?k21 ?a22 ?l22 ?c22 ?k22 ?a23 ?l23 ?c23 ?k23 ?a24 ?l24 ?c24 ?k24 ?a25 ?l25 ?c25 ?k25 ?a26 ?l26 ?c26 ?k26 ?a27 ?l27 ?c27 ?k27 ?pg ?hd ?po ?sa ?mk ?kc ?ha ?hn ?htk ?hm ?n_modulus ?n_parts ?n_powers ?n_lowered ?z_len ?z_abs ?z_sum ?z_max ?z_min ?z_repr ?z_int ?z_tuple ?z_list ?z_dict ?z_sorted ?z_range ?z_enumerate ?z_isinstance ?hP ?lP
    (case aC => k_is)
    (case a0 => k_is)
    (case l0 => k_is)
    (case c0 => k_is)
    (case k0 => k_is)
    (case a1 => k_is)
    (case l1 => k_is)
    (case c1 => k_is)
    (case k1 => k_is)
    (case a2 => k_is)
    (case l2 => k_is)
    (case c2 => k_is)
    (case k2 => k_is)
    (case a3 => k_is)
    (case l3 => k_is)
    (case c3 => k_is)
    (case k3 => k_is)
    (case a4 => k_is)
    (case l4 => k_is)
    (case c4 => k_is)
    (case k4 => k_is)
    (case a5 => k_is)
    (case l5 => k_is)
    (case c5 => k_is)
    (case k5 => k_is)
    (case a6 => k_is)
    (case l6 => k_is)
    (case c6 => k_is)
    (case k6 => k_is)
    (case a7 => k_is)
    (case l7 => k_is)
    (case c7 => k_is)
    (case k7 => k_is)
    (case a8 => k_is)
    (case l8 => k_is)
    (case c8 => k_is)
    (case k8 => k_is)
    (case a9 => k_is)
    (case l9 => k_is)
    (case c9 => k_is)
    (case k9 => k_is)
    (case a10 => k_is)
    (case i10 => k_is)
    (case l10 => k_is)
    (case c10 => k_is)
    (case k10 => k_is)
    (case a11 => k_is)
    (case l11 => k_is)
    (case c11 => k_is)
    (case k11 => k_is)
    (case a12 => k_is)
    (case l12 => k_is)
    (case c12 => k_is)
    (case k12 => k_is)
    (case a13 => k_is)
    (case i13 => k_is)
    (case l13 => k_is)
    (case c13 => k_is)
    (case k13 => k_is)
    (case a14 => k_is)
    (case l14 => k_is)
    (case c14 => k_is)
    (case k14 => k_is)
    (case a15 => k_is)
    (case l15 => k_is)
    (case c15 => k_is)
    (case k15 => k_is)
    (case a16 => k_is)
    (case l16 => k_is)
    (case c16 => k_is)
    (case k16 => k_is)
    (case a17 => k_is)
    (case l17 => k_is)
    (case c17 => k_is)
    (case k17 => k_is)
    (case a18 => k_is)
    (case l18 => k_is)
    (case c18 => k_is)
    (case k18 => k_is)
    (case p19 => k_is)
    (case g19 => k_is)
    (case t19 => k_is)
    (case r19 => k_is)
    (case l19 => k_is)
    (case c19 => k_is)
    (case k19 => k_is)
    (case a20 => k_is)
    (case l20 => k_is)
    (case c20 => k_is)
    (case k20 => k_is)
    (case a21 => k_is)
    (case l21 => k_is)
    (case c21 => k_is)
    (case k21 => k_is)
    (case a22 => k_is)
    (case l22 => k_is)
    (case c22 => k_is)
    (case k22 => k_is)
    (case a23 => k_is)
    (case l23 => k_is)
    (case c23 => k_is)
    (case k23 => k_is)
    (case a24 => k_is)
    (case l24 => k_is)
    (case c24 => k_is)
    (case k24 => k_is)
    (case a25 => k_is)
    (case l25 => k_is)
    (case c25 => k_is)
    (case k25 => k_is)
    (case a26 => k_is)
    (case l26 => k_is)
    (case c26 => k_is)
    (case k26 => k_is)
    (case a27 => k_is)
    (case l27 => k_is)
    (case c27 => k_is)
    (case k27 => k_is)
    (case pg => k_is)
    (case hd => k_is)
    (case po => k_is)
    (case sa => k_is)
    (case mk => k_is)
    (case kc => k_is)
    (case ha => k_is)
    (case hn => k_is)
    (case htk => k_is)
    (case hm => k_is)
    (case n_modulus => k_is)
    (case n_parts => k_is)
    (case n_powers => k_is)
    (case n_lowered => k_is)
    (case z_len => k_is)
    (case z_abs => k_is)
    (case z_sum => k_is)
    (case z_max => k_is)
    (case z_min => k_is)
    (case z_repr => k_is)
    (case z_int => k_is)
    (case z_tuple => k_is)
    (case z_list => k_is)
    (case z_dict => k_is)
    (case z_sorted => k_is)
    (case z_range => k_is)
    (case z_enumerate => k_is)
    (case z_isinstance => k_is)
    (case hP => k_is)
    (case lP => k_is)

