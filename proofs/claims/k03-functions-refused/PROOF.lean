import PyProof.Rows.All
import Wide.All
import OpenK.AllK
import Wide.FinOn
import HandS.ForMost
import HandS.Exc
import HandS.WordsExc
import HandS.Walk
import HandS.HeadHook1
import HandS.HeadHook2
import HandS.Flow
import HandS.Deep
import HandS.TupAny
import HandS.TupMul
import HandS.FStr
import HandS.IsInst
import HandS.Defaults
import HandS.Wide
import HandS.Conv
import HandS.Zip
import HandS.SortKw
import HandS.TupSets
import HandS.RaiseMore
import HandS.Codes
import HandS.Style
import HandS.Small
import HandS.ClsMeth
import HandS.Property
import HandS.MakeKw
import HandS.OwnEq
import HandS.Replace
import HandS.Lambda
import KE.GoesEnum
import HandS.TryOnly
import HandS.HeadHook4
import PyProof.InstEq
import PyProof.CallStr
import OpenK.KOps
import KE.DataFind
import HandS.Star
import HandS.SortOrd
import HandS.SortRule
import HandS.SortInts
import HandS.Zip0
import KE.KDictZip
import KE.KExcSuper
import KE.KExcIs
import KE.KTryMore
import KE.KStateDown
import Lean
import HandS.Head0
import HandS.Head1
import HandS.Head2
import HandS.HeadEnd
import HandS.HeadNt
import PyProof.DictUpdate
import PyProof.DictDisplay
import HandS.List
import HandS.More
import HandS.Text
import HandS.SetFor
import HandS.Strs
import KE.DataMinMax
import HandS.TupLen
import KE.KDictCopyH
import KE.KDictSum
import KE.KDictPairs
import KE.KDictKeyed
import KE.SortKeyHeap
import HandS.ListItems
import HandS.ExcOwn
import HandS.ExcInit
import HandS.ExcIs
import HandS.ExcField
import HandS.HotCalls
import KE.GoesZip
import KE.GoesMore
import HandS.TupLe
import PySem.Challenge.RW_budgetfolds_k03_functions_refused
set_option Elab.async false
set_option linter.all false
set_option maxRecDepth 100000
set_option maxHeartbeats 2000000
/-! DL1: data, states, the relation to the layer's slots and heaps. -/
namespace DL
open PySem PySem.Spec PyProof.Rows L2
inductive D where
  | non | bl (b : Bool) | int (i : Int) | str (x : Str) | ty (n : String) | glo (x : Str)
  | tup (xs : List D) | lst (xs : List D) | ins (c : Str) (fs : List (Str × D)) | dic (kvs : List (D × D)) | tdc (kvs : List (List Int × D)) | exn (c : Str) (fs : List (Str × D))
/-- a caught exception's object -/
def exH (a : Addr) (o : Obj) : HO := .ext fun h => h.get? a = some o
/-! dicts with tuples of ints as keys: the entries of the object, each with the key's own tuple -/
abbrev Te := List Int × Addr × Value
def entI (x : Te) : DictEntry := ⟨reduceHash (Builtin.Tuple.tupleHashOf (x.1.map hashInt)), .ref x.2.1, x.2.2⟩
def tdO (a : Addr) (ep : Nat) (xs : List Te) : HO := .ext fun h => (a == sysModules) = false ∧ ∃ o, h.get? a = some o ∧ o.ExactDict ∧ o.data = .dict (xs.map entI).toArray ep
mutual
inductive Is (K : PySem.W.Frag) (F : Hp) : V → D → Prop
  | non : Is K F .non .non
  | bl (b : Bool) : Is K F (.bl b) (.bl b)
  | int (i : Int) : Is K F (.int i) (.int i)
  | str (x : Str) : Is K F (.str x) (.str x)
  | ty (n : String) : Is K F (.ty n) (.ty n)
  | glo (x : Str) : Is K F (.ref (He.ga K x)) (.glo x)
  | tup {a : Addr} {xs : List V} {ds : List D} : SqT K F a xs → IsAll K F xs ds → Is K F (.ref a) (.tup ds)
  | lst {a : Addr} {xs : List V} {ds : List D} : Rd F a (.lst xs) → IsAll K F xs ds → Is K F (.ref a) (.lst ds)
  | ins {a dx : Addr} {c : Str} {vs : List (Str × V)} {fs : List (Str × D)} : F a = some (.ins (He.ga K c) dx vs) → IsFs K F vs fs → Is K F (.ref a) (.ins c fs)
  | dic {a : Addr} {ks : List (Key × V)} {kvs : List (D × D)} : F a = some (.dK ks) → IsKv K F ks kvs → Is K F (.ref a) (.dic kvs)
  | tdc {a : Addr} {ep : Nat} {xs : List Te} {kvs : List (List Int × D)} : F a = some (tdO a ep xs) → IsTd K F xs kvs → (kvs.map (·.1)).Nodup → kvs.length ≤ 100000 → Is K F (.ref a) (.tdc kvs)
  | exn {a dx : Addr} {o : Obj} {ws : Array Value} {c : Str} {vs : List (Str × V)} {fs : List (Str × D)} : F a = some (exH a o) → o.cls = .ref (He.ga K c) → o.dict = some dx → o.data = .fields ws → F dx = some (.xd vs) → IsFs K F vs fs → Is K F (.ref a) (.exn c fs)
  | exn0 {a : Addr} {o : Obj} {ws : Array Value} {c : Str} : F a = some (exH a o) → o.cls = .ref (He.ga K c) → o.dict = none → o.data = .fields ws → Is K F (.ref a) (.exn c [])
inductive IsAll (K : PySem.W.Frag) (F : Hp) : List V → List D → Prop
  | nil : IsAll K F [] []
  | cons {v : V} {vs : List V} {d : D} {ds : List D} : Is K F v d → IsAll K F vs ds → IsAll K F (v :: vs) (d :: ds)
inductive IsFs (K : PySem.W.Frag) (F : Hp) : List (Str × V) → List (Str × D) → Prop
  | nil : IsFs K F [] []
  | cons {f : Str} {v : V} {vs : List (Str × V)} {d : D} {ds : List (Str × D)} : Is K F v d → IsFs K F vs ds → IsFs K F ((f, v) :: vs) ((f, d) :: ds)
inductive IsKv (K : PySem.W.Frag) (F : Hp) : List (Key × V) → List (D × D) → Prop
  | nil : IsKv K F [] []
  | int {i : Int} {v : V} {vs : List (Key × V)} {d : D} {ds : List (D × D)} : Is K F v d → IsKv K F vs ds → IsKv K F ((.inl i, v) :: vs) ((.int i, d) :: ds)
  | str {x : Str} {v : V} {vs : List (Key × V)} {d : D} {ds : List (D × D)} : Is K F v d → IsKv K F vs ds → IsKv K F ((.inr x, v) :: vs) ((.str x, d) :: ds)
inductive IsTd (K : PySem.W.Frag) (F : Hp) : List Te → List (List Int × D) → Prop
  | nil : IsTd K F [] []
  | cons {k : List Int} {b : Addr} {v : V} {u : Value} {d : D} {xs : List Te} {ds : List (List Int × D)} : SqT K F b (k.map V.int) → Is K F v d → RelV v u → IsTd K F xs ds → IsTd K F ((k, b, u) :: xs) ((k, d) :: ds)
end
def Sub (F H : Hp) : Prop := ∀ a o, F a = some o → H a = some o
theorem Sub.refl (H : Hp) : Sub H H := fun _ _ h => h
theorem Sub.trans {F G H : Hp} (a : Sub F G) (b : Sub G H) : Sub F H := fun x o h => b x o (a x o h)
theorem Sub.rd {F H : Hp} (s : Sub F H) {a : Addr} {u : HO} (h : Rd F a u) : Rd H a u := by
  rcases h with h | ⟨o, h⟩
  · exact .inl (s _ _ h)
  · exact .inr ⟨o, s _ _ h⟩
theorem Sub.l {K : PySem.W.Frag} {F H : Hp} {a : Addr} {xs : List V} (s : Sub F H) (h : SqL K F a xs) : SqL K H a xs := by
  rcases h with h | h
  · exact .inl (s.rd h)
  · exact .inr h
theorem Sub.t {K : PySem.W.Frag} {F H : Hp} {a : Addr} {xs : List V} (s : Sub F H) (h : SqT K F a xs) : SqT K H a xs := by
  rcases h with h | h
  · exact .inl (s.rd h)
  · exact .inr h
section
variable {K : PySem.W.Frag} {F F' : Hp}
mutual
theorem Is.up (s : Sub F F') : ∀ {v : V} {d : D}, Is K F v d → Is K F' v d
  | _, _, .non => .non
  | _, _, .bl b => .bl b
  | _, _, .int i => .int i
  | _, _, .str x => .str x
  | _, _, .ty n => .ty n
  | _, _, .glo x => .glo x
  | _, _, .tup h r => .tup (s.t h) (IsAll.up s r)
  | _, _, .lst h r => .lst (s.rd h) (IsAll.up s r)
  | _, _, .ins h r => .ins (s _ _ h) (IsFs.up s r)
  | _, _, .dic h r => .dic (s _ _ h) (IsKv.up s r)
  | _, _, .tdc h r n l => .tdc (s _ _ h) (IsTd.up s r) n l
  | _, _, .exn h e1 e2 e3 h2 r => .exn (s _ _ h) e1 e2 e3 (s _ _ h2) (IsFs.up s r)
  | _, _, .exn0 h e1 e2 e3 => .exn0 (s _ _ h) e1 e2 e3
theorem IsAll.up (s : Sub F F') : ∀ {vs : List V} {ds : List D}, IsAll K F vs ds → IsAll K F' vs ds
  | _, _, .nil => .nil
  | _, _, .cons h r => .cons (Is.up s h) (IsAll.up s r)
theorem IsFs.up (s : Sub F F') : ∀ {vs : List (Str × V)} {ds : List (Str × D)}, IsFs K F vs ds → IsFs K F' vs ds
  | _, _, .nil => .nil
  | _, _, .cons h r => .cons (Is.up s h) (IsFs.up s r)
theorem IsKv.up (s : Sub F F') : ∀ {vs : List (Key × V)} {ds : List (D × D)}, IsKv K F vs ds → IsKv K F' vs ds
  | _, _, .nil => .nil
  | _, _, .int h r => .int (Is.up s h) (IsKv.up s r)
  | _, _, .str h r => .str (Is.up s h) (IsKv.up s r)
theorem IsTd.up (s : Sub F F') : ∀ {vs : List Te} {ds : List (List Int × D)}, IsTd K F vs ds → IsTd K F' vs ds
  | _, _, .nil => .nil
  | _, _, .cons b h q r => .cons (s.t b) (Is.up s h) q (IsTd.up s r)
end
theorem IsAll.len : ∀ {vs : List V} {ds : List D}, IsAll K F vs ds → vs.length = ds.length
  | _, _, .nil => rfl
  | _, _, .cons _ r => by rw [List.length_cons, List.length_cons, IsAll.len r]
theorem IsAll.get : ∀ {vs : List V} {ds : List D} {i : Nat} {d : D}, IsAll K F vs ds → ds[i]? = some d → ∃ v, vs[i]? = some v ∧ Is K F v d
  | _, _, _, _, .nil, h => by simp at h
  | _, _, 0, _, .cons h _, e => by simp at e; subst e; exact ⟨_, rfl, h⟩
  | _, _, i + 1, _, .cons _ r, e => IsAll.get (i := i) r (by simpa using e)
theorem IsAll.getV : ∀ {vs : List V} {ds : List D} {i : Nat} {v : V}, IsAll K F vs ds → vs[i]? = some v → ∃ d, ds[i]? = some d ∧ Is K F v d
  | _, _, _, _, .nil, h => by simp at h
  | _, _, 0, _, .cons h _, e => by simp at e; subst e; exact ⟨_, rfl, h⟩
  | _, _, i + 1, _, .cons _ r, e => IsAll.getV (i := i) r (by simpa using e)
theorem IsAll.app : ∀ {vs us : List V} {ds es : List D}, IsAll K F vs ds → IsAll K F us es → IsAll K F (vs ++ us) (ds ++ es)
  | _, _, _, _, .nil, h => h
  | _, _, _, _, .cons h r, s => .cons h (IsAll.app r s)
theorem IsAll.take : ∀ {vs : List V} {ds : List D} (n : Nat), IsAll K F vs ds → IsAll K F (vs.take n) (ds.take n)
  | _, _, 0, _ => .nil
  | _, _, _ + 1, .nil => .nil
  | _, _, n + 1, .cons h r => .cons h (IsAll.take n r)
theorem IsAll.drop : ∀ {vs : List V} {ds : List D} (n : Nat), IsAll K F vs ds → IsAll K F (vs.drop n) (ds.drop n)
  | _, _, 0, r => r
  | _, _, _ + 1, .nil => .nil
  | _, _, n + 1, .cons _ r => IsAll.drop n r
theorem IsAll.set : ∀ {vs : List V} {ds : List D} {v : V} {d : D} (i : Nat), IsAll K F vs ds → Is K F v d → IsAll K F (vs.set i v) (ds.set i d)
  | _, _, _, _, _, .nil, _ => .nil
  | _, _, _, _, 0, .cons _ r, h => .cons h r
  | _, _, _, _, i + 1, .cons h r, q => .cons h (IsAll.set i r q)
theorem IsAll.rep {v : V} {d : D} (h : Is K F v d) : ∀ n : Nat, IsAll K F (List.replicate n v) (List.replicate n d)
  | 0 => .nil
  | n + 1 => .cons h (IsAll.rep h n)
theorem IsFs.look : ∀ {vs : List (Str × V)} {fs : List (Str × D)} {f : Str} {d : D}, IsFs K F vs fs → fs.lookup f = some d → ∃ v, vs.lookup f = some v ∧ Is K F v d
  | _, _, _, _, .nil, h => by simp at h
  | (g, v) :: vs, _ :: ds, f, d, .cons h r, e => by
    rw [List.lookup_cons] at e ⊢
    cases hx : f == g with
    | true =>
      rw [hx] at e
      cases e
      exact ⟨v, rfl, h⟩
    | false =>
      rw [hx] at e
      exact IsFs.look r e
theorem IsFs.none : ∀ {vs : List (Str × V)} {fs : List (Str × D)} {f : Str}, IsFs K F vs fs → fs.lookup f = .none → vs.lookup f = .none
  | _, _, _, .nil, _ => rfl
  | (g, v) :: vs, _ :: ds, f, .cons h r, e => by
    rw [List.lookup_cons] at e ⊢
    cases hx : f == g with
    | true =>
      rw [hx] at e
      cases e
    | false =>
      rw [hx] at e
      exact IsFs.none r e
theorem IsFs.len : ∀ {vs : List (Str × V)} {ds : List (Str × D)}, IsFs K F vs ds → vs.length = ds.length
  | _, _, .nil => rfl
  | _, _, .cons _ r => by rw [List.length_cons, List.length_cons, IsFs.len r]
end
/-- o.f = d -/
def putD (f : Str) (d : D) : List (Str × D) → List (Str × D)
  | [] => [(f, d)]
  | (g, e) :: r => if g = f then (f, d) :: r else (g, e) :: putD f d r
theorem IsFs.put {K : PySem.W.Frag} {F : Hp} {f : Str} {v : V} {d : D} (q : Is K F v d) : ∀ {vs : List (Str × V)} {fs : List (Str × D)}, IsFs K F vs fs → IsFs K F (putF f v vs) (putD f d fs)
  | _, _, .nil => .cons q .nil
  | (g, w) :: vs, _ :: ds, .cons h r => by
    unfold putF putD
    by_cases e : g = f
    · subst e
      rw [if_pos rfl, if_pos rfl]
      exact .cons q r
    · rw [if_neg e, if_neg e]
      exact .cons h (IsFs.put q r)
/-! ### tables of code objects -/
/-- a def that has cells holds lambdas: the table of its code object, the lambdas' name -/
def tb1 (K : PySem.W.Frag) (x : Addr × Obj) : Option (Addr × Str) := match x.2.data with
  | .func fd => if fd.scope.names.any (fun y => y.2 == NameKind.cell) then (match fd.code with
      | .ref c => (match K.lookup c with
          | some oc => (match oc.data with
              | .fields vs => (match (vs[11]? : Option Value) with
                  | some (.ref P) => some (P, fd.qualname ++ ".<locals>.<lambda>")
                  | _ => none)
              | _ => none)
          | none => none)
      | _ => none) else none
  | _ => none
/-- .. and its code object -/
def tb2 (K : PySem.W.Frag) (x : Addr × Obj) : Option (Addr × Addr) := match x.2.data with
  | .func fd => if fd.scope.names.any (fun y => y.2 == NameKind.cell) then (match fd.code with
      | .ref c => (match K.lookup c with
          | some oc => (match oc.data with
              | .fields vs => (match (vs[11]? : Option Value) with
                  | some (.ref P) => some (c, P)
                  | _ => none)
              | _ => none)
          | none => none)
      | _ => none) else none
  | _ => none
theorem tb_12 {K : PySem.W.Frag} {x : Addr × Obj} {P : Addr} {q : Str} (h : tb1 K x = some (P, q)) : ∃ c, tb2 K x = some (c, P) := by
  unfold tb1 at h
  unfold tb2
  split at h
  · rename_i fd e
    split at h
    · rename_i e2
      split at h
      · rename_i c e3
        split at h
        · rename_i oc e4
          split at h
          · rename_i vs e5
            split at h
            · rename_i P' e6
              cases h
              exact ⟨c, by simp only [e, if_pos e2, e3, e4, e5, e6]⟩
            · cases h
          · cases h
        · cases h
      · cases h
    · cases h
  · cases h
@[irreducible] def tbC (K : PySem.W.Frag) : List (Addr × Addr) := K.filterMap (tb2 K)
theorem tbC_eq (K : PySem.W.Frag) : tbC K = K.filterMap (tb2 K) := by unfold tbC; rfl
@[irreducible] def tbOf (K : PySem.W.Frag) : List (Addr × Str) := K.filterMap (tb1 K)
theorem tbOf_eq (K : PySem.W.Frag) : tbOf K = K.filterMap (tb1 K) := by unfold tbOf; rfl
theorem tbOf_C {K : PySem.W.Frag} {p : Addr × Str} (h : p ∈ tbOf K) : ∃ c, (c, p.1) ∈ tbC K := by
  rw [tbOf_eq] at h
  rw [tbC_eq]
  obtain ⟨x, hx, e⟩ := List.mem_filterMap.mp h
  obtain ⟨c, e2⟩ := tb_12 (P := p.1) (q := p.2) e
  exact ⟨c, List.mem_filterMap.mpr ⟨x, hx, e2⟩⟩
/-- each code object that the table at P tells bears the name q, and is known to stay -/
def TabF (F H : Hp) (P : Addr) (q : Str) : Prop := ∃ ps : Array Value, H P = some (.tbl ps) ∧ TriplesOk ps.toList ∧ ∀ (pos : Pos) (cv : Value), codeAmong pos ps.toList = some cv → ∃ c, cv = .ref c ∧ F c = some (LamX.CodeO c q)
def TabsF (K : PySem.W.Frag) (F H : Hp) : Prop := ∀ p ∈ tbOf K, TabF F H p.1 p.2
theorem TabsF.ext {K : PySem.W.Frag} {F H F' H' : Hp} (t : TabsF K F H) (uf : Sub F F') (e : Sub H H') : TabsF K F' H' := fun p hp => by
  obtain ⟨ps, h1, h2, h3⟩ := t p hp
  refine ⟨ps, e _ _ h1, h2, fun pos cv hc => ?_⟩
  obtain ⟨c, e1, e2⟩ := h3 pos cv hc
  exact ⟨c, e1, uf _ _ e2⟩
theorem TabsF.up {K : PySem.W.Frag} {F H F' : Hp} (t : TabsF K F H) (uf : Sub F F') : TabsF K F' H := t.ext uf (Sub.refl _)
/-- what is no table is written -/
theorem TabsF.wr {K : PySem.W.Frag} {F H F' H' : Hp} (t : TabsF K F H) (uf : Sub F F') {a : Addr} (n : ∀ ps, H a ≠ some (.tbl ps)) (e : ∀ b o, b ≠ a → H b = some o → H' b = some o) : TabsF K F' H' := fun p hp => by
  obtain ⟨ps, h1, h2, h3⟩ := t p hp
  refine ⟨ps, e _ _ (fun z => n ps (by rw [← z]; exact h1)) h1, h2, fun pos cv hc => ?_⟩
  obtain ⟨c, e1, e2⟩ := h3 pos cv hc
  exact ⟨c, e1, uf _ _ e2⟩
theorem TabsF.upd {K : PySem.W.Frag} {F H : Hp} (t : TabsF K F H) {a : Addr} {o : HO} (n : ∀ ps, H a ≠ some (.tbl ps)) : TabsF K F (upd H a o) := t.wr (Sub.refl _) n fun b u z h => by rw [upd_ne z]; exact h
/-- what is known of codes stays known -/
theorem TabsF.strip {K : PySem.W.Frag} {F H F' : Hp} (t : TabsF K F H) (e : ∀ c q, F c = some (LamX.CodeO c q) → F' c = some (LamX.CodeO c q)) : TabsF K F' H := fun p hp => by
  obtain ⟨ps, h1, h2, h3⟩ := t p hp
  refine ⟨ps, h1, h2, fun pos cv hc => ?_⟩
  obtain ⟨c, e1, e2⟩ := h3 pos cv hc
  exact ⟨c, e1, e _ _ e2⟩
theorem codeO_lst {c : Addr} {q : Str} {ks : List V} : LamX.CodeO c q ≠ .lst ks := fun z => by unfold LamX.CodeO at z; cases z
theorem codeO_ins {c : Addr} {q : Str} {x y : Addr} {ks : List (Str × V)} : LamX.CodeO c q ≠ .ins x y ks := fun z => by unfold LamX.CodeO at z; cases z
theorem heap_size (n : Nat) : ∃ h : Heap, h.objs.size = n := by
  induction n with
  | zero => exact ⟨{}, rfl⟩
  | succ n ih =>
    obtain ⟨h, e⟩ := ih
    exact ⟨h.push { cls := .none, data := .plain }, by rw [Heap.size_push, e]⟩
theorem codeO_tdO {c : Addr} {q : Str} {ep : Nat} {xs : List Te} : LamX.CodeO c q ≠ tdO c ep xs := fun z => by
  unfold LamX.CodeO tdO at z
  obtain ⟨h, hs⟩ := heap_size c
  have e := congrFun (HO.ext.inj z) (h.push { cls := .none, data := .fields #[.none, .str q 0] })
  have g : (h.push { cls := .none, data := .fields #[.none, .str q 0] }).get? c = some { cls := .none, data := .fields #[.none, .str q 0] } := by rw [← hs]; exact Heap.get?_push_size h rfl
  have y := e.mp ⟨_, _, 0, g, rfl, rfl⟩
  obtain ⟨_, o, ho, _, hd⟩ := y
  rw [g] at ho
  cases ho
  cases hd
/-- a table may have grown, all else stands -/
def Kept (o : HO) (r : Option HO) : Prop := r = some o ∨ ((∃ ps, o = .tbl ps) ∧ ∃ qs, r = some (.tbl qs))
theorem Kept.ne {o : HO} {r : Option HO} (k : Kept o r) : r ≠ none := by
  rcases k with k | ⟨_, qs, k⟩ <;> rw [k] <;> exact fun z => nomatch z
theorem Kept.nt {o : HO} {r : Option HO} (k : Kept o r) (n : ∀ ps, o ≠ .tbl ps) : r = some o := k.elim id fun ⟨⟨ps, e⟩, _⟩ => absurd e (n ps)
theorem Kept.trans {o : HO} {r r' : Option HO} (k : Kept o r) (k' : ∀ u, r = some u → Kept u r') : Kept o r' := by
  rcases k with k | ⟨e, qs, k⟩
  · exact k' _ k
  · rcases k' _ k with z | ⟨_, z⟩
    · exact .inr ⟨e, qs, z⟩
    · exact .inr ⟨e, z⟩
theorem Kept.sub {o : HO} {H H' : Hp} {a : Addr} (k : Kept o (H a)) (e : Sub H H') : Kept o (H' a) := k.trans fun u h => .inl (e _ _ h)
theorem tdO_nt {a : Addr} {ep : Nat} {xs : List Te} (ps : Array Value) : tdO a ep xs ≠ .tbl ps := fun z => by
  unfold tdO at z
  cases z
/-! ### states -/
/-- what a slot's own thing holds (a thing that nobody else knows) -/
inductive Cell where
  | lst (ds : List D) | ins (c : Str) (fs : List (Str × D)) | dic (kvs : List (D × D)) | tdc (kvs : List (List Int × D))
inductive Sl where
  | no | val (d : D) | own (c : Cell) | io (j : Nat)
/-- the slots; the things that were handed in to be changed -/
structure S where
  sl : List Sl
  io : List Cell
inductive Res (α : Type) where
  | ok (a : α) (s : S) | exc (c : Str) (fs : List (Str × D)) (s : S) | bad
abbrev M (α : Type) := S → Res α
/-- a def's value: a datum, or a thing of its own -/
inductive RV where
  | val (d : D) | own (c : Cell)
inductive Out where
  | nx (s : S) | rt (r : RV) (s : S) | bk (s : S) | ct (s : S) | exc (c : Str) (fs : List (Str × D)) (s : S) | bad
def CellAt (K : PySem.W.Frag) (F H : Hp) (a : Addr) : Cell → Prop
  | .lst ds => ∃ xs, H a = some (.lst xs) ∧ IsAll K F xs ds
  | .ins c fs => ∃ dx vs, H a = some (.ins (He.ga K c) dx vs) ∧ IsFs K F vs fs
  | .dic kvs => ∃ ks, H a = some (.dK ks) ∧ IsKv K F ks kvs
  | .tdc kvs => ∃ ep xs, H a = some (tdO a ep xs) ∧ IsTd K F xs kvs ∧ (kvs.map (·.1)).Nodup ∧ kvs.length ≤ 100000
theorem CellAt.up {K : PySem.W.Frag} {F F' H H' : Hp} {a : Addr} {c : Cell} (h : CellAt K F H a c) (s : Sub F F') (e : ∀ o, H a = some o → H' a = some o) : CellAt K F' H' a c := by
  cases c with
  | lst ds => obtain ⟨xs, h1, h2⟩ := h; exact ⟨xs, e _ h1, h2.up s⟩
  | ins c fs => obtain ⟨dx, vs, h1, h2⟩ := h; exact ⟨dx, vs, e _ h1, h2.up s⟩
  | dic kvs => obtain ⟨ks, h1, h2⟩ := h; exact ⟨ks, e _ h1, h2.up s⟩
  | tdc kvs => obtain ⟨ep, ks, h1, h2, h3⟩ := h; exact ⟨ep, ks, e _ h1, h2.up s, h3⟩
/-- the thing is no table -/
theorem CellAt.nt {K : PySem.W.Frag} {F H : Hp} {a : Addr} {c : Cell} (h : CellAt K F H a c) (ps : Array Value) : H a ≠ some (.tbl ps) := by
  cases c with
  | lst ds => obtain ⟨xs, h1, h2⟩ := h; rw [h1]; exact fun z => nomatch z
  | ins c fs => obtain ⟨dx, vs, h1, h2⟩ := h; rw [h1]; exact fun z => nomatch z
  | dic kvs => obtain ⟨ks, h1, h2⟩ := h; rw [h1]; exact fun z => nomatch z
  | tdc kvs => obtain ⟨ep, ks, h1, h2⟩ := h; rw [h1]; exact fun z => tdO_nt ps (Option.some.inj z)
theorem CellAt.upK {K : PySem.W.Frag} {F F' H H' : Hp} {a : Addr} {c : Cell} (h : CellAt K F H a c) (s : Sub F F') (e : ∀ o, H a = some o → Kept o (H' a)) : CellAt K F' H' a c :=
  h.up s fun o q => (e o q).nt fun ps z => h.nt ps (by rw [← z]; exact q)
theorem CellAt.there {K : PySem.W.Frag} {F H : Hp} {a : Addr} {c : Cell} (h : CellAt K F H a c) : ∃ o, H a = some o := by
  cases c with
  | lst ds => obtain ⟨xs, h1, h2⟩ := h; exact ⟨_, h1⟩
  | ins c fs => obtain ⟨dx, vs, h1, h2⟩ := h; exact ⟨_, h1⟩
  | dic kvs => obtain ⟨ks, h1, h2⟩ := h; exact ⟨_, h1⟩
  | tdc kvs => obtain ⟨ep, ks, h1, h2⟩ := h; exact ⟨_, h1⟩
/-- what is fixed through a def: the text, the heap at the entry and what of it is known to stay, what was handed in to be changed -/
structure Ct where
  K : PySem.W.Frag
  H0 : Hp
  F0 : Hp
  A : List Addr
def SlotOk (C : Ct) (F H : Hp) (o : Option (Option V)) : Sl → Prop
  | .no => True
  | .val d => ∃ v, o = some (some v) ∧ Is C.K F v d
  | .own c => ∃ a, o = some (some (.ref a)) ∧ F a = none ∧ C.H0 a = none ∧ CellAt C.K F H a c
  | .io j => ∃ a, o = some (some (.ref a)) ∧ C.A[j]? = some a
def OwnAt (σ : L2.St) (sl : List Sl) (i : Nat) (a : Addr) : Prop := σ[i]? = some (some (.ref a)) ∧ ∃ c, sl[i]? = some (.own c)
/-- at the entry: what is known to stay stands, tables are not among it -/
def S0 (C : Ct) : Prop := Sub C.F0 C.H0 ∧ ∀ p ∈ tbOf C.K, C.F0 p.1 = none ∧ C.H0 p.1 ≠ none
structure Rel (C : Ct) (σ : L2.St) (H F : Hp) (s : S) : Prop where
  sub : Sub F H
  keep : ∀ a o, C.H0 a = some o → a ∉ C.A → Kept o (H a)
  f0 : ∀ a, C.H0 a ≠ none → F a = C.F0 a
  len : s.sl.length = σ.length
  slot : ∀ (i : Nat) (x : Sl), s.sl[i]? = some x → SlotOk C F H σ[i]? x
  iol : s.io.length = C.A.length
  io : ∀ (j : Nat) (a : Addr) (c : Cell), C.A[j]? = some a → s.io[j]? = some c → C.F0 a = none ∧ CellAt C.K F H a c
  ap : ∀ (i j : Nat) (a : Addr), OwnAt σ s.sl i a → OwnAt σ s.sl j a → i = j
  inn : ∀ a ∈ C.A, C.H0 a ≠ none
  nd : C.A.Nodup
  s0 : S0 C
  tabs : TabsF C.K F H
section
variable {C : Ct} {σ : L2.St} {H F H' F' : Hp} {s : S}
theorem Rel.ioF (r : Rel C σ H F s) {j : Nat} {a : Addr} {c : Cell} (h : C.A[j]? = some a) (e : s.io[j]? = some c) : F a = none := by
  rw [r.f0 a (r.inn a (List.mem_of_getElem? h))]
  exact (r.io j a c h e).1
theorem Rel.tf0 (r : Rel C σ H F s) : ∀ p ∈ tbOf C.K, F p.1 = none := fun p hp => by
  rw [r.f0 p.1 (r.s0.2 p hp).2]
  exact (r.s0.2 p hp).1
/-- more was made: what stood stands, what is known to stay is among what is new or was known -/
structure Ext (H F H' F' : Hp) : Prop where
  h : Sub H H'
  f : Sub F F'
  s : Sub F' H'
  o : ∀ a, H a ≠ none → F' a = F a
theorem Ext.refl (h : Sub F H) : Ext H F H F := ⟨Sub.refl _, Sub.refl _, h, fun _ _ => rfl⟩
theorem Ext.trans {H2 F2 : Hp} (a : Ext H F H' F') (b : Ext H' F' H2 F2) : Ext H F H2 F2 := ⟨a.h.trans b.h, a.f.trans b.f, b.s, fun x h => by
  rw [b.o x ?_, a.o x h]
  cases e : H x with
  | none => exact absurd e h
  | some o => rw [a.h x o e]; exact fun z => nomatch z⟩
theorem Ext.new {p : Addr} {o : HO} (h : Sub F H) (n : H p = none) : Ext H F (upd H p o) (upd F p o) where
  h := fun a u e => by rw [upd_ne (ne_of_none e n)]; exact e
  f := fun a u e => by rw [upd_ne (ne_of_none (h a u e) n)]; exact e
  s := fun a u e => by
    by_cases q : a = p
    · subst q; rw [upd_same] at e ⊢; exact e
    · rw [upd_ne q] at e ⊢; exact h a u e
  o := fun a e => upd_ne fun z => e (by rw [z]; exact n)
theorem Rel.ext (r : Rel C σ H F s) (e : Ext H F H' F') : Rel C σ H' F' s where
  sub := e.s
  keep := fun a o h n => (r.keep a o h n).sub e.h
  f0 := fun a h => by
    have h2 : H a ≠ none := by
      cases q : C.H0 a with
      | none => exact absurd q h
      | some o =>
        by_cases m : a ∈ C.A
        · obtain ⟨j, hj⟩ := List.getElem?_of_mem m
          cases z : s.io[j]? with
          | none =>
            have l1 := List.getElem?_eq_none_iff.mp z
            have l2 : j < C.A.length := (List.getElem?_eq_some_iff.mp hj).1
            rw [r.iol] at l1
            omega
          | some c =>
            obtain ⟨o, ho⟩ := (r.io j a c hj z).2.there
            rw [ho]; exact fun z => nomatch z
        · exact (r.keep a o q m).ne
    rw [e.o a h2]
    exact r.f0 a h
  len := r.len
  slot := fun i x h => by
    have q := r.slot i x h
    cases x with
    | no => trivial
    | val d => obtain ⟨v, h1, h2⟩ := q; exact ⟨v, h1, h2.up e.f⟩
    | own c =>
      obtain ⟨a, h1, h2, h3, h4⟩ := q
      obtain ⟨o, ho⟩ := h4.there
      exact ⟨a, h1, by rw [e.o a (by rw [ho]; exact fun z => nomatch z)]; exact h2, h3, h4.up e.f (e.h a)⟩
    | io j => exact q
  iol := r.iol
  io := fun j a c h1 h2 => ⟨(r.io j a c h1 h2).1, (r.io j a c h1 h2).2.up e.f (e.h a)⟩
  ap := r.ap
  inn := r.inn
  nd := r.nd
  s0 := r.s0
  tabs := r.tabs.ext e.f e.h
end
/-! ### the judgements -/
/-- an exception's fields -/
def XAt (K : PySem.W.Frag) (F H : Hp) (a : Addr) (fs : List (Str × D)) : Prop := ∃ vs, H a = some (.xd vs) ∧ IsFs K F vs fs
section
variable (C : Ct) (W : WX)
/-- what is wanted of a result -/
def Post {α : Type} (σ : L2.St) (F : Hp) (r : Res α) (P : α → S → Hp → Hp → Prop) : Prop := match r with
  | .ok a s' => ∀ H' F', Rel C σ H' F' s' → Sub F F' → P a s' H' F'
  | .exc c fs s' => ∀ a H' F', Rel C σ H' F' s' → Sub F F' → XAt C.K F' H' a fs → W (.ref (He.ga C.K c)) (some a) σ H'
  | .bad => False
def tD (f : M D) : TE := fun σ H Q => ∃ F s, Rel C σ H F s ∧ Post C W σ F (f s) fun d _ H' F' => ∀ v, Is C.K F' v d → Q v H'
/-- a new thing of one's own -/
def tO (f : M Cell) : TE := fun σ H Q => ∃ F s, Rel C σ H F s ∧ Post C W σ F (f s) fun c s' H' F' => ∀ a, (∀ i, ¬ OwnAt σ s'.sl i a) → C.H0 a = none → F' a = none → CellAt C.K F' H' a c → Q (.ref a) H'
def tB (f : M Bool) : TT := fun σ H Q => ∃ F s, Rel C σ H F s ∧ Post C W σ F (f s) fun b _ H' _ => Q b H'
def tA (f : M (List D)) : TA := fun σ H Q => ∃ F s, Rel C σ H F s ∧ Post C W σ F (f s) fun ds _ H' F' => ∀ vs, IsAll C.K F' vs ds → Q vs H'
def RetOk (F H : Hp) (v : V) : RV → Prop
  | .val d => Is C.K F v d
  | .own c => ∃ a, v = .ref a ∧ F a = none ∧ C.H0 a = none ∧ CellAt C.K F H a c
def PostS (F : Hp) (o : Out) (nx : L2.St → Hp → Prop) (rt : VK) (bk ct : L2.St → Hp → Prop) : Prop := match o with
  | .nx s' => ∀ σ' H' F', Rel C σ' H' F' s' → Sub F F' → nx σ' H'
  | .rt r s' => ∀ v σ' H' F', Rel C σ' H' F' s' → Sub F F' → RetOk C F' H' v r → rt v H'
  | .bk s' => ∀ σ' H' F', Rel C σ' H' F' s' → Sub F F' → bk σ' H'
  | .ct s' => ∀ σ' H' F', Rel C σ' H' F' s' → Sub F F' → ct σ' H'
  | .exc c fs s' => ∀ a σ' H' F', Rel C σ' H' F' s' → Sub F F' → XAt C.K F' H' a fs → W (.ref (He.ga C.K c)) (some a) σ' H'
  | .bad => False
def tS (f : S → Out) : TS := fun E σ H => ∃ F s, Rel C σ H F s ∧ PostS C W F (f s) E.nx E.rt E.bk E.ct
end
abbrev DE (X : Cx) (C : Ct) (W : WX) (e : Expr) (f : M D) : Prop := PE X e (tD C W f)
abbrev DO (X : Cx) (C : Ct) (W : WX) (e : Expr) (f : M Cell) : Prop := PE X e (tO C W f)
abbrev DT (X : Cx) (C : Ct) (W : WX) (e : Expr) (f : M Bool) : Prop := PT X e (tB C W f)
abbrev DW (X : Cx) (C : Ct) (W : WX) (e : Expr) (f : M Bool) : Prop := PW X e (tB C W f)
abbrev DA (X : Cx) (C : Ct) (W : WX) (es : List Expr) (f : M (List D)) : Prop := PA X es (tA C W f)
abbrev DS (X : Cx) (C : Ct) (W : WX) (st : Stmt) (f : S → Out) : Prop := PS X st (tS C W f)
abbrev DB (X : Cx) (C : Ct) (W : WX) (st : List Stmt) (f : S → Out) : Prop := PSs X st (tS C W f)
theorem pe_imp {X : Cx} {e : Expr} {t u : TE} (h : PE X e t) (i : ∀ σ H Q, u σ H Q → t σ H Q) : PE X e u := ⟨fun pins s σ H Q I q => h.run pins s σ H Q I (i _ _ _ q)⟩
theorem pt_imp {X : Cx} {e : Expr} {t u : TT} (h : PT X e t) (i : ∀ σ H Q, u σ H Q → t σ H Q) : PT X e u := ⟨fun pins s σ H Q I q => h.run pins s σ H Q I (i _ _ _ q)⟩
theorem pw_imp {X : Cx} {e : Expr} {t u : TT} (h : PW X e t) (i : ∀ σ H Q, u σ H Q → t σ H Q) : PW X e u := ⟨fun wh pins s σ H Q I q => h.run wh pins s σ H Q I (i _ _ _ q)⟩
theorem pa_imp {X : Cx} {es : List Expr} {t u : TA} (h : PA X es t) (i : ∀ σ H Q, u σ H Q → t σ H Q) : PA X es u := ⟨fun pos pins s σ H Q I q => h.run pos pins s σ H Q I (i _ _ _ q)⟩
theorem ps_imp {X : Cx} {st : Stmt} {t u : TS} (h : PS X st t) (i : ∀ E σ H, u E σ H → t E σ H) : PS X st u := ⟨fun pins s σ H E I q => h.run pins s σ H E I (i _ _ _ q)⟩
theorem pss_imp {X : Cx} {st : List Stmt} {t u : TS} (h : PSs X st t) (i : ∀ E σ H, u E σ H → t E σ H) : PSs X st u := ⟨fun pins s σ H E I q => h.run pins s σ H E I (i _ _ _ q)⟩
def Res.bind {α β : Type} (r : Res α) (k : α → M β) : Res β := match r with
  | .ok a s => k a s
  | .exc c fs s => .exc c fs s
  | .bad => .bad
def mbind {α β : Type} (f : M α) (k : α → M β) : M β := fun s => (f s).bind k
def mret {α : Type} (a : α) : M α := fun s => .ok a s
section
variable {C : Ct} {W : WX} {σ : L2.St} {F : Hp} {α β : Type}
theorem Post.mono {r : Res α} {P P' : α → S → Hp → Hp → Prop} (q : Post C W σ F r P) (h : ∀ a s' H' F', Rel C σ H' F' s' → Sub F F' → P a s' H' F' → P' a s' H' F') : Post C W σ F r P' := by
  cases r with
  | ok a s' => exact fun H' F' r u => h a s' H' F' r u (q H' F' r u)
  | exc c fs s' => exact q
  | bad => exact q.elim
theorem Post.bind {r : Res α} {k : α → M β} {P : β → S → Hp → Hp → Prop} (q : Post C W σ F (r.bind k) P) : Post C W σ F r fun a s1 _ F1 => Post C W σ F1 (k a s1) P := by
  cases r with
  | ok a s1 =>
    intro H1 F1 r1 u1
    have q : Post C W σ F (k a s1) P := q
    cases e2 : k a s1 with
    | ok b s2 => rw [e2] at q; exact fun H' F' r' u' => q H' F' r' (u1.trans u')
    | exc c fs s2 => rw [e2] at q; exact fun a H' F' r' u' => q a H' F' r' (u1.trans u')
    | bad => rw [e2] at q; exact q.elim
  | exc c fs s1 => exact q
  | bad => exact q.elim
end
def mopt {α : Type} (a : Option α) : M α := fun s => match a with
  | some x => .ok x s
  | none => .bad
end DL
set_option maxHeartbeats 2000000
/-! DL2: expressions. -/
namespace DL
open PySem PySem.Spec PyProof.Rows L2
section
variable {C : Ct} {W : WX} {X : Cx} {σ : L2.St} {H F : Hp} {s : S}
/-! ### names and constants -/
def Cell.d : Cell → D
  | .lst ds => .lst ds
  | .ins c fs => .ins c fs
  | .dic kvs => .dic kvs
  | .tdc kvs => .tdc kvs
def S.put (s : S) (i : Nat) (x : Sl) : S := { s with sl := s.sl.set i x }
def eVar (i : Nat) : M D := fun s => match s.sl[i]? with
  | some (.val d) => .ok d s
  | some (.own c) => .ok c.d (s.put i (.val c.d))
  | _ => .bad
theorem CellAt.isd {K : PySem.W.Frag} {F F' H : Hp} {a : Addr} {c : Cell} (h : CellAt K F H a c) (u : Sub F F') (e : ∀ o, H a = some o → F' a = some o) : Is K F' (.ref a) c.d := by
  cases c with
  | lst ds => obtain ⟨xs, h1, h2⟩ := h; exact .lst (.inl (e _ h1)) (h2.up u)
  | ins c fs => obtain ⟨dx, vs, h1, h2⟩ := h; exact .ins (e _ h1) (h2.up u)
  | dic kvs => obtain ⟨ks, h1, h2⟩ := h; exact .dic (e _ h1) (h2.up u)
  | tdc kvs => obtain ⟨ep, ks, h1, h2, h3, h4⟩ := h; exact .tdc (e _ h1) (h2.up u) h3 h4
/-- what was a slot's own stands from now on -/
theorem Rel.freeze (r : Rel C σ H F s) {i : Nat} {c : Cell} (h : s.sl[i]? = some (.own c)) :
    ∃ a F', σ[i]? = some (some (.ref a)) ∧ Sub F F' ∧ Is C.K F' (.ref a) c.d ∧ Rel C σ H F' (s.put i (.val c.d)) := by
  obtain ⟨a, h1, h2, h3, h4⟩ := r.slot i _ h
  obtain ⟨o, ho⟩ := h4.there
  have hi : i < s.sl.length := (List.getElem?_eq_some_iff.mp h).1
  have uf : Sub F (upd F a o) := fun b u e => by rw [upd_ne (ne_of_none e h2)]; exact e
  have isd : Is C.K (upd F a o) (.ref a) c.d := h4.isd uf fun u e => by rw [upd_same]; rw [ho] at e; exact e
  refine ⟨a, upd F a o, h1, uf, isd, ?_⟩
  refine ⟨fun b u e => ?_, r.keep, fun b e => ?_, ?_, fun j x e => ?_, r.iol, fun j b c' e1 e2 => ⟨(r.io j b c' e1 e2).1, (r.io j b c' e1 e2).2.up uf fun _ z => z⟩, fun j k b e1 e2 => ?_, r.inn, r.nd, r.s0, r.tabs.up uf⟩
  · by_cases q : b = a
    · subst q; rw [upd_same] at e; rw [ho]; exact e
    · rw [upd_ne q] at e; exact r.sub _ _ e
  · rw [upd_ne fun z => e (by rw [z]; exact h3)]
    exact r.f0 b e
  · show (s.sl.set i _).length = _
    rw [List.length_set]
    exact r.len
  · have e : (s.sl.set i (.val c.d))[j]? = some x := e
    by_cases q : i = j
    · subst q
      rw [List.getElem?_set_self hi] at e
      cases e
      exact ⟨.ref a, h1, isd⟩
    · rw [List.getElem?_set_ne q] at e
      have z := r.slot j x e
      cases x with
      | no => trivial
      | val d => obtain ⟨v, z1, z2⟩ := z; exact ⟨v, z1, z2.up uf⟩
      | own c' =>
        obtain ⟨b, z1, z2, z3, z4⟩ := z
        have ne : b ≠ a := fun y => by
          subst y
          exact q (r.ap i j b ⟨h1, c, h⟩ ⟨z1, c', e⟩)
        exact ⟨b, z1, by rw [upd_ne ne]; exact z2, z3, z4.up uf fun _ z => z⟩
      | io k => exact z
  · obtain ⟨e1, c1, e1'⟩ := e1
    obtain ⟨e2, c2, e2'⟩ := e2
    have e1' : (s.sl.set i (.val c.d))[j]? = some (.own c1) := e1'
    have e2' : (s.sl.set i (.val c.d))[k]? = some (.own c2) := e2'
    have nj : i ≠ j := fun q => by subst q; rw [List.getElem?_set_self hi] at e1'; cases e1'
    have nk : i ≠ k := fun q => by subst q; rw [List.getElem?_set_self hi] at e2'; cases e2'
    rw [List.getElem?_set_ne nj] at e1'
    rw [List.getElem?_set_ne nk] at e2'
    exact r.ap j k b ⟨e1, c1, e1'⟩ ⟨e2, c2, e2'⟩
theorem d_var {e : Expr} {i : Nat} (h : PE X e (tVar i)) : DE X C W e (eVar i) := by
  refine pe_imp h fun σ H Q ⟨F, s, r, q⟩ => ?_
  unfold eVar at q
  cases h1 : s.sl[i]? with
  | none => rw [h1] at q; exact q.elim
  | some x =>
    rw [h1] at q
    cases x with
    | val d =>
      obtain ⟨v, e1, e2⟩ := r.slot i _ h1
      exact ⟨v, e1, q H F r (Sub.refl _) v e2⟩
    | own c =>
      obtain ⟨a, F', e1, u, e2, r'⟩ := r.freeze h1
      exact ⟨_, e1, q H F' r' u _ e2⟩
    | _ => exact q.elim
theorem d_const {e : Expr} {v : V} {d : D} (h : PE X e (tC v)) (hd : ∀ K F, Is K F v d) : DE X C W e (mret d) :=
  pe_imp h fun σ H Q ⟨F, s, r, q⟩ => q H F r (Sub.refl _) v (hd _ _)
theorem d_int {i : Int} {j pos} : DE X C W (.Constant (.int i) j pos) (mret (.int i)) := d_const pe_int fun _ _ => .int i
theorem d_str {x : Str} {j pos} : DE X C W (.Constant (.str x) j pos) (mret (.str x)) := d_const pe_str fun _ _ => .str x
theorem d_bl {b : Bool} {j pos} : DE X C W (.Constant (.bool b) j pos) (mret (.bl b)) := d_const pe_bl fun _ _ => .bl b
theorem d_non {j pos} : DE X C W (.Constant .none j pos) (mret .non) := d_const pe_non fun _ _ => .non
/-! ### operations by values -/
/-- a two-place operation: g tells what it gives -/
def OpV (K : PySem.W.Frag) (r : R2) (g : D → D → Option D) : Prop :=
  ∀ (H F : Hp) (x y : V) (d e d' : D), Sub F H → Is K F x d → Is K F y e → g d e = some d' → ∀ Q : VK, (∀ v H' F', Ext H F H' F' → Is K F' v d' → Q v H') → r x y H Q
def OpD (X : Cx) (f : Value → Value → Sem Value) (g : D → D → Option D) : Prop := ∃ r, OpR X f r ∧ OpV X.K r g
def bin (g : D → D → Option D) (fa fb : M D) : M D := mbind fa fun a => mbind fb fun b => mopt (g a b)
def un (g : D → Option D) (fa : M D) : M D := mbind fa fun a => mopt (g a)
variable {fa fb fc : M D} {a b c : Expr} {pos : Pos} {g g' : D → D → Option D}
theorem post_val {P : D → S → Hp → Hp → Prop} {o : Option D} (q : Post C W σ F (mopt o s) P) (r : Rel C σ H F s) : ∃ d', o = some d' ∧ ∀ H' F', Ext H F H' F' → P d' s H' F' := by
  cases o with
  | none => exact q.elim
  | some d' => exact ⟨d', rfl, fun H' F' e => q H' F' (r.ext e) e.f⟩
theorem t_bin {rr : R2} (ov : OpV C.K rr g) (σ : L2.St) (H : Hp) (Q : VK) (h : tD C W (bin g fa fb) σ H Q) : tOp rr (tD C W fa) (tD C W fb) σ H Q := by
  obtain ⟨F, s, r, q⟩ := h
  refine ⟨F, s, r, (Post.bind q).mono fun d s1 H1 F1 r1 u1 q1 x ix => ⟨F1, s1, r1, (Post.bind q1).mono fun e s2 H2 F2 r2 u2 q2 y iy => ?_⟩⟩
  obtain ⟨d', e1, q3⟩ := post_val q2 r2
  exact ov H2 F2 x y d e d' r2.sub (ix.up u2) iy e1 Q fun v H' F' ex iv => q3 H' F' ex v iv
theorem d_op {op : Operator} (hK : C.K = X.K) (ho : OpD X (binaryOp op) g) (ha : DE X C W a fa) (hb : DE X C W b fb) : DE X C W (.BinOp a op b pos) (bin g fa fb) := by
  obtain ⟨r, o1, o2⟩ := ho
  exact pe_imp (pe_op o1 ha hb) (t_bin (by rw [hK]; exact o2))
theorem d_cmp {op : CmpOp} (hK : C.K = X.K) (ho : OpD X (compareOp op) g) (ha : DE X C W a fa) (hb : DE X C W b fb) (hm : behindInMarks op b = false := by first | exact nomark _ | rfl) : DE X C W (.Compare a [op] [b] pos) (bin g fa fb) := by
  obtain ⟨r, o1, o2⟩ := ho
  exact pe_imp (pe_cmpR o1 ha hb hm) (t_bin (by rw [hK]; exact o2))
/-- a bool's truth -/
def dB : D → Option Bool
  | .bl b => some b
  | _ => none
def asB (f : M D) : M Bool := mbind f fun d => mopt (dB d)
theorem t_test (te : TE) (f : M D) (h : ∀ σ H Q, tD C W f σ H Q → te σ H Q) (σ : L2.St) (H : Hp) (Q : Bool → Hp → Prop) (q : tB C W (asB f) σ H Q) : tTest te σ H Q := by
  obtain ⟨F, s, r, q⟩ := q
  refine h σ H _ ⟨F, s, r, (Post.bind q).mono fun d s1 H1 F1 r1 u1 q1 v iv => ?_⟩
  cases iv with
  | bl b => exact ⟨b, rfl, q1 H1 F1 r1 (Sub.refl _)⟩
  | _ => exact q1.elim
/-- a comparison as a test -/
theorem dt_cmp {op : CmpOp} (hK : C.K = X.K) (ho : OpD X (compareOp op) g) (ha : DE X C W a fa) (hb : DE X C W b fb) (hm : behindInMarks op b = false := by first | exact nomark _ | rfl) : DT X C W (.Compare a [op] [b] pos) (asB (bin g fa fb)) := by
  obtain ⟨r, o1, o2⟩ := ho
  exact pt_imp (pt_cmpR o1 ha hb hm) (t_test _ _ (t_bin (by rw [hK]; exact o2)))
/-- a op b op' c -/
def chain (g g' : D → D → Option D) (fa fb fc : M D) : M D := mbind fa fun a => mbind fb fun b => mbind (mopt (g a b)) fun t => mbind (mopt (dB t)) fun k => if k = true then mbind fc fun c => mopt (g' b c) else mret (.bl false)
theorem post_optB {α : Type} {P : α → S → Hp → Hp → Prop} {o : Option α} (q : Post C W σ F (mopt o s) P) (r : Rel C σ H F s) : ∃ d', o = some d' ∧ ∀ H' F', Ext H F H' F' → P d' s H' F' := by
  cases o with
  | none => exact q.elim
  | some d' => exact ⟨d', rfl, fun H' F' e => q H' F' (r.ext e) e.f⟩
theorem t_chain {rr rr' : R2} (ov : OpV C.K rr g) (ov' : OpV C.K rr' g') (σ : L2.St) (H : Hp) (Q : VK) (h : tD C W (chain g g' fa fb fc) σ H Q) : tChain rr rr' (tD C W fa) (tD C W fb) (tD C W fc) σ H Q := by
  obtain ⟨F, s, r, q⟩ := h
  refine ⟨F, s, r, (Post.bind q).mono fun d s1 H1 F1 r1 u1 q1 x ix => ⟨F1, s1, r1, (Post.bind q1).mono fun e s2 H2 F2 r2 u2 q2 y iy => ?_⟩⟩
  obtain ⟨t, e1, q3⟩ := post_optB (Post.bind q2) r2
  refine ov H2 F2 x y d e t r2.sub (ix.up u2) iy e1 _ fun v H3 F3 ex iv => ?_
  obtain ⟨k, e2, q4⟩ := post_optB (Post.bind (q3 H3 F3 ex)) (r2.ext ex)
  have q5 := q4 H3 F3 (Ext.refl ex.s)
  cases iv with
  | bl b =>
    cases e2
    refine ⟨k, rfl, ?_⟩
    cases k with
    | true =>
      rw [if_pos rfl] at q5 ⊢
      refine ⟨F3, s2, r2.ext ex, (Post.bind q5).mono fun c s4 H4 F4 r4 u4 q6 w iw => ?_⟩
      obtain ⟨t', e3, q7⟩ := post_optB q6 r4
      exact ov' H4 F4 y w e c t' r4.sub ((iy.up ex.f).up u4) iw e3 Q fun v' H' F' ex' iv' => q7 H' F' ex' v' iv'
    | false =>
      rw [if_neg Bool.false_ne_true] at q5 ⊢
      exact q5 H3 F3 (r2.ext ex) (Sub.refl _) _ (.bl false)
  | _ => cases e2
theorem d_chain {op op' : CmpOp} (hK : C.K = X.K) (ho : OpD X (compareOp op) g) (ho' : OpD X (compareOp op') g') (ha : DE X C W a fa) (hb : DE X C W b fb) (hc : DE X C W c fc)
    (hm : lastMarks [op, op'] [b, c] = false := by with_unfolding_all rfl) : DE X C W (.Compare a [op, op'] [b, c] pos) (chain g g' fa fb fc) := by
  obtain ⟨r, o1, o2⟩ := ho
  obtain ⟨r', o1', o2'⟩ := ho'
  exact pe_imp (pe_chain o1 o1' ha hb hc hm) (t_chain (by rw [hK]; exact o2) (by rw [hK]; exact o2'))
end
end DL
set_option maxHeartbeats 2000000
/-! DL3: operations by values. -/
namespace DL
open PySem PySem.Spec PyProof.Rows L2
/-! ### plain data -/
mutual
def D.py : D → PyData
  | .non => .none
  | .bl b => .bool b
  | .int i => .int i
  | .str x => .str x
  | .tup xs => .tuple (D.pys xs)
  | .lst xs => .list (D.pys xs)
  | _ => .dict []
def D.pys : List D → List PyData
  | [] => []
  | x :: xs => D.py x :: D.pys xs
end
mutual
/-- numbers, texts, None, truths, tuples and lists of these, to a depth -/
def D.ok : Nat → D → Bool
  | _, .non => true
  | _, .bl _ => true
  | _, .int _ => true
  | _, .str x => PyData.strOk x
  | n + 1, .tup xs => D.oks n xs
  | n + 1, .lst xs => D.oks n xs
  | _, _ => false
def D.oks : Nat → List D → Bool
  | _, [] => true
  | n, x :: xs => D.ok n x && D.oks n xs
end
theorem pys_map : ∀ xs : List D, D.pys xs = xs.map D.py
  | [] => by rw [D.pys]; rfl
  | x :: xs => by rw [D.pys, pys_map xs]; rfl
theorem oks_all (n : Nat) : ∀ xs : List D, D.oks n xs = xs.all (D.ok n)
  | [] => by rw [D.oks]; rfl
  | x :: xs => by rw [D.oks, oks_all n xs]; rfl
mutual
theorem ok_lay : ∀ (n : Nat) (d : D), d.ok n = true → d.py.canLay0 = true ∧ d.py.depth ≤ n
  | _, .non, _ => by simp [D.py, PyData.canLay0, PyData.depth]
  | _, .bl _, _ => by simp [D.py, PyData.canLay0, PyData.depth]
  | _, .int _, _ => by simp [D.py, PyData.canLay0, PyData.depth]
  | _, .str x, h => by
    have h : PyData.strOk x = true := by simpa [D.ok] using h
    simp [D.py, PyData.canLay0, PyData.depth, h]
  | n + 1, .tup xs, h => by
    have q := oks_lay n xs (by simpa [D.ok] using h)
    simp only [D.py, PyData.canLay0, PyData.depth]
    exact ⟨q.1, by omega⟩
  | n + 1, .lst xs, h => by
    have q := oks_lay n xs (by simpa [D.ok] using h)
    simp only [D.py, PyData.canLay0, PyData.depth]
    exact ⟨q.1, by omega⟩
  | 0, .tup _, h => by simp [D.ok] at h
  | 0, .lst _, h => by simp [D.ok] at h
  | _, .ty _, h => by simp [D.ok] at h
  | _, .glo _, h => by simp [D.ok] at h
  | _, .ins _ _, h => by simp [D.ok] at h
  | _, .dic _, h => by simp [D.ok] at h
  | _, .tdc _, h => by simp [D.ok] at h
  | _, .exn _ _, h => by simp [D.ok] at h
theorem oks_lay : ∀ (n : Nat) (ds : List D), D.oks n ds = true → PyData.canLayAll0 (D.pys ds) = true ∧ PyData.depthAll (D.pys ds) ≤ n
  | n, [], _ => by simp [D.pys, PyData.canLayAll0, PyData.depthAll]
  | n, d :: ds, h => by
    rw [D.oks, Bool.and_eq_true] at h
    have q1 := ok_lay n d h.1
    have q2 := oks_lay n ds h.2
    simp only [D.pys, PyData.canLayAll0, PyData.depthAll, q1.1, q2.1]
    exact ⟨rfl, by omega⟩
end
theorem ok_shaped {n : Nat} {d : D} (h : d.ok n = true) (hn : n ≤ 64) : SeqAt.shaped d.py = true := by
  have q := ok_lay n d h
  unfold SeqAt.shaped
  rw [q.1, Bool.true_and]
  exact decide_eq_true (Nat.le_trans q.2 hn)
mutual
theorem Is.dp {K : PySem.W.Frag} {F : Hp} : ∀ {v : V} {d : D} (n : Nat), Is K F v d → d.ok n = true → Dp K F v d.py
  | _, _, _, .non, _ => by rw [D.py]; exact .non
  | _, _, _, .bl b, _ => by rw [D.py]; exact .bl b
  | _, _, _, .int i, _ => by rw [D.py]; exact .int i
  | _, _, _, .str x, _ => by rw [D.py]; exact .str x
  | _, _, n + 1, .tup h r, o => by rw [D.py]; exact .tup h (IsAll.dp n r (by simpa [D.ok] using o))
  | _, _, n + 1, .lst h r, o => by rw [D.py]; exact .lst (.inl h) (IsAll.dp n r (by simpa [D.ok] using o))
  | _, _, 0, .tup h r, o => by simp [D.ok] at o
  | _, _, 0, .lst h r, o => by simp [D.ok] at o
  | _, _, _, .ty _, o => by simp [D.ok] at o
  | _, _, _, .glo _, o => by simp [D.ok] at o
  | _, _, _, .ins _ _, o => by simp [D.ok] at o
  | _, _, _, .dic _ _, o => by simp [D.ok] at o
  | _, _, _, .tdc _ _ _ _, o => by simp [D.ok] at o
  | _, _, _, .exn _ _ _ _ _ _, o => by simp [D.ok] at o
  | _, _, _, .exn0 _ _ _ _, o => by simp [D.ok] at o
theorem IsAll.dp {K : PySem.W.Frag} {F : Hp} : ∀ {vs : List V} {ds : List D} (n : Nat), IsAll K F vs ds → D.oks n ds = true → DpAll K F vs (D.pys ds)
  | _, _, _, .nil, _ => by rw [D.pys]; exact .nil
  | _, _, n, .cons h r, o => by
    rw [D.oks, Bool.and_eq_true] at o
    rw [D.pys]
    exact .cons (Is.dp n h o.1) (IsAll.dp n r o.2)
end
mutual
theorem dp_up {K : PySem.W.Frag} {F H : Hp} (s : Sub F H) : ∀ {v : V} {d : PyData}, Dp K F v d → Dp K H v d
  | _, _, .non => .non
  | _, _, .bl b => .bl b
  | _, _, .int i => .int i
  | _, _, .str x => .str x
  | _, _, .lst h r => .lst (s.l h) (dps_up s r)
  | _, _, .tup h r => .tup (s.t h) (dps_up s r)
theorem dps_up {K : PySem.W.Frag} {F H : Hp} (s : Sub F H) : ∀ {v : List V} {d : List PyData}, DpAll K F v d → DpAll K H v d
  | _, _, .nil => .nil
  | _, _, .cons h r => .cons (dp_up s h) (dps_up s r)
end
/-- what is told of lengths -/
abbrev LN : Nat := 1000000
theorem ln_line {n : Nat} (h : n ≤ LN) : n ≤ sizeLine := by rw [sizeLine_eq]; exact Nat.le_trans h (by decide)
theorem ln_lt {n : Nat} (h : n < LN) : n < sizeLine := by rw [sizeLine_eq]; exact Nat.lt_trans h (by decide)
section
variable {X : Cx} {K : PySem.W.Frag}
/-! ### which of two -/
theorem OpV.or {r r' : R2} {g : D → D → Option D} (h : ∀ (H F : Hp) (x y : V) (d e d' : D), Sub F H → Is K F x d → Is K F y e → g d e = some d' → ∀ Q : VK, (∀ v H' F', Ext H F H' F' → Is K F' v d' → Q v H') → r x y H Q ∨ r' x y H Q) :
    OpV K (fun x y H Q => r x y H Q ∨ r' x y H Q) g := h
/-! ### + -/
def addD : D → D → Option D
  | .int i, .int j => some (.int (i + j))
  | .str x, .str y => if x.length + y.length ≤ LN then some (.str (x ++ y)) else none
  | .lst xs, .lst ys => if xs.length + ys.length ≤ LN then some (.lst (xs ++ ys)) else none
  | .tup xs, .tup ys => if xs.length + ys.length ≤ LN then some (.tup (xs ++ ys)) else none
  | _, _ => none
/-- list + list, however they are known -/
def rCatR : R2 := fun x y H Q => ∃ l b xs zs, x = .ref l ∧ y = .ref b ∧ Rd H l (.lst xs) ∧ Rd H b (.lst zs) ∧ xs.length + zs.length ≤ sizeLine ∧ ∀ p, H p = none → Q (.ref p) (upd H p (.lst (xs ++ zs)))
theorem rd_lst {pins : List (Addr × Obj)} {σ : L2.St} {H : Hp} {s : Shared} {l : Addr} {xs : List V} (I : Inv X pins σ H s) (hH : Rd H l (.lst xs)) : xs.length ≤ sizeLine ∧ ∃ (its : List Value) (n : Nat), Vals xs its ∧ xs.length = its.length ∧ s.heap.get? l = some { cls := .type "list", data := .seq its.toArray n } := by
  obtain ⟨z, its, n, r, e⟩ := hH.ok I.hok
  exact ⟨z, its, n, r, r.length, e⟩
theorem op_catR : OpR X (binaryOp .Add) rCatR := by
  intro pins s σ H x y v u Q I rx ry h
  obtain ⟨l, b, xs, zs, rfl, rfl, hH, hB, hz, q⟩ := h
  cases rx
  cases ry
  obtain ⟨z, its, n, r, hl, e⟩ := rd_lst I hH
  obtain ⟨z2, its2, n2, r2, hl2, e2⟩ := rd_lst I hB
  refine PySem.P.add_list e e2 ?_ (by rw [List.size_toArray, List.size_toArray]; omega)
  have ea : its.toArray ++ its2.toArray = (its ++ its2).toArray := by simp
  rw [ea]
  exact ⟨.ref _, _, I.lnew (t' := s.toks) (r.append r2) (by rw [List.length_append]; omega), rfl, q _ I.fresh⟩
theorem ext_new {H F : Hp} {p : Addr} {o : HO} (s : Sub F H) (n : H p = none) : Ext H F (upd H p o) (upd F p o) := Ext.new s n
theorem new_lst {H F : Hp} {p : Addr} {xs : List V} {ds : List D} (s : Sub F H) (n : H p = none) (h : IsAll K F xs ds) : Is K (upd F p (.lst xs)) (.ref p) (.lst ds) := .lst (.inl upd_same) (h.up (ext_new s n).f)
theorem new_tup {H F : Hp} {p : Addr} {xs : List V} {ds : List D} (s : Sub F H) (n : H p = none) (h : IsAll K F xs ds) : Is K (upd F p (.tup xs)) (.ref p) (.tup ds) := .tup (.inl (.inl upd_same)) (h.up (ext_new s n).f)
theorem o_add : OpD X (binaryOp .Add) addD := by
  refine ⟨_, op_add.or (op_add_str.or (op_catR.or op_catA)), ?_⟩
  intro H F x y d e d' su hx hy hg Q q
  cases hx with
  | int i =>
    cases hy with
    | int j => cases hg; exact .inl ⟨i, j, rfl, rfl, q _ H F (Ext.refl su) (.int _)⟩
    | _ => cases hg
  | str a =>
    cases hy with
    | str b =>
      have hg : (if a.length + b.length ≤ LN then some (D.str (a ++ b)) else none) = some d' := hg
      by_cases hl : a.length + b.length ≤ LN
      · rw [if_pos hl] at hg
        cases hg
        exact .inr (.inl ⟨a, b, rfl, rfl, ln_line hl, q _ H F (Ext.refl su) (.str _)⟩)
      · rw [if_neg hl] at hg
        cases hg
    | _ => cases hg
  | lst h1 h2 =>
    cases hy with
    | @lst b zs es h3 h4 =>
      rename_i a xs ds
      have hg : (if ds.length + es.length ≤ LN then some (D.lst (ds ++ es)) else none) = some d' := hg
      by_cases hl : ds.length + es.length ≤ LN
      · rw [if_pos hl] at hg
        cases hg
        exact .inr (.inr (.inl ⟨a, b, xs, zs, rfl, rfl, su.rd h1, su.rd h3, by rw [h2.len, h4.len]; exact ln_line hl, fun p n => q _ _ _ (ext_new su n) (new_lst su n (h2.app h4))⟩))
      · rw [if_neg hl] at hg
        cases hg
    | _ => cases hg
  | tup h1 h2 =>
    cases hy with
    | @tup b zs es h3 h4 =>
      rename_i a xs ds
      have hg : (if ds.length + es.length ≤ LN then some (D.tup (ds ++ es)) else none) = some d' := hg
      by_cases hl : ds.length + es.length ≤ LN
      · rw [if_pos hl] at hg
        cases hg
        refine .inr (.inr (.inr ⟨a, b, xs, zs, rfl, rfl, su.t h1, su.t h3, by rw [h2.len, h4.len]; exact ln_line hl, fun e => ?_, fun _ e => ?_, fun _ _ p n => q _ _ _ (ext_new su n) (new_tup su n (h2.app h4))⟩))
        · subst e
          cases h2
          exact q _ H F (Ext.refl su) (.tup h3 h4)
        · subst e
          cases h4
          exact q _ H F (Ext.refl su) (.tup h1 (by rw [List.append_nil]; exact h2))
      · rw [if_neg hl] at hg
        cases hg
    | _ => cases hg
  | _ => cases hg
/-! ### - * % // ** of ints -/
def small64b (i : Int) : Bool := decide (-(2 ^ 64) < i) && decide (i < 2 ^ 64)
def modD : D → D → Option D
  | .int i, .int j => if 0 < j then some (.int (i % j)) else none
  | _, _ => none
theorem o_mod : OpD X (binaryOp .Mod) modD := by
  refine ⟨_, op_mod, ?_⟩
  intro H F x y d e d' su hx hy hg Q q
  cases hx with
  | int i =>
    cases hy with
    | int j =>
      have hg : (if 0 < j then some (D.int (i % j)) else none) = some d' := hg
      by_cases hl : 0 < j
      · rw [if_pos hl] at hg
        cases hg
        exact ⟨i, j, rfl, rfl, hl, q _ H F (Ext.refl su) (.int _)⟩
      · rw [if_neg hl] at hg
        cases hg
    | _ => cases hg
  | _ => cases hg
def fdivD : D → D → Option D
  | .int i, .int j => if 0 < j ∧ j < 1073741824 then some (.int (i / j)) else none
  | _, _ => none
theorem o_fdiv : OpD X (binaryOp .FloorDiv) fdivD := by
  refine ⟨_, op_fdiv, ?_⟩
  intro H F x y d e d' su hx hy hg Q q
  cases hx with
  | int i =>
    cases hy with
    | int j =>
      have hg : (if 0 < j ∧ j < 1073741824 then some (D.int (i / j)) else none) = some d' := hg
      by_cases hl : 0 < j ∧ j < 1073741824
      · rw [if_pos hl] at hg
        cases hg
        exact ⟨i, j, rfl, rfl, hl, q _ H F (Ext.refl su) (.int _)⟩
      · rw [if_neg hl] at hg
        cases hg
    | _ => cases hg
  | _ => cases hg
def powD : D → D → Option D
  | .int i, .int j => if 0 ≤ j ∧ j ≤ 1000 ∧ i.natAbs < 2 ^ 64 then some (.int (i ^ j.toNat)) else none
  | _, _ => none
theorem o_pow : OpD X (binaryOp .Pow) powD := by
  refine ⟨_, op_pow, ?_⟩
  intro H F x y d e d' su hx hy hg Q q
  cases hx with
  | int i =>
    cases hy with
    | int j =>
      have hg : (if 0 ≤ j ∧ j ≤ 1000 ∧ i.natAbs < 2 ^ 64 then some (D.int (i ^ j.toNat)) else none) = some d' := hg
      by_cases hl : 0 ≤ j ∧ j ≤ 1000 ∧ i.natAbs < 2 ^ 64
      · rw [if_pos hl] at hg
        cases hg
        exact ⟨i, j, rfl, rfl, ⟨hl.1, by omega, hl.2.2⟩, q _ H F (Ext.refl su) (.int _)⟩
      · rw [if_neg hl] at hg
        cases hg
    | _ => cases hg
  | _ => cases hg
/-! ### == != -/
def eqD : D → D → Option D
  | .str x, .str y => some (.bl (decide (x = y)))
  | .int i, .int j => some (.bl (decide (i = j)))
  | d, e => if (d.ok 10 && e.ok 10) = true then some (.bl (PyData.eqv d.py e.py)) else none
def neD : D → D → Option D
  | .str x, .str y => some (.bl (!decide (x = y)))
  | .int i, .int j => some (.bl (!decide (i = j)))
  | d, e => if (d.ok 10 && e.ok 10) = true then some (.bl (!PyData.eqv d.py e.py)) else none
theorem eqD_of (d e : D) {d' : D} (h : eqD d e = some d') : (∃ x y, d = .str x ∧ e = .str y ∧ d' = .bl (decide (x = y))) ∨ (∃ x y, d = .int x ∧ e = .int y ∧ d' = .bl (decide (x = y))) ∨ ((d.ok 10 && e.ok 10) = true ∧ d' = .bl (PyData.eqv d.py e.py)) := by
  have key : ∀ {c : Bool} {u v : D}, (if c = true then some u else none) = some v → c = true ∧ v = u := fun {c u v} h => by
    cases c with
    | true => rw [if_pos rfl] at h; cases h; exact ⟨rfl, rfl⟩
    | false => rw [if_neg Bool.false_ne_true] at h; cases h
  unfold eqD at h
  split at h
  · cases h; exact .inl ⟨_, _, rfl, rfl, rfl⟩
  · cases h; exact .inr (.inl ⟨_, _, rfl, rfl, rfl⟩)
  · exact .inr (.inr (key h))
theorem neD_of (d e : D) {d' : D} (h : neD d e = some d') : (∃ x y, d = .str x ∧ e = .str y ∧ d' = .bl (!decide (x = y))) ∨ (∃ x y, d = .int x ∧ e = .int y ∧ d' = .bl (!decide (x = y))) ∨ ((d.ok 10 && e.ok 10) = true ∧ d' = .bl (!PyData.eqv d.py e.py)) := by
  have key : ∀ {c : Bool} {u v : D}, (if c = true then some u else none) = some v → c = true ∧ v = u := fun {c u v} h => by
    cases c with
    | true => rw [if_pos rfl] at h; cases h; exact ⟨rfl, rfl⟩
    | false => rw [if_neg Bool.false_ne_true] at h; cases h
  unfold neD at h
  split at h
  · cases h; exact .inl ⟨_, _, rfl, rfl, rfl⟩
  · cases h; exact .inr (.inl ⟨_, _, rfl, rfl, rfl⟩)
  · exact .inr (.inr (key h))
theorem vstr_dec {x y : Str} : decide (V.str x = V.str y) = decide (x = y) := by
  by_cases e : x = y
  · subst e; simp
  · rw [decide_eq_false e, decide_eq_false (fun z => e (V.str.inj z))]
theorem vint_dec {x y : Int} : decide (V.int x = V.int y) = decide (x = y) := by
  by_cases e : x = y
  · subst e; simp
  · rw [decide_eq_false e, decide_eq_false (fun z => e (V.int.inj z))]
theorem o_eq (hu : X.A.units + 64 < cLine) : OpD X (compareOp .Eq) eqD := by
  refine ⟨_, op_eq.or (op_eqD hu), ?_⟩
  intro H F x y d e d' su hx hy hg Q q
  rcases eqD_of d e hg with ⟨a, b, rfl, rfl, rfl⟩ | ⟨a, b, rfl, rfl, rfl⟩ | ⟨h, rfl⟩
  · cases hx; cases hy
    refine .inl ⟨rfl, ?_⟩
    rw [vstr_dec]
    exact q _ H F (Ext.refl su) (.bl _)
  · cases hx; cases hy
    refine .inl ⟨rfl, ?_⟩
    rw [vint_dec]
    exact q _ H F (Ext.refl su) (.bl _)
  · rw [Bool.and_eq_true] at h
    exact .inr ⟨d.py, e.py, dp_up su (hx.dp 10 h.1), dp_up su (hy.dp 10 h.2), ok_shaped h.1 (by decide), ok_shaped h.2 (by decide), q _ H F (Ext.refl su) (.bl _)⟩
theorem o_ne (hu : X.A.units + 64 < cLine) : OpD X (compareOp .NotEq) neD := by
  refine ⟨_, op_ne.or (op_neD hu), ?_⟩
  intro H F x y d e d' su hx hy hg Q q
  rcases neD_of d e hg with ⟨a, b, rfl, rfl, rfl⟩ | ⟨a, b, rfl, rfl, rfl⟩ | ⟨h, rfl⟩
  · cases hx; cases hy
    refine .inl ⟨rfl, ?_⟩
    rw [vstr_dec]
    exact q _ H F (Ext.refl su) (.bl _)
  · cases hx; cases hy
    refine .inl ⟨rfl, ?_⟩
    rw [vint_dec]
    exact q _ H F (Ext.refl su) (.bl _)
  · rw [Bool.and_eq_true] at h
    exact .inr ⟨d.py, e.py, dp_up su (hx.dp 10 h.1), dp_up su (hy.dp 10 h.2), ok_shaped h.1 (by decide), ok_shaped h.2 (by decide), q _ H F (Ext.refl su) (.bl _)⟩
/-! ### < <= > >= of ints (and < of texts) -/
def cmpI (p : Int → Int → Bool) : D → D → Option D
  | .int i, .int j => some (.bl (p i j))
  | _, _ => none
theorem opv_int {p : Int → Int → Bool} : OpV K (rI0 fun i j => .bl (p i j)) (cmpI p) := by
  intro H F x y d e d' su hx hy hg Q q
  cases hx with
  | int i =>
    cases hy with
    | int j => cases hg; exact ⟨i, j, rfl, rfl, q _ H F (Ext.refl su) (.bl _)⟩
    | _ => cases hg
  | _ => cases hg
theorem o_le : OpD X (compareOp .LtE) (cmpI fun i j => decide (i ≤ j)) := ⟨_, op_le, opv_int⟩
theorem o_gt : OpD X (compareOp .Gt) (cmpI fun i j => decide (j < i)) := ⟨_, op_gt, opv_int⟩
theorem o_ge : OpD X (compareOp .GtE) (cmpI fun i j => decide (j ≤ i)) := ⟨_, op_ge, opv_int⟩
theorem o_lt : OpD X (compareOp .Lt) (cmpI fun i j => decide (i < j)) := ⟨_, op_lt, opv_int⟩
end
end DL
set_option maxHeartbeats 2000000
/-! DL4: more operations by values: *, in, is, places, slices, len, truth, isinstance, texts. -/
namespace DL
open PySem PySem.Spec PyProof.Rows L2
section
variable {X : Cx} {K : PySem.W.Frag}
theorem if_some {c : Prop} [Decidable c] {α : Type} {u v : α} (h : (if c then some u else none) = some v) : c ∧ v = u := by
  by_cases e : c
  · rw [if_pos e] at h; cases h; exact ⟨e, rfl⟩
  · rw [if_neg e] at h; cases h
theorem ifb_some {c : Bool} {α : Type} {u v : α} (h : (if c = true then some u else none) = some v) : c = true ∧ v = u := if_some h
/-! ### * -/
def repS (x : Str) (n : Nat) : Str := ⟨(List.replicate n x.cps.toList).flatten.toArray⟩
def rMulS : R2 := fun x y H Q => ∃ z k, x = .str z ∧ y = .int k ∧ 0 ≤ k ∧ k ≤ 1000 ∧ z.length ≤ 1000 ∧ Q (.str (repS z k.toNat)) H
theorem fold_cat : ∀ (n : Nat) (a : Array Nat) (acc : Array Nat), (List.replicate n a).foldl (· ++ ·) acc = acc ++ (List.replicate n a.toList).flatten.toArray
  | 0, a, acc => by simp
  | n + 1, a, acc => by
    rw [List.replicate_succ, List.foldl_cons, fold_cat n a (acc ++ a), List.replicate_succ, List.flatten_cons]
    apply Array.ext'
    simp
theorem op_mulS : OpR X (binaryOp .Mult) rMulS := by
  intro pins s σ H x y v u Q I rx ry h
  obtain ⟨z, k, rfl, rfl, h0, h1, hz, q⟩ := h
  obtain ⟨t, rfl⟩ := rx
  obtain ⟨t', rfl⟩ := ry
  have hl : (repS z k.toNat).length = k.toNat * z.length := by
    unfold repS Str.length
    simp
  refine PySem.P.mul_str (by rw [decide_eq_false (by omega), decide_eq_false (by omega)]; rfl) (fun hn _ => ?_) (fun hn _ => ?_) ?_
  · have hk : 0 < k := by omega
    have e : (1000 : Int) ≤ (2 ^ 63 - 1) / k := by
      refine Int.le_ediv_of_mul_le hk ?_
      have : (1000 : Int) * k ≤ 1000 * 1000 := Int.mul_le_mul_of_nonneg_left h1 (by decide)
      omega
    omega
  · unfold Builtin.Str.tooLong
    have a1 : z.length * k.toNat ≤ 1000 * 1000 := Nat.mul_le_mul hz (by omega)
    exact decide_eq_false (by rw [sizeLine_eq]; omega)
  · by_cases hn : k < 1
    · rw [if_pos hn]
      have hk : k = 0 := by omega
      subst hk
      exact ⟨by decide, .str _, H, I.tok _, ⟨_, rfl⟩, q⟩
    · rw [if_neg hn]
      by_cases hc : (k == 1 || z.length == 0) = true
      · rw [if_pos hc]
        have e : repS z k.toNat = z := by
          rw [Bool.or_eq_true, beq_iff_eq, beq_iff_eq] at hc
          rcases hc with hc | hc
          · subst hc
            unfold repS
            apply Str.ext'
            simp
          · have hz0 : z.cps = #[] := Array.eq_empty_of_size_eq_zero hc
            unfold repS
            apply Str.ext'
            rw [hz0]
            simp
        rw [e] at q
        exact ⟨.str z, H, I, ⟨t, rfl⟩, q⟩
      · rw [if_neg hc]
        have e : (⟨(List.replicate k.toNat z.cps).foldl (· ++ ·) #[]⟩ : Str) = repS z k.toNat := by
          unfold repS
          apply Str.ext'
          rw [fold_cat]
          simp
        rw [e]
        refine ⟨?_, .str _, H, I.tok _, ⟨_, rfl⟩, q⟩
        rw [hl]
        have a1 : k.toNat * z.length ≤ 1000 * 1000 := Nat.mul_le_mul (by omega) hz
        rw [sizeLine_eq]
        omega
/-- list * int, however the list is known -/
def rRepR : R2 := fun x y H Q => ∃ l k xs, x = .ref l ∧ y = .int k ∧ Rd H l (.lst xs) ∧ -(2 ^ 63) ≤ k ∧ k < 2 ^ 63 ∧ xs.length * k.toNat ≤ sizeLine ∧
  ∀ p, H p = none → Q (.ref p) (upd H p (.lst (List.replicate k.toNat xs).flatten))
theorem op_repR : OpR X (binaryOp .Mult) rRepR := by
  intro pins s σ H x y v u Q I rx ry h
  obtain ⟨l, k, xs, rfl, rfl, hH, h1, h2, hz, q⟩ := h
  cases rx
  obtain ⟨t, rfl⟩ := ry
  obtain ⟨z, its, n, r, hl, e⟩ := rd_lst I hH
  have hlen : its.toArray.size * k.toNat ≤ sizeLine := by rw [List.size_toArray, ← hl]; exact hz
  have hcap : ¬ its.toArray.size * k.toNat > (2 ^ 63 - 1) / 8 := by
    have : (sizeLine : Nat) ≤ (2 ^ 63 - 1) / 8 := by decide
    omega
  have hfit : ¬ (!Builtin.List.listFitsIndex k) = true := by
    rw [fitsIndex_both h1 h2]
    exact Bool.false_ne_true
  have hlong : ¬ Builtin.List.listTooLong (its.toArray.size * k.toNat) = true := by
    rw [notLongL hlen]
    exact Bool.false_ne_true
  have hnew : List.foldl (fun x1 x2 => x1 ++ x2) #[] (List.replicate (if its.toArray.isEmpty = true then 0 else k.toNat) its.toArray) = (List.replicate k.toNat its).flatten.toArray := by
    have f0 : ∀ m : Nat, List.foldl (fun x1 x2 => x1 ++ x2) #[] (List.replicate m its.toArray) = (List.replicate m its).flatten.toArray := fun m => by
      have := foldl_rep its m []
      rw [List.nil_append] at this
      exact this
    rw [f0]
    cases its with
    | nil => simp
    | cons a r' => rw [if_neg (by simp)]
  refine wpAny_binaryOp_repeat_ref (T := "list") (U := "int") (by decide) ⟨_, e, rfl⟩ (fun s' => typeIs_int s' k t) noFill_list_mul F.fills_int_mul F.slot_int_rmul repeat_list F.slot_int_index.lookup
    (call_meets F.slot_int_rmul (typeIs_int s k t) F.entry_int_rmul (F.args_int_rmul_2 _ _) (int___rmul___int_list k t l its.toArray n)
      ⟨e, rfl, ⟨_, e, rfl⟩, call_meets F.slot_list_mul ⟨_, e, rfl⟩ F.entry_list_mul (F.args_list_mul_2 _ _) (AutoListH.list___mul___list_int_3 l its.toArray n k t hfit hcap hlong) ⟨e, ?_⟩⟩)
  rw [hnew]
  exact ⟨.ref _, _, I.lnew (t' := s.toks) (r.rep k.toNat) (by rw [PyProof.Rows.lm_len_rep_flat, Nat.mul_comm]; exact hz), rfl, q _ I.fresh⟩
def mulD : D → D → Option D
  | .int i, .int j => if (small64b i || small64b j) = true then some (.int (i * j)) else none
  | .str x, .int k => if (decide (0 ≤ k) && decide (k ≤ 1000) && decide (x.length ≤ 1000)) = true then some (.str (repS x k.toNat)) else none
  | .lst xs, .int k => if (decide (0 ≤ k) && decide (k ≤ 1000) && decide (xs.length ≤ 1000)) = true then some (.lst (List.replicate k.toNat xs).flatten) else none
  | .tup xs, .int k => if (decide (2 ≤ k) && decide (k ≤ 1000) && decide (xs.length ≤ 1000) && !xs.isEmpty) = true then some (.tup (List.replicate k.toNat xs).flatten) else none
  | _, _ => none
theorem IsAll.reps {F : Hp} {vs : List V} {ds : List D} (h : IsAll K F vs ds) : ∀ n : Nat, IsAll K F (List.replicate n vs).flatten (List.replicate n ds).flatten
  | 0 => .nil
  | n + 1 => by
    rw [List.replicate_succ, List.replicate_succ, List.flatten_cons, List.flatten_cons]
    exact h.app (IsAll.reps h n)
theorem o_mul : OpD X (binaryOp .Mult) mulD := by
  refine ⟨_, op_mul.or (op_mulS.or (op_repR.or op_repT)), ?_⟩
  intro H F x y d e d' su hx hy hg Q q
  cases hx with
  | int i =>
    cases hy with
    | int j =>
      obtain ⟨h, rfl⟩ := ifb_some (show (if (small64b i || small64b j) = true then some (D.int (i * j)) else none) = some d' from hg)
      have hc : CMul i j := by
        unfold small64b at h
        rw [Bool.or_eq_true, Bool.and_eq_true, Bool.and_eq_true] at h
        rcases h with ⟨a, b⟩ | ⟨a, b⟩
        · exact .inl ⟨of_decide_eq_true a, of_decide_eq_true b⟩
        · exact .inr ⟨of_decide_eq_true a, of_decide_eq_true b⟩
      exact .inl ⟨i, j, rfl, rfl, hc, q _ H F (Ext.refl su) (.int _)⟩
    | _ => cases hg
  | str a =>
    cases hy with
    | int k =>
      obtain ⟨h, rfl⟩ := ifb_some (show (if (decide (0 ≤ k) && decide (k ≤ 1000) && decide (a.length ≤ 1000)) = true then some (D.str (repS a k.toNat)) else none) = some d' from hg)
      simp only [Bool.and_eq_true, decide_eq_true_eq] at h
      exact .inr (.inl ⟨a, k, rfl, rfl, h.1.1, h.1.2, h.2, q _ H F (Ext.refl su) (.str _)⟩)
    | _ => cases hg
  | lst h1 h2 =>
    rename_i a xs ds
    cases hy with
    | int k =>
      obtain ⟨h, rfl⟩ := ifb_some (show (if (decide (0 ≤ k) && decide (k ≤ 1000) && decide (ds.length ≤ 1000)) = true then some (D.lst (List.replicate k.toNat ds).flatten) else none) = some d' from hg)
      simp only [Bool.and_eq_true, decide_eq_true_eq] at h
      refine .inr (.inr (.inl ⟨a, k, xs, rfl, rfl, su.rd h1, by omega, by omega, ?_, fun p n => q _ _ _ (ext_new su n) (new_lst su n (h2.reps _))⟩))
      have a1 : xs.length * k.toNat ≤ 1000 * 1000 := Nat.mul_le_mul (by rw [h2.len]; exact h.2) (by omega)
      rw [sizeLine_eq]
      omega
    | _ => cases hg
  | tup h1 h2 =>
    rename_i a xs ds
    cases hy with
    | int k =>
      obtain ⟨h, rfl⟩ := ifb_some (show (if (decide (2 ≤ k) && decide (k ≤ 1000) && decide (ds.length ≤ 1000) && !ds.isEmpty) = true then some (D.tup (List.replicate k.toNat ds).flatten) else none) = some d' from hg)
      simp only [Bool.and_eq_true, decide_eq_true_eq] at h
      refine .inr (.inr (.inr ⟨a, k, xs, rfl, rfl, su.t h1, fun e => ?_, h.1.1.1, h.1.1.2, by rw [h2.len]; exact h.1.2, fun p n => q _ _ _ (ext_new su n) (new_tup su n (h2.reps _))⟩))
      subst e
      cases h2
      exact absurd h.2 (by decide)
    | _ => cases hg
  | _ => cases hg
/-! ### in, not in -/
def rInT (K : PySem.W.Frag) : R2 := fun x y H Q => ∃ d ds, Dp K H x d ∧ Dp K H y (.tuple ds) ∧ SeqAt.shaped d = true ∧ SeqAt.shaped (.tuple ds) = true ∧ Q (.bl (ds.any fun z => PyData.eqv z d)) H
def rNotInT (K : PySem.W.Frag) : R2 := fun x y H Q => ∃ d ds, Dp K H x d ∧ Dp K H y (.tuple ds) ∧ SeqAt.shaped d = true ∧ SeqAt.shaped (.tuple ds) = true ∧ Q (.bl (!ds.any fun z => PyData.eqv z d)) H
theorem op_inT (hu : X.A.units + 65 < cLine) : OpR X (compareOp .In) (rInT X.K) := by
  intro pins s σ H x y v u Q I rx ry h
  obtain ⟨d, ds, hd, he, sd, se, q⟩ := h
  obtain ⟨as, r1⟩ := Dp.reads I d x v hd rx
  obtain ⟨bs, r2⟩ := Dp.reads I (.tuple ds) y u he ry
  exact SeqAt.in_tuple_reads r2 r1 (SeqAt.canLay_of_shaped se) (SeqAt.canLay_of_shaped sd) (room_in_shaped sd hu) ⟨.bl _, H, I, rfl, q⟩
theorem op_notInT (hu : X.A.units + 65 < cLine) : OpR X (compareOp .NotIn) (rNotInT X.K) := by
  intro pins s σ H x y v u Q I rx ry h
  obtain ⟨d, ds, hd, he, sd, se, q⟩ := h
  obtain ⟨as, r1⟩ := Dp.reads I d x v hd rx
  obtain ⟨bs, r2⟩ := Dp.reads I (.tuple ds) y u he ry
  exact SeqAt.notIn_tuple_reads r2 r1 (SeqAt.canLay_of_shaped se) (SeqAt.canLay_of_shaped sd) (room_in_shaped sd hu) ⟨.bl _, H, I, rfl, q⟩
/-- one sign in a text | a text in a text -/
def hasS (x y : Str) : Bool := !(Builtin.Str.occurrences y x 0 y.length 1).isEmpty
def inD : D → D → Option D
  | .str x, .str y => some (.bl (hasS x y))
  | d, .lst ds => if (d.ok 10 && (D.lst ds).ok 10) = true then some (.bl (ds.any fun z => PyData.eqv z.py d.py)) else none
  | d, .tup ds => if (d.ok 10 && (D.tup ds).ok 10) = true then some (.bl (ds.any fun z => PyData.eqv z.py d.py)) else none
  | _, _ => none
def notInD : D → D → Option D
  | .str x, .str y => some (.bl (!hasS x y))
  | d, .lst ds => if (d.ok 10 && (D.lst ds).ok 10) = true then some (.bl (!ds.any fun z => PyData.eqv z.py d.py)) else none
  | d, .tup ds => if (d.ok 10 && (D.tup ds).ok 10) = true then some (.bl (!ds.any fun z => PyData.eqv z.py d.py)) else none
  | _, _ => none
theorem any_pys (d : PyData) (ds : List D) : ((D.pys ds).any fun z => PyData.eqv z d) = ds.any fun z => PyData.eqv z.py d := by
  rw [pys_map, List.any_map]
  rfl
theorem inD_l {F : Hp} {x : V} {d d' : D} {ds : List D} (hg : inD d (.lst ds) = some d') : (d.ok 10 && (D.lst ds).ok 10) = true ∧ d' = .bl (ds.any fun z => PyData.eqv z.py d.py) := by
  cases d <;> exact ifb_some hg
theorem inD_t {F : Hp} {x : V} {d d' : D} {ds : List D} (hg : inD d (.tup ds) = some d') : (d.ok 10 && (D.tup ds).ok 10) = true ∧ d' = .bl (ds.any fun z => PyData.eqv z.py d.py) := by
  cases d <;> exact ifb_some hg
theorem notInD_l {F : Hp} {x : V} {d d' : D} {ds : List D} (hg : notInD d (.lst ds) = some d') : (d.ok 10 && (D.lst ds).ok 10) = true ∧ d' = .bl (!ds.any fun z => PyData.eqv z.py d.py) := by
  cases d <;> exact ifb_some hg
theorem notInD_t {F : Hp} {x : V} {d d' : D} {ds : List D} (hg : notInD d (.tup ds) = some d') : (d.ok 10 && (D.tup ds).ok 10) = true ∧ d' = .bl (!ds.any fun z => PyData.eqv z.py d.py) := by
  cases d <;> exact ifb_some hg
theorem o_in (hu : X.A.units + 65 < cLine) : OpD X (compareOp .In) inD := by
  refine ⟨_, op_in_str.or ((op_inD hu).or (op_inT hu)), ?_⟩
  intro H F x y d e d' su hx hy hg Q q
  cases hy with
  | str b =>
    cases hx with
    | str a => cases hg; exact .inl ⟨a, b, rfl, rfl, q _ H F (Ext.refl su) (.bl _)⟩
    | _ => cases hg
  | lst h1 h2 =>
    obtain ⟨h, rfl⟩ := inD_l (F := F) (x := x) hg
    rw [Bool.and_eq_true] at h
    have z := dp_up su ((Is.lst h1 h2).dp 10 h.2)
    rw [D.py] at z
    have sh := ok_shaped h.2 (by decide)
    rw [D.py] at sh
    refine .inr (.inl ⟨d.py, _, dp_up su (hx.dp 10 h.1), z, ok_shaped h.1 (by decide), sh, ?_⟩)
    rw [any_pys]
    exact q _ H F (Ext.refl su) (.bl _)
  | tup h1 h2 =>
    obtain ⟨h, rfl⟩ := inD_t (F := F) (x := x) hg
    rw [Bool.and_eq_true] at h
    have z := dp_up su ((Is.tup h1 h2).dp 10 h.2)
    rw [D.py] at z
    have sh := ok_shaped h.2 (by decide)
    rw [D.py] at sh
    refine .inr (.inr ⟨d.py, _, dp_up su (hx.dp 10 h.1), z, ok_shaped h.1 (by decide), sh, ?_⟩)
    rw [any_pys]
    exact q _ H F (Ext.refl su) (.bl _)
  | _ => cases d <;> cases hg
theorem o_notin (hu : X.A.units + 65 < cLine) : OpD X (compareOp .NotIn) notInD := by
  refine ⟨_, op_notIn_str.or ((op_notInD hu).or (op_notInT hu)), ?_⟩
  intro H F x y d e d' su hx hy hg Q q
  cases hy with
  | str b =>
    cases hx with
    | str a => cases hg; exact .inl ⟨a, b, rfl, rfl, q _ H F (Ext.refl su) (.bl _)⟩
    | _ => cases hg
  | lst h1 h2 =>
    obtain ⟨h, rfl⟩ := notInD_l (F := F) (x := x) hg
    rw [Bool.and_eq_true] at h
    have z := dp_up su ((Is.lst h1 h2).dp 10 h.2)
    rw [D.py] at z
    have sh := ok_shaped h.2 (by decide)
    rw [D.py] at sh
    refine .inr (.inl ⟨d.py, _, dp_up su (hx.dp 10 h.1), z, ok_shaped h.1 (by decide), sh, ?_⟩)
    rw [any_pys]
    exact q _ H F (Ext.refl su) (.bl _)
  | tup h1 h2 =>
    obtain ⟨h, rfl⟩ := notInD_t (F := F) (x := x) hg
    rw [Bool.and_eq_true] at h
    have z := dp_up su ((Is.tup h1 h2).dp 10 h.2)
    rw [D.py] at z
    have sh := ok_shaped h.2 (by decide)
    rw [D.py] at sh
    refine .inr (.inr ⟨d.py, _, dp_up su (hx.dp 10 h.1), z, ok_shaped h.1 (by decide), sh, ?_⟩)
    rw [any_pys]
    exact q _ H F (Ext.refl su) (.bl _)
  | _ => cases d <;> cases hg
/-! ### is None -/
def D.isNon : D → Bool
  | .non => true
  | _ => false
theorem is_non {F : Hp} {v : V} {d : D} (h : Is K F v d) : decide (v = V.non) = d.isNon := by
  cases h <;> simp [D.isNon]
def isD : D → D → Option D
  | d, .non => some (.bl d.isNon)
  | _, _ => none
def isntD : D → D → Option D
  | d, .non => some (.bl (!d.isNon))
  | _, _ => none
theorem o_isnt : OpD X (compareOp .IsNot) isntD := by
  refine ⟨_, op_notN, ?_⟩
  intro H F x y d e d' su hx hy hg Q q
  cases hy with
  | non =>
    have hg : some (D.bl (!d.isNon)) = some d' := by cases d <;> exact hg
    cases hg
    refine ⟨rfl, ?_⟩
    rw [is_non hx]
    exact q _ H F (Ext.refl su) (.bl _)
  | _ => cases d <;> cases hg
end
end DL
set_option maxHeartbeats 2000000
/-! DL5: expressions further: places, slices, truth, and or not, displays, fields, calls of built-ins, methods of built-in types. -/
namespace DL
open PySem PySem.Spec PyProof.Rows L2
section
variable {C : Ct} {W : WX} {X : Cx} {σ : L2.St} {H F : Hp} {s : S} {fa fb fc : M D} {a b c : Expr} {pos : Pos} {K : PySem.W.Frag}
/-! ### a thing as it stands now -/
def View (K : PySem.W.Frag) (F H : Hp) (v : V) (d : D) : Prop := Is K F v d ∨ ∃ a c, v = .ref a ∧ d = Cell.d c ∧ CellAt K F H a c
def peekD (s : S) (i : Nat) : Option D := match s.sl[i]? with
  | some (.val d) => some d
  | some (.own c) => some c.d
  | some (.io j) => (s.io[j]?).map Cell.d
  | _ => none
theorem Rel.peek (r : Rel C σ H F s) {i : Nat} {d : D} (h : peekD s i = some d) : ∃ v, σ[i]? = some (some v) ∧ View C.K F H v d := by
  unfold peekD at h
  cases h1 : s.sl[i]? with
  | none => rw [h1] at h; cases h
  | some x =>
    rw [h1] at h
    have q := r.slot i x h1
    cases x with
    | no => cases h
    | val d' =>
      cases h
      obtain ⟨v, e1, e2⟩ := q
      exact ⟨v, e1, .inl e2⟩
    | own c =>
      cases h
      obtain ⟨a, e1, _, _, e4⟩ := q
      exact ⟨_, e1, .inr ⟨a, c, rfl, rfl, e4⟩⟩
    | io j =>
      obtain ⟨a, e1, e2⟩ := q
      cases h3 : s.io[j]? with
      | none =>
        have h : (s.io[j]?).map Cell.d = some d := h
        rw [h3] at h
        cases h
      | some c =>
        have h : (s.io[j]?).map Cell.d = some d := h
        rw [h3] at h
        cases h
        exact ⟨_, e1, .inr ⟨a, c, rfl, rfl, (r.io j a c e2 h3).2⟩⟩
def mpeek (i : Nat) : M D := fun s => mopt (peekD s i) s
/-! ### x[i] -/
def atD : D → D → Option D
  | .lst xs, .int i => atI xs i
  | .tup xs, .int i => atI xs i
  | .str z, .int i => if z.length ≤ LN then (atI z.cps.toList i).map fun c => .str ⟨#[c]⟩ else none
  | _, _ => none
theorem IsAll.at {F : Hp} {vs : List V} {ds : List D} {i : Int} {d : D} (h : IsAll K F vs ds) (e : atI ds i = some d) : ∃ v, atI vs i = some v ∧ Is K F v d := by
  unfold atI at e ⊢
  rw [h.len]
  cases q : ixN ds.length i with
  | none => rw [q] at e; cases e
  | some j =>
    rw [q] at e
    exact h.get e
theorem ix_view {x y : V} {d e d' : D} (su : Sub F H) (hx : View K F H x d) (hy : Is K F y e) (hg : atD d e = some d') : ∃ v, Is K F v d' ∧ ∀ Q : VK, Q v H → rIx K x y H Q := by
  have lst : ∀ {a : Addr} {xs : List V} {ds : List D}, Rd H a (.lst xs) → IsAll K F xs ds → atD (.lst ds) e = some d' → ∃ v, Is K F v d' ∧ ∀ Q : VK, Q v H → rIx K (.ref a) y H Q := fun {a xs ds} h1 h2 hg => by
    cases hy with
    | int i =>
      obtain ⟨v, e1, e2⟩ := h2.at hg
      exact ⟨v, e2, fun Q q => .inl ⟨a, xs, i, v, rfl, rfl, .inl h1, e1, q⟩⟩
    | _ => cases hg
  rcases hx with hx | ⟨a, c, rfl, rfl, hc⟩
  · cases hx with
    | lst h1 h2 => exact lst (su.rd h1) h2 hg
    | tup h1 h2 =>
      rename_i a xs ds
      cases hy with
      | int i =>
        obtain ⟨v, e1, e2⟩ := h2.at hg
        exact ⟨v, e2, fun Q q => .inr (.inl ⟨a, xs, i, v, rfl, rfl, su.t h1, e1, q⟩)⟩
      | _ => cases hg
    | str z =>
      cases hy with
      | int i =>
        have hg : (if z.length ≤ LN then (atI z.cps.toList i).map fun c => D.str ⟨#[c]⟩ else none) = some d' := hg
        by_cases hl : z.length ≤ LN
        · rw [if_pos hl] at hg
          obtain ⟨c, e1, rfl⟩ := Option.map_eq_some_iff.mp hg
          exact ⟨_, .str _, fun Q q => .inr (.inr ⟨z, i, c, rfl, rfl, ln_line hl, e1, q⟩)⟩
        · rw [if_neg hl] at hg
          cases hg
      | _ => cases hg
    | _ => cases hg
  · cases c with
    | lst ds => obtain ⟨xs, h1, h2⟩ := hc; exact lst (.inl h1) h2 hg
    | _ => cases hg
theorem d_ix (hK : C.K = X.K) (ha : DE X C W a fa) (hb : DE X C W b fb) (hs : PlainIx b := by exact fun _ _ => rfl) : DE X C W (.Subscript a b pos) (bin atD fa fb) := by
  refine pe_imp (pe_ix ix_seq ha hb hs) (t_bin fun H F x y d e d' su hx hy hg Q q => ?_)
  rw [hK] at hx hy
  obtain ⟨v, iv, k⟩ := ix_view su (.inl hx) hy hg
  exact k Q (q v H F (Ext.refl su) (by rw [hK]; exact iv))
def mhas (i : Nat) : M Unit := fun s => match peekD s i with
  | some _ => .ok () s
  | none => .bad
/-- first a slot, then b, then the slot's thing as it stands then -/
def slotThen (i : Nat) (fb : M D) (g : D → D → Option D) : M D := mbind (mhas i) fun _ => mbind fb fun k => mbind (mpeek i) fun d => mopt (g d k)
theorem post_has {α : Type} {i : Nat} {k : M α} {P : α → S → Hp → Hp → Prop} (q : Post C W σ F ((mhas i s).bind fun _ => k) P) : ∃ d, peekD s i = some d ∧ Post C W σ F (k s) P := by
  unfold mhas at q
  cases h : peekD s i with
  | none => rw [h] at q; exact q.elim
  | some d => rw [h] at q; exact ⟨d, rfl, q⟩
theorem post_peek {α : Type} {i : Nat} {k : D → M α} {P : α → S → Hp → Hp → Prop} (q : Post C W σ F ((mpeek i s).bind k) P) : ∃ d, peekD s i = some d ∧ Post C W σ F (k d s) P := by
  unfold mpeek at q
  cases h : peekD s i with
  | none => rw [h] at q; exact q.elim
  | some d => rw [h] at q; exact ⟨d, rfl, q⟩
/-- of a slot's thing as it stands -/
theorem d_ixP {i : Nat} (hK : C.K = X.K) (ha : PE X a (tVar i)) (hb : DE X C W b fb) (hs : PlainIx b := by exact fun _ _ => rfl) : DE X C W (.Subscript a b pos) (slotThen i fb atD) := by
  refine pe_imp (pe_ix ix_seq ha hb hs) fun σ H Q ⟨F, s, r, q⟩ => ?_
  obtain ⟨d0, e0, q0⟩ := post_has q
  obtain ⟨v, e1, _⟩ := r.peek e0
  refine ⟨v, e1, F, s, r, (Post.bind q0).mono fun k s2 H2 F2 r2 u2 q2 y iy => ?_⟩
  obtain ⟨d, e2, q3⟩ := post_peek q2
  obtain ⟨v', e3, vw⟩ := r2.peek e2
  rw [e1] at e3
  cases e3
  obtain ⟨d', e4, q4⟩ := post_val q3 r2
  rw [hK] at vw iy
  obtain ⟨z, iz, k⟩ := ix_view r2.sub vw iy e4
  exact k Q (q4 H2 F2 (Ext.refl r2.sub) z (by rw [hK]; exact iz))
/-! ### one-place operations -/
def UnV (K : PySem.W.Frag) (r : V → Hp → VK → Prop) (g : D → Option D) : Prop :=
  ∀ (H F : Hp) (x : V) (d d' : D), Sub F H → Is K F x d → g d = some d' → ∀ Q : VK, (∀ v H' F', Ext H F H' F' → Is K F' v d' → Q v H') → r x H Q
theorem t_un {rr : V → Hp → VK → Prop} {g : D → Option D} (ov : UnV C.K rr g) (σ : L2.St) (H : Hp) (Q : VK) (h : tD C W (un g fa) σ H Q) : tUn rr (tD C W fa) σ H Q := by
  obtain ⟨F, s, r, q⟩ := h
  refine ⟨F, s, r, (Post.bind q).mono fun d s1 H1 F1 r1 u1 q1 x ix => ?_⟩
  obtain ⟨d', e1, q3⟩ := post_val q1 r1
  exact ov H1 F1 x d d' r1.sub ix e1 Q fun v H' F' ex iv => q3 H' F' ex v iv
def negD : D → Option D
  | .int i => some (.int (-i))
  | _ => none
theorem d_neg (ha : DE X C W a fa) : DE X C W (.UnaryOp .USub a pos) (un negD fa) :=
  pe_imp (pe_un un_neg ha) (t_un fun H F x d d' su hx hg Q q => by
    cases hx with
    | int i => cases hg; exact ⟨i, rfl, q _ H F (Ext.refl su) (.int _)⟩
    | _ => cases hg)
/-! ### truth, and, or, not, if -/
def truD : D → Option Bool
  | .non => some false
  | .bl b => some b
  | .int i => some (i != 0)
  | .str y => if y.length ≤ LN then some ((y.length : Int) != 0) else none
  | .tup xs => some (!xs.isEmpty)
  | .lst xs => some (!xs.isEmpty)
  | .dic kvs => some (!kvs.isEmpty)
  | _ => none
theorem isEmpty_all {F : Hp} {vs : List V} {ds : List D} (h : IsAll K F vs ds) : (!ds.isEmpty) = !vs.isEmpty := by
  cases h <;> rfl
theorem tru_view {x : V} {d : D} {k : Bool} (su : Sub F H) (hx : View K F H x d) (hg : truD d = some k) : TruV K x H k := by
  rcases hx with hx | ⟨a, c, rfl, rfl, hc⟩
  · cases hx with
    | non => cases hg; rfl
    | bl b => cases hg; rfl
    | int i => cases hg; rfl
    | str y =>
      have hg : (if y.length ≤ LN then some ((y.length : Int) != 0) else none) = some k := hg
      obtain ⟨h1, rfl⟩ := if_some hg
      exact ⟨ln_line h1, rfl⟩
    | tup h1 h2 => cases hg; exact .inr (.inl ⟨_, su.t h1, isEmpty_all h2⟩)
    | lst h1 h2 => cases hg; exact .inl ⟨_, .inl (su.rd h1), isEmpty_all h2⟩
    | dic h1 h2 => cases hg; exact .inr (.inr ⟨_, su _ _ h1, by cases h2 <;> rfl⟩)
    | _ => cases hg
  · cases c with
    | lst ds => obtain ⟨xs, h1, h2⟩ := hc; cases hg; exact .inl ⟨_, .inl (.inl h1), isEmpty_all h2⟩
    | ins _ _ => cases hg
    | dic kvs => obtain ⟨ks, h1, h2⟩ := hc; cases hg; exact .inr (.inr ⟨_, h1, by cases h2 <;> rfl⟩)
    | tdc _ => cases hg
/-- a value's truth -/
def tru (f : M D) : M Bool := mbind f fun d => mopt (truD d)
theorem dt_truth (hK : C.K = X.K) (ha : DE X C W a fa) (he : ∀ whole, isTrue a X.env whole = (do let v ← whole; standAt a.pos; holding [v] (truthy v)) := by intro _; rfl) : DT X C W a (tru fa) := by
  refine pt_imp (pt_truth ha he) fun σ H Q ⟨F, s, r, q⟩ => ⟨F, s, r, (Post.bind q).mono fun d s1 H1 F1 r1 u1 q1 v iv => ?_⟩
  obtain ⟨k, e1, q2⟩ := post_optB q1 r1
  rw [hK] at iv
  exact ⟨k, tru_view r1.sub (.inl iv) e1, q2 H1 F1 (Ext.refl r1.sub)⟩
def eAnd (fa fb : M D) : M D := mbind fa fun d => mbind (mopt (truD d)) fun k => if k = true then fb else mret d
def eOr (fa fb : M D) : M D := mbind fa fun d => mbind (mopt (truD d)) fun k => if k = true then mret d else fb
variable {rest : List Expr} {ta tb : M Bool}
theorem d_one {op} (h : DE X C W a fa) : DE X C W (.BoolOp op [a] pos) fa := pe_one h
theorem d_and (hK : C.K = X.K) (ha : DE X C W a fa) (hb : DE X C W (.BoolOp .And (b :: rest) pos) fb) : DE X C W (.BoolOp .And (a :: b :: rest) pos) (eAnd fa fb) := by
  refine pe_imp (pe_andT ha hb) fun σ H Q ⟨F, s, r, q⟩ => ⟨F, s, r, (Post.bind q).mono fun d s1 H1 F1 r1 u1 q1 v iv => ?_⟩
  obtain ⟨k, e1, q2⟩ := post_optB (Post.bind q1) r1
  have q3 := q2 H1 F1 (Ext.refl r1.sub)
  have iv' := iv
  rw [hK] at iv'
  refine ⟨k, tru_view r1.sub (.inl iv') e1, ?_⟩
  cases k with
  | true => rw [if_pos rfl] at q3 ⊢; exact ⟨F1, s1, r1, q3⟩
  | false => rw [if_neg Bool.false_ne_true] at q3 ⊢; exact q3 H1 F1 r1 (Sub.refl _) v iv
def notD (d : D) : Option D := (truD d).map fun k => .bl (!k)
theorem d_not (hK : C.K = X.K) (ha : DE X C W a fa) : DE X C W (.UnaryOp .Not a pos) (un notD fa) := by
  refine pe_imp (pe_notT ha) fun σ H Q ⟨F, s, r, q⟩ => ⟨F, s, r, (Post.bind q).mono fun d s1 H1 F1 r1 u1 q1 v iv => ?_⟩
  obtain ⟨d', e1, q2⟩ := post_val q1 r1
  obtain ⟨k, e2, rfl⟩ := Option.map_eq_some_iff.mp e1
  rw [hK] at iv
  exact ⟨k, tru_view r1.sub (.inl iv) e2, q2 H1 F1 (Ext.refl r1.sub) _ (.bl _)⟩
/-- tests -/
def tAndB (ta tb : M Bool) : M Bool := mbind ta fun k => if k = true then tb else mret false
def tOrB (ta tb : M Bool) : M Bool := mbind ta fun k => if k = true then mret true else tb
def tNotB (ta : M Bool) : M Bool := mbind ta fun k => mret (!k)
theorem dt_pw (h : DW X C W a ta) : DT X C W a ta := h.pt
theorem dw_or1 (ha : DT X C W a ta) : DW X C W (.BoolOp .Or [a] pos) ta := pw_or1 ha
theorem dw_or (ha : DT X C W a ta) (hb : DW X C W (.BoolOp .Or (b :: rest) pos) tb) : DW X C W (.BoolOp .Or (a :: b :: rest) pos) (tOrB ta tb) := by
  refine pw_imp (pw_or ha hb) fun σ H Q ⟨F, s, r, q⟩ => ⟨F, s, r, (Post.bind q).mono fun k s1 H1 F1 r1 u1 q1 => ?_⟩
  cases k with
  | true => rw [if_pos rfl] at q1 ⊢; exact q1 H1 F1 r1 (Sub.refl _)
  | false => rw [if_neg Bool.false_ne_true] at q1 ⊢; exact ⟨F1, s1, r1, q1⟩
theorem dt_not (ha : DT X C W a ta) : DT X C W (.UnaryOp .Not a pos) (tNotB ta) :=
  pt_imp (pt_not ha) fun σ H Q ⟨F, s, r, q⟩ => ⟨F, s, r, (Post.bind q).mono fun k s1 H1 F1 r1 u1 q1 => q1 H1 F1 r1 (Sub.refl _)⟩
def eIf (t : M Bool) (fa fb : M D) : M D := mbind t fun k => if k = true then fa else fb
theorem d_if {c : Expr} (hc : DT X C W c ta) (ha : DE X C W a fa) (hb : DE X C W b fb) : DE X C W (.IfExp c a b pos) (eIf ta fa fb) := by
  refine pe_imp (pe_ifExp hc ha hb) fun σ H Q ⟨F, s, r, q⟩ => ⟨F, s, r, (Post.bind q).mono fun k s1 H1 F1 r1 u1 q1 => ?_⟩
  cases k with
  | true => rw [if_pos rfl] at q1 ⊢; exact ⟨F1, s1, r1, q1⟩
  | false => rw [if_neg Bool.false_ne_true] at q1 ⊢; exact ⟨F1, s1, r1, q1⟩
/-! ### argument lists, displays -/
variable {es : List Expr} {fs : M (List D)}
def aCons (fa : M D) (fs : M (List D)) : M (List D) := mbind fa fun d => mbind fs fun ds => mret (d :: ds)
theorem da_nil : DA X C W [] (mret []) := pa_imp pa_nil fun σ H Q ⟨F, s, r, q⟩ => q H F r (Sub.refl _) [] .nil
theorem da_cons (ha : DE X C W a fa) (hr : DA X C W es fs) (hs : starEach (a :: es) X.env = (false, eval a X.env) :: starEach es X.env := by rfl) : DA X C W (a :: es) (aCons fa fs) := by
  refine pa_imp (pa_cons ha hr hs) fun σ H Q ⟨F, s, r, q⟩ => ⟨F, s, r, (Post.bind q).mono fun d s1 H1 F1 r1 u1 q1 x ix => ⟨F1, s1, r1, (Post.bind q1).mono fun ds s2 H2 F2 r2 u2 q2 xs ixs => ?_⟩⟩
  exact q2 H2 F2 r2 (Sub.refl _) _ (.cons (ix.up u2) ixs)
def eTup (fs : M (List D)) : M D := mbind fs fun ds => if ds.length ≤ LN then mret (.tup ds) else fun _ => .bad
def eLst (fs : M (List D)) : M D := mbind fs fun ds => if ds.length ≤ LN then mret (.lst ds) else fun _ => .bad
def oLst (fs : M (List D)) : M Cell := mbind fs fun ds => if ds.length ≤ LN then mret (.lst ds) else fun _ => .bad
theorem post_ite {α : Type} {c : Prop} [Decidable c] {x : α} {P : α → S → Hp → Hp → Prop} (q : Post C W σ F ((if c then mret x else fun _ => .bad : M α) s) P) (r : Rel C σ H F s) : c ∧ ∀ H' F', Ext H F H' F' → P x s H' F' := by
  by_cases h : c
  · rw [if_pos h] at q
    exact ⟨h, fun H' F' e => q H' F' (r.ext e) e.f⟩
  · rw [if_neg h] at q
    exact q.elim
theorem d_tup {k} (h : DA X C W es fs) : DE X C W (.Tuple es k pos) (eTup fs) := by
  refine pe_imp (pe_tup h) fun σ H Q ⟨F, s, r, q⟩ => ⟨F, s, r, (Post.bind q).mono fun ds s1 H1 F1 r1 u1 q1 xs ixs => ?_⟩
  obtain ⟨hl, q2⟩ := post_ite q1 r1
  exact ⟨by rw [ixs.len]; exact ln_line hl, fun p n => q2 _ _ (ext_new r1.sub n) _ (new_tup r1.sub n ixs)⟩
theorem d_lst (h : DA X C W es fs) : DE X C W (.List es pos) (eLst fs) := by
  refine pe_imp (pe_lst h) fun σ H Q ⟨F, s, r, q⟩ => ⟨F, s, r, (Post.bind q).mono fun ds s1 H1 F1 r1 u1 q1 xs ixs => ?_⟩
  obtain ⟨hl, q2⟩ := post_ite q1 r1
  exact ⟨by rw [ixs.len]; exact ln_line hl, fun p n => q2 _ _ (ext_new r1.sub n) _ (new_lst r1.sub n ixs)⟩
/-- a new thing that is not known to stay -/
theorem ext_own {p : Addr} {o : HO} (su : Sub F H) (n : H p = none) : Ext H F (upd H p o) F where
  h := fun a u e => by rw [upd_ne (ne_of_none e n)]; exact e
  f := Sub.refl _
  s := fun a u e => by rw [upd_ne (ne_of_none (su a u e) n)]; exact su a u e
  o := fun _ _ => rfl
theorem Rel.newH (r : Rel C σ H F s) {p : Addr} (n : H p = none) : C.H0 p = none := by
  cases e : C.H0 p with
  | none => rfl
  | some o =>
    by_cases m : p ∈ C.A
    · obtain ⟨j, hj⟩ := List.getElem?_of_mem m
      cases z : s.io[j]? with
      | none =>
        have l1 := List.getElem?_eq_none_iff.mp z
        have l2 : j < C.A.length := (List.getElem?_eq_some_iff.mp hj).1
        rw [r.iol] at l1
        omega
      | some c =>
        obtain ⟨o, ho⟩ := (r.io j p c hj z).2.there
        rw [n] at ho
        cases ho
    · exact absurd n (r.keep p o e m).ne
theorem Rel.newF (r : Rel C σ H F s) {p : Addr} (n : H p = none) : F p = none := by
  cases e : F p with
  | none => rfl
  | some o => rw [r.sub p o e] at n; cases n
theorem Rel.newO (r : Rel C σ H F s) {p : Addr} (n : H p = none) : ∀ i, ¬ OwnAt σ s.sl i p := fun i ⟨e, c, h⟩ => by
  obtain ⟨a, e1, _, _, e4⟩ := r.slot i _ h
  rw [e] at e1
  cases e1
  obtain ⟨o, ho⟩ := e4.there
  rw [n] at ho
  cases ho
theorem o_lst (h : DA X C W es fs) : DO X C W (.List es pos) (oLst fs) := by
  refine pe_imp (pe_lst h) fun σ H Q ⟨F, s, r, q⟩ => ⟨F, s, r, (Post.bind q).mono fun ds s1 H1 F1 r1 u1 q1 xs ixs => ?_⟩
  obtain ⟨hl, q2⟩ := post_ite q1 r1
  refine ⟨by rw [ixs.len]; exact ln_line hl, fun p n => q2 _ _ (ext_own r1.sub n) p (fun i h => r1.newO n i h) (r1.newH n) (r1.newF n) ⟨xs, upd_same, ixs⟩⟩
end
end DL
set_option maxHeartbeats 2000000
/-! DL6: built-in functions and types called, methods of built-in types, slices, f-strings. -/
namespace DL
open PySem PySem.Spec PyProof.Rows L2
section
variable {C : Ct} {W : WX} {X : Cx} {σ : L2.St} {H F : Hp} {s : S} {fa fb fc : M D} {a b c e : Expr} {es : List Expr} {fs : M (List D)} {pos p : Pos} {K : PySem.W.Frag} {x : Str} {bid T : String}
/-! ### calls by values -/
abbrev RC := List V → Hp → VK → Prop
def OpC (K : PySem.W.Frag) (r : RC) (g : List D → Option D) : Prop :=
  ∀ (H F : Hp) (vs : List V) (ds : List D) (d' : D), Sub F H → IsAll K F vs ds → g ds = some d' → ∀ Q : VK, (∀ v H' F', Ext H F H' F' → Is K F' v d' → Q v H') → r vs H Q
/-- it gives a new list -/
def OpN (K : PySem.W.Frag) (r : RC) (g : List D → Option (List D)) : Prop :=
  ∀ (H F : Hp) (vs : List V) (ds : List D) (ds' : List D), Sub F H → IsAll K F vs ds → g ds = some ds' → ∀ Q : VK, (∀ p xs, H p = none → IsAll K F xs ds' → Q (.ref p) (upd H p (.lst xs))) → r vs H Q
def CalD (X : Cx) (f : Value) (g : List D → Option D) : Prop := ∃ r, CallR X f r ∧ OpC X.K r g
def CalN (X : Cx) (f : Value) (g : List D → Option (List D)) : Prop := ∃ r, CallR X f r ∧ OpN X.K r g
def cal (g : List D → Option D) (fs : M (List D)) : M D := mbind fs fun ds => mopt (g ds)
def calN (g : List D → Option (List D)) (fs : M (List D)) : M Cell := mbind fs fun ds => mbind (mopt (g ds)) fun xs => mret (.lst xs)
def calL (g : List D → Option (List D)) (fs : M (List D)) : M D := mbind fs fun ds => mbind (mopt (g ds)) fun xs => mret (.lst xs)
theorem t_cal {rr : RC} {g : List D → Option D} (ov : OpC C.K rr g) (σ : L2.St) (H : Hp) (Q : VK) (h : tD C W (cal g fs) σ H Q) : tCB rr (tA C W fs) σ H Q := by
  obtain ⟨F, s, r, q⟩ := h
  refine ⟨F, s, r, (Post.bind q).mono fun ds s1 H1 F1 r1 u1 q1 xs ixs => ?_⟩
  obtain ⟨d', e1, q3⟩ := post_val q1 r1
  exact ov H1 F1 xs ds d' r1.sub ixs e1 Q fun v H' F' ex iv => q3 H' F' ex v iv
theorem t_calN {rr : RC} {g : List D → Option (List D)} (ov : OpN C.K rr g) (σ : L2.St) (H : Hp) (Q : VK) (h : tO C W (calN g fs) σ H Q) : tCB rr (tA C W fs) σ H Q := by
  obtain ⟨F, s, r, q⟩ := h
  refine ⟨F, s, r, (Post.bind q).mono fun ds s1 H1 F1 r1 u1 q1 xs ixs => ?_⟩
  obtain ⟨ds', e1, q2⟩ := post_optB (Post.bind q1) r1
  refine ov H1 F1 xs ds ds' r1.sub ixs e1 Q fun p ys n iy => ?_
  exact (q2 H1 F1 (Ext.refl r1.sub)) _ _ (r1.ext (ext_own r1.sub n)) (Sub.refl _) p (r1.newO n) (r1.newH n) (r1.newF n) ⟨ys, upd_same, iy⟩
theorem t_calL {rr : RC} {g : List D → Option (List D)} (ov : OpN C.K rr g) (σ : L2.St) (H : Hp) (Q : VK) (h : tD C W (calL g fs) σ H Q) : tCB rr (tA C W fs) σ H Q := by
  obtain ⟨F, s, r, q⟩ := h
  refine ⟨F, s, r, (Post.bind q).mono fun ds s1 H1 F1 r1 u1 q1 xs ixs => ?_⟩
  obtain ⟨ds', e1, q2⟩ := post_optB (Post.bind q1) r1
  refine ov H1 F1 xs ds ds' r1.sub ixs e1 Q fun p ys n iy => ?_
  exact (q2 H1 F1 (Ext.refl r1.sub)) _ _ (r1.ext (ext_new r1.sub n)) (ext_new r1.sub n).f _ (new_lst r1.sub n iy)
theorem d_callB {g : List D → Option D} (hK : C.K = X.K) (hc : CalD X (.builtin bid) g) (hm : X.mg x = none) (hv : bootBuiltins x = some (.builtin bid)) (ha : DA X C W (e :: es) fs) (hg : Gl X x := by rfl) (hn : x ≠ "__name__" := by decide) (hdb : (x == ("__debug__" : Str)) = false := by decide)
    (he : starEach (e :: es) X.env = (false, eval e X.env) :: starEach es X.env := by rfl) (hpl : (backTo pos (starEach es X.env)).any (·.1) = false := by rfl) : DE X C W (.Call (.Name x p) (e :: es) [] pos) (cal g fs) := by
  obtain ⟨r, o1, o2⟩ := hc
  exact pe_imp (pe_callB o1 hg hm hv ha hn hdb he hpl) (t_cal (by rw [hK]; exact o2))
theorem d_callT {g : List D → Option D} (hK : C.K = X.K) (hc : CalD X (.type T) g) (hm : X.mg x = none) (hv : bootBuiltins x = some (.type T)) (ha : DA X C W (e :: es) fs) (hg : Gl X x := by rfl) (hn : x ≠ "__name__" := by decide) (hdb : (x == ("__debug__" : Str)) = false := by decide)
    (he : starEach (e :: es) X.env = (false, eval e X.env) :: starEach es X.env := by rfl) (hpl : (backTo pos (starEach es X.env)).any (·.1) = false := by rfl) : DE X C W (.Call (.Name x p) (e :: es) [] pos) (cal g fs) := by
  obtain ⟨r, o1, o2⟩ := hc
  exact pe_imp (pe_callTy o1 hg hm hv ha hn hdb he hpl) (t_cal (by rw [hK]; exact o2))
theorem d_callTL {g : List D → Option (List D)} (hK : C.K = X.K) (hc : CalN X (.type T) g) (hm : X.mg x = none) (hv : bootBuiltins x = some (.type T)) (ha : DA X C W (e :: es) fs) (hg : Gl X x := by rfl) (hn : x ≠ "__name__" := by decide) (hdb : (x == ("__debug__" : Str)) = false := by decide)
    (he : starEach (e :: es) X.env = (false, eval e X.env) :: starEach es X.env := by rfl) (hpl : (backTo pos (starEach es X.env)).any (·.1) = false := by rfl) : DE X C W (.Call (.Name x p) (e :: es) [] pos) (calL g fs) := by
  obtain ⟨r, o1, o2⟩ := hc
  exact pe_imp (pe_callTy o1 hg hm hv ha hn hdb he hpl) (t_calL (by rw [hK]; exact o2))
theorem o_callTN {g : List D → Option (List D)} (hK : C.K = X.K) (hc : CalN X (.type T) g) (hm : X.mg x = none) (hv : bootBuiltins x = some (.type T)) (ha : DA X C W (e :: es) fs) (hg : Gl X x := by rfl) (hn : x ≠ "__name__" := by decide) (hdb : (x == ("__debug__" : Str)) = false := by decide)
    (he : starEach (e :: es) X.env = (false, eval e X.env) :: starEach es X.env := by rfl) (hpl : (backTo pos (starEach es X.env)).any (·.1) = false := by rfl) : DO X C W (.Call (.Name x p) (e :: es) [] pos) (calN g fs) := by
  obtain ⟨r, o1, o2⟩ := hc
  exact pe_imp (pe_callTy o1 hg hm hv ha hn hdb he hpl) (t_calN (by rw [hK]; exact o2))
/-! ### len -/
def lenD : D → Option Int
  | .str z => if z.length ≤ LN then some z.length else none
  | .lst xs => some xs.length
  | .tup xs => some xs.length
  | _ => none
def lenC : List D → Option D
  | [d] => (lenD d).map .int
  | _ => none
def rLenA (K : PySem.W.Frag) : RC := fun xs H Q => (∃ p ys, xs = [.ref p] ∧ (SqL K H p ys ∨ SqT K H p ys) ∧ Q (.int ys.length) H) ∨ ∃ z, xs = [.str z] ∧ z.length ≤ sizeLine ∧ Q (.int z.length) H
theorem len_view {v : V} {d : D} {n : Int} (su : Sub F H) (h : View K F H v d) (hg : lenD d = some n) {Q : VK} (q : Q (.int n) H) : rLenA K [v] H Q := by
  rcases h with h | ⟨a, c, rfl, rfl, hc⟩
  · cases h with
    | str z =>
      obtain ⟨h1, rfl⟩ := if_some (show (if z.length ≤ LN then some (z.length : Int) else none) = some n from hg)
      exact .inr ⟨z, rfl, ln_line h1, q⟩
    | lst h1 h2 => cases hg; exact .inl ⟨_, _, rfl, .inl (.inl (su.rd h1)), by rw [h2.len]; exact q⟩
    | tup h1 h2 => cases hg; exact .inl ⟨_, _, rfl, .inr (su.t h1), by rw [h2.len]; exact q⟩
    | _ => cases hg
  · cases c with
    | lst ds => obtain ⟨xs, h1, h2⟩ := hc; cases hg; exact .inl ⟨_, _, rfl, .inl (.inl (.inl h1)), by rw [h2.len]; exact q⟩
    | _ => cases hg
theorem c_len : CalD X (.builtin "len") lenC := by
  refine ⟨rLenA X.K, call_len_seq.or call_len_str, ?_⟩
  intro H F vs ds d' su h hg Q q
  cases h with
  | cons h r =>
    cases r with
    | cons _ _ => cases hg
    | nil =>
      obtain ⟨n, e1, rfl⟩ := Option.map_eq_some_iff.mp hg
      exact len_view su (.inl h) e1 (q _ H F (Ext.refl su) (.int _))
  | nil => cases hg
/-! ### abs, int, bool, max, min of two -/
def absC : List D → Option D
  | [.int i] => some (.int (if i < 0 then -i else i))
  | _ => none
theorem c_abs : CalD X (.builtin "abs") absC := by
  refine ⟨_, call_abs, ?_⟩
  intro H F vs ds d' su h hg Q q
  cases h with
  | nil => cases hg
  | cons h r =>
    cases r with
    | nil =>
      cases h with
      | int i => cases hg; exact ⟨i, rfl, q _ H F (Ext.refl su) (.int _)⟩
      | _ => cases hg
    | cons _ _ => cases h <;> cases hg
def intC : List D → Option D
  | [.int i] => some (.int i)
  | [.bl k] => some (.int (if k then 1 else 0))
  | _ => none
theorem c_int : CalD X (.type "int") intC := by
  refine ⟨_, call_int1, ?_⟩
  intro H F vs ds d' su h hg Q q
  cases h with
  | nil => cases hg
  | cons h r =>
    cases r with
    | nil =>
      cases h with
      | int i => cases hg; exact .inl ⟨i, rfl, q _ H F (Ext.refl su) (.int _)⟩
      | bl k => cases hg; exact .inr ⟨k, rfl, q _ H F (Ext.refl su) (.int _)⟩
      | _ => cases hg
    | cons _ _ => cases h <;> cases hg
def max2C : List D → Option D
  | [.int i, .int j] => some (.int (if j > i then j else i))
  | _ => none
def min2C : List D → Option D
  | [.int i, .int j] => some (.int (if j < i then j else i))
  | _ => none
theorem two {vs : List V} {ds : List D} {d' : D} {g : Int → Int → D} {k : List D → Option D} (h : IsAll K F vs ds) (hk : k ds = some d') (hg : ∀ ds d', k ds = some d' → ∃ i j, ds = [.int i, .int j] ∧ d' = g i j) : ∃ i j, vs = [.int i, .int j] ∧ d' = g i j := by
  obtain ⟨i, j, rfl, e⟩ := hg ds d' hk
  cases h with
  | cons h r =>
    cases r with
    | cons h2 r =>
      cases r
      cases h
      cases h2
      exact ⟨i, j, rfl, e⟩
theorem c_max2 (hc : X.calm = true) : CalD X (.builtin "max") max2C := by
  refine ⟨_, call_max2 hc, ?_⟩
  intro H F vs ds d' su h hg Q q
  obtain ⟨i, j, rfl, rfl⟩ := two (g := fun i j => .int (if j > i then j else i)) h hg fun ds d' e => by
    unfold max2C at e
    split at e
    · cases e; exact ⟨_, _, rfl, rfl⟩
    · cases e
  exact ⟨i, j, rfl, q _ H F (Ext.refl su) (.int _)⟩
theorem c_min2 (hc : X.calm = true) : CalD X (.builtin "min") min2C := by
  refine ⟨_, call_min2 hc, ?_⟩
  intro H F vs ds d' su h hg Q q
  obtain ⟨i, j, rfl, rfl⟩ := two (g := fun i j => .int (if j < i then j else i)) h hg fun ds d' e => by
    unfold min2C at e
    split at e
    · cases e; exact ⟨_, _, rfl, rfl⟩
    · cases e
  exact ⟨i, j, rfl, q _ H F (Ext.refl su) (.int _)⟩
def divmodC : List D → Option D
  | [.int i, .int j] => if 0 < j ∧ j < 1073741824 then some (.tup [.int (i / j), .int (i % j)]) else none
  | _ => none
theorem c_divmod : CalD X (.builtin "divmod") divmodC := by
  refine ⟨_, call_divmod, ?_⟩
  intro H F vs ds d' su h hg Q q
  obtain ⟨i, j, rfl, rfl, hz⟩ : ∃ i j, vs = [.int i, .int j] ∧ d' = .tup [.int (i / j), .int (i % j)] ∧ (0 < j ∧ j < 1073741824) := by
    unfold divmodC at hg
    split at hg
    · obtain ⟨z, rfl⟩ := if_some hg
      cases h with
      | cons h r =>
        cases r with
        | cons h2 r =>
          cases r
          cases h
          cases h2
          exact ⟨_, _, rfl, rfl, z⟩
    · cases hg
  exact ⟨i, j, rfl, hz, fun p n => q _ _ _ (ext_new su n) (new_tup su n (.cons (.int _) (.cons (.int _) .nil)))⟩
/-! ### tuple(x), list(x) -/
def itemsD : D → Option (List D)
  | .lst xs => some xs
  | .tup xs => some xs
  | _ => none
def tupC : List D → Option D
  | [d] => (itemsD d).map .tup
  | _ => none
def lstC : List D → Option (List D)
  | [d] => itemsD d
  | _ => none
theorem one1 {α : Type} {vs : List V} {ds : List D} {y : α} {g : List D → Option α} {k : D → Option α} (h : IsAll K F vs ds) (hg : g ds = some y) (hk : ∀ ds y, g ds = some y → ∃ d, ds = [d] ∧ k d = some y) : ∃ v d, vs = [v] ∧ Is K F v d ∧ k d = some y := by
  obtain ⟨d, rfl, e⟩ := hk ds y hg
  cases h with
  | cons h r => cases r; exact ⟨_, d, rfl, h, e⟩
theorem c_tuple : CalD X (.type "tuple") tupC := by
  refine ⟨_, call_tuple_of, ?_⟩
  intro H F vs ds d' su h hg Q q
  obtain ⟨v, d, rfl, iv, e⟩ := one1 (k := fun d => (itemsD d).map .tup) h hg fun ds y e => by
    unfold tupC at e
    split at e
    · exact ⟨_, rfl, e⟩
    · cases e
  obtain ⟨xs, e, rfl⟩ := Option.map_eq_some_iff.mp e
  cases iv with
  | lst h1 h2 => cases e; exact ⟨_, _, rfl, .inl ⟨.inl (su.rd h1), fun l n => q _ _ _ (ext_new su n) (new_tup su n h2)⟩⟩
  | tup h1 h2 => cases e; exact ⟨_, _, rfl, .inr ⟨su.t h1, q _ H F (Ext.refl su) (.tup h1 h2)⟩⟩
  | _ => cases e
theorem c_list : CalN X (.type "list") lstC := by
  refine ⟨_, call_list_of, ?_⟩
  intro H F vs ds d' su h hg Q q
  obtain ⟨v, d, rfl, iv, e⟩ := one1 (k := itemsD) h hg fun ds y e => by
    unfold lstC at e
    split at e
    · exact ⟨_, rfl, e⟩
    · cases e
  cases iv with
  | lst h1 h2 => cases e; exact ⟨_, _, rfl, .inl (.inl (su.rd h1)), fun l n => q l _ n h2⟩
  | tup h1 h2 => cases e; exact ⟨_, _, rfl, .inr (su.t h1), fun l n => q l _ n h2⟩
  | _ => cases e
/-! ### all, any, sum, max, min of a list -/
def blsD : List D → Option (List Bool)
  | [] => some []
  | .bl b :: r => (blsD r).map (b :: ·)
  | _ => none
theorem isAll_bls : ∀ {vs : List V} {ds : List D} {bs : List Bool}, IsAll K F vs ds → blsD ds = some bs → vs = bs.map V.bl
  | _, _, _, .nil, e => by cases e; rfl
  | _, _, _, .cons (d := d) h r, e => by
    cases h with
    | bl b =>
      obtain ⟨bs, e1, rfl⟩ := Option.map_eq_some_iff.mp (show (blsD _).map (b :: ·) = some _ from e)
      rw [isAll_bls r e1]
      rfl
    | _ => cases e
def allC : List D → Option D
  | [.lst ds] => (blsD ds).map fun bs => .bl (bs.all id)
  | _ => none
theorem lst1 {α : Type} {vs : List V} {ds : List D} {y : α} {g : List D → Option α} {k : List D → Option α} (su : Sub F H) (h : IsAll K F vs ds) (hg : g ds = some y) (hk : ∀ ds y, g ds = some y → ∃ xs, ds = [.lst xs] ∧ k xs = some y) : ∃ a us xs, vs = [.ref a] ∧ SqL K H a us ∧ IsAll K F us xs ∧ k xs = some y := by
  obtain ⟨d, rfl, e⟩ := hk ds y hg
  cases h with
  | cons h r =>
    cases r
    cases h with
    | lst h1 h2 => exact ⟨_, _, d, rfl, .inl (su.rd h1), h2, e⟩
theorem c_all (hc : X.calm = true) : CalD X (.builtin "all") allC := by
  refine ⟨_, cr_all hc, ?_⟩
  intro H F vs ds d' su h hg Q q
  obtain ⟨a, us, xs, rfl, hs, hi, e⟩ := lst1 (k := fun ds => (blsD ds).map fun bs => D.bl (bs.all id)) su h hg fun ds y e => by
    unfold allC at e
    split at e
    · exact ⟨_, rfl, e⟩
    · cases e
  obtain ⟨bs, e1, rfl⟩ := Option.map_eq_some_iff.mp e
  rw [isAll_bls hi e1] at hs
  exact ⟨a, bs, rfl, hs, q _ H F (Ext.refl su) (.bl _)⟩
/-! ### repr, str -/
def rRepr (K : PySem.W.Frag) : RC := fun vs H Q => ∃ x d, vs = [x] ∧ Dp K H x d ∧ d.canLay0 = true ∧ d.depth ≤ 64 ∧ d.showable = true ∧ d.shown.length ≤ sizeLine ∧ Q (.str d.shown) H
theorem call_reprD (hg : X.A.guards = some []) (hu : X.A.units + 65 < cLine) : CallR X (.builtin "repr") (rRepr X.K) := by
  intro pins s σ H xs us Q I r h
  obtain ⟨x, d, rfl, hd, hl, hdp, hs, hz, q⟩ := h
  obtain ⟨u, rfl, ru⟩ := vals1 r
  obtain ⟨as, rd⟩ := Dp.reads I d x u hd ru
  cases rd with
  | none => exact PySem.P.repr_of_none ⟨.str _, H, I.tok _, ⟨_, rfl⟩, by simpa only [PyData.shown] using q⟩
  | bool b =>
    simp only [PyData.shown] at q
    exact PySem.P.repr_of_bool ⟨.str _, H, I.tok _, ⟨_, rfl⟩, by cases b <;> exact q⟩
  | int i t =>
    simp only [PyData.shown] at q
    exact PySem.P.repr_of_int (by simpa [PyData.showable] using hs) ⟨.str _, H, I.tok _, ⟨_, rfl⟩, q⟩
  | str z t =>
    simp only [PyData.shown] at q hz
    exact PySem.P.repr_of_str ⟨.str _, H, I.tok _, ⟨_, rfl⟩, q⟩ hz
  | list h1 h2 h3 h4 =>
    exact repr_of_reads' (.list h1 h2 h3 h4) hs (fun z => by rw [PyData.hasDict_of_canLay _ hl] at z; cases z) hg (by omega) (fun _ _ e => e) (fun h' u' tk hk => ⟨.str _, H, I.kept hk, ⟨_, rfl⟩, q⟩) hz
  | tuple h1 h2 h3 h4 =>
    exact repr_of_reads' (.tuple h1 h2 h3 h4) hs (fun z => by rw [PyData.hasDict_of_canLay _ hl] at z; cases z) hg (by omega) (fun _ _ e => e) (fun h' u' tk hk => ⟨.str _, H, I.kept hk, ⟨_, rfl⟩, q⟩) hz
  | dict _ _ _ _ _ => simp [PyData.canLay0] at hl
def reprC : List D → Option D
  | [d] => if (d.ok 10 && d.py.showable && decide (d.py.shown.length ≤ LN)) = true then some (.str d.py.shown) else none
  | _ => none
theorem c_repr (hg : X.A.guards = some []) (hu : X.A.units + 65 < cLine) : CalD X (.builtin "repr") reprC := by
  refine ⟨_, call_reprD hg hu, ?_⟩
  intro H F vs ds d' su h hg Q q
  obtain ⟨v, d, rfl, iv, e⟩ := one1 (k := fun d => if (d.ok 10 && d.py.showable && decide (d.py.shown.length ≤ LN)) = true then some (D.str d.py.shown) else none) h hg fun ds y e => by
    unfold reprC at e
    split at e
    · exact ⟨_, rfl, e⟩
    · cases e
  obtain ⟨z, rfl⟩ := ifb_some e
  simp only [Bool.and_eq_true, decide_eq_true_eq] at z
  have l := ok_lay 10 d z.1.1
  exact ⟨v, d.py, rfl, dp_up su (iv.dp 10 z.1.1), l.1, by omega, z.1.2, ln_line z.2, q _ H F (Ext.refl su) (.str _)⟩
end
end DL
set_option maxHeartbeats 2000000
/-! DL7: slices, f-strings, methods of texts, fields. -/
namespace DL
open PySem PySem.Spec PyProof.Rows L2
section
variable {C : Ct} {W : WX} {X : Cx} {σ : L2.St} {H F : Hp} {s : S} {fa fb fc : M D} {a b c e : Expr} {es : List Expr} {fs : M (List D)} {pos p apos : Pos} {K : PySem.W.Frag} {x : Str} {bid T : String}
/-! ### slices -/
def tP (C : Ct) (W : WX) (f : M (Option Int)) : TO := fun σ H Q => ∃ F s, Rel C σ H F s ∧ Post C W σ F (f s) fun o _ H' _ => Q o H'
abbrev DP (X : Cx) (C : Ct) (W : WX) (e : Option Expr) (f : M (Option Int)) : Prop := PO X e (tP C W f)
theorem po_imp {X : Cx} {e : Option Expr} {t u : TO} (h : PO X e t) (i : ∀ σ H Q, u σ H Q → t σ H Q) : PO X e u := ⟨fun pins s σ H Q I q => h.run pins s σ H Q I (i _ _ _ q)⟩
def dI : D → Option (Option Int)
  | .int i => some (some i)
  | _ => none
def pSome (f : M D) : M (Option Int) := mbind f fun d => mopt (dI d)
theorem dp_none : DP X C W none (mret none) := po_imp po_none fun σ H Q ⟨F, s, r, q⟩ => q H F r (Sub.refl _)
theorem dp_some (h : DE X C W e fa) : DP X C W (some e) (pSome fa) := po_imp (po_some h) fun σ H Q ⟨F, s, r, q⟩ => ⟨F, s, r, (Post.bind q).mono fun d s1 H1 F1 r1 u1 q1 v iv => by
  cases iv with
  | int i => exact ⟨i, rfl, q1 H1 F1 r1 (Sub.refl _)⟩
  | _ => exact q1.elim⟩
def cutG {α : Type} (xs : List α) (lo hi : Option Int) : List α := (xs.drop (HT.sIx xs.length 0 lo)).take (HT.sIx xs.length xs.length hi - HT.sIx xs.length 0 lo)
theorem IsAll.cut {vs : List V} {ds : List D} (h : IsAll K F vs ds) (lo hi : Option Int) : IsAll K F (cutV vs lo hi) (cutG ds lo hi) := by
  unfold cutV cutG
  rw [h.len]
  exact (h.drop _).take _
def slD : D → Option Int → Option Int → Option D
  | .lst xs, lo, hi => some (.lst (cutG xs lo hi))
  | .tup xs, lo, hi => some (.tup (cutG xs lo hi))
  | .str z, lo, hi => if z.length ≤ LN then some (.str (cutS z lo hi)) else none
  | _, _, _ => none
def slice (fe : M D) (fl fh : M (Option Int)) : M D := mbind fe fun d => mbind fl fun l => mbind fh fun h => mopt (slD d l h)
theorem cut_whole {α : Type} {xs : List α} {lo hi : Option Int} (h : HT.sIx xs.length 0 lo = 0 ∧ HT.sIx xs.length xs.length hi = xs.length) : cutG xs lo hi = xs := by
  unfold cutG
  rw [h.1, h.2, List.drop_zero, Nat.sub_zero, List.take_length]
theorem d_slice {lo hi : Option Expr} {fl fh : M (Option Int)} {p2 : Pos} (hK : C.K = X.K) (he : DE X C W e fa) (hl : DP X C W lo fl) (hh : DP X C W hi fh) : DE X C W (.Subscript e (.Slice lo hi none p2) pos) (slice fa fl fh) := by
  refine pe_imp (pe_slice (sl_list.or (sl_tupA.or sl_str)) he hl hh) fun σ H Q ⟨F, s, r, q⟩ => ⟨F, s, r, (Post.bind q).mono fun d s1 H1 F1 r1 u1 q1 v iv => ⟨F1, s1, r1, (Post.bind q1).mono fun l s2 H2 F2 r2 u2 q2 => ⟨F2, s2, r2, (Post.bind q2).mono fun h s3 H3 F3 r3 u3 q3 => ?_⟩⟩⟩
  obtain ⟨d', e1, q4⟩ := post_val q3 r3
  have iv := (iv.up u2).up u3
  rw [hK] at iv
  have q4 : ∀ H' F', Ext H3 F3 H' F' → ∀ v, Is X.K F' v d' → Q v H' := by rw [← hK]; exact q4
  cases iv with
  | lst h1 h2 => cases e1; exact .inl ⟨_, _, rfl, .inl (r3.sub.rd h1), fun p n => q4 _ _ (ext_new r3.sub n) _ (new_lst r3.sub n (h2.cut l h))⟩
  | tup h1 h2 =>
    cases e1
    refine .inr (.inl ⟨_, _, rfl, r3.sub.t h1, fun w => ?_, fun _ p n => q4 _ _ (ext_new r3.sub n) _ (new_tup r3.sub n (h2.cut l h))⟩)
    rw [h2.len] at w
    rw [cut_whole w] at q4
    exact q4 _ _ (Ext.refl r3.sub) _ (.tup h1 h2)
  | str z =>
    obtain ⟨z1, rfl⟩ := if_some (show (if z.length ≤ LN then some (D.str (cutS z l h)) else none) = some d' from e1)
    exact .inr (.inr ⟨z, rfl, ln_line z1, q4 _ _ (Ext.refl r3.sub) _ (.str _)⟩)
  | _ => cases e1
/-! ### f-strings -/
def fmtD : D → Option D
  | .str y => if y.length ≤ LN then some (.str y) else none
  | .int i => if i.natAbs.log2 < 1920 then some (.str (Str.ofString (toString i))) else none
  | _ => none
def catS (acc : Str) : D → Option Str
  | .str y => if (acc ++ y).length ≤ LN then some (acc ++ y) else none
  | _ => none
def joins : Str → List (M D) → M D
  | acc, [] => mret (.str acc)
  | acc, f :: r => mbind f fun d => mbind (mopt (catS acc d)) fun acc' => joins acc' r
/-! ### methods of texts -/
abbrev RM := V → List V → Hp → VK → Prop
def txt : D → Option Str
  | .str z => some z
  | _ => none
def metS (g : Str → List D → Option D) (fo : M D) (fs : M (List D)) : M D := mbind fo fun d => mbind (mopt (txt d)) fun z => mbind fs fun ds => mopt (g z ds)
/-! ### fields -/
def fldD (c f : Str) : D → Option D
  | .ins c' fs => if c' = c then fs.lookup f else none
  | _ => none
/-- e.f, e of the class c -/
theorem d_fld {cn f : Str} (hK : C.K = X.K) (cl : Cls X.K (He.ga X.K cn)) (na : NoAttr X.K (He.ga X.K cn) f) (he : DE X C W e fa) (hb : attributeBase e f X.env (eval e X.env) = eval e X.env := by rfl) : DE X C W (.Attribute e f pos) (un (fldD cn f) fa) := by
  refine pe_imp (pe_fld he hb) fun σ H Q ⟨F, s, rr, q⟩ => ⟨F, s, rr, (Post.bind q).mono fun d s1 H1 F1 r1 u1 q1 v iv => ?_⟩
  obtain ⟨d', e1, q4⟩ := post_val q1 r1
  cases iv with
  | @ins a dx c' vs fs h1 h2 =>
    obtain ⟨rfl, e2⟩ : c' = cn ∧ fs.lookup f = some d' := by
      by_cases z : c' = cn
      · exact ⟨z, by rw [show fldD cn f (.ins c' fs) = if c' = cn then fs.lookup f else none from rfl, if_pos z] at e1; exact e1⟩
      · rw [show fldD cn f (.ins c' fs) = if c' = cn then fs.lookup f else none from rfl, if_neg z] at e1
        cases e1
    obtain ⟨w, e3, iw⟩ := h2.look e2
    rw [hK] at h1
    exact ⟨a, _, dx, vs, w, rfl, r1.sub _ _ h1, cl, na, e3, q4 _ _ (Ext.refl r1.sub) w iw⟩
  | _ => cases e1
/-- a module's name: a class or def -/
theorem d_glo {n : Str} (hK : C.K = X.K) (hm : X.mg n = some (.ref (He.ga X.K n))) (hg : Gl X n := by rfl) (hd : (n == ("__debug__" : Str)) = false := by decide) : DE X C W (.Name n pos) (mret (.glo n)) :=
  pe_imp (pe_glob (v := .ref (He.ga X.K n)) hg hm rfl hd) fun σ H Q ⟨F, s, r, q⟩ => q H F r (Sub.refl _) _ (by rw [← hK]; exact .glo n)
/-- a module's constant -/
theorem d_glob {n : Str} {v : V} {u : Value} {d : D} (hm : X.mg n = some u) (r : RelV v u) (hd' : ∀ F, Is C.K F v d) (hg : Gl X n := by rfl) (hd : (n == ("__debug__" : Str)) = false := by decide) : DE X C W (.Name n pos) (mret d) :=
  pe_imp (pe_glob hg hm r hd) fun σ H Q ⟨F, s, rr, q⟩ => q H F rr (Sub.refl _) _ (hd' F)
end
end DL
set_option maxHeartbeats 2000000
/-! DL8: statements. -/
namespace DL
open PySem PySem.Spec PyProof.Rows L2
section
variable {C : Ct} {W : WX} {X : Cx} {σ : L2.St} {H F : Hp} {s : S} {fa fb fc : M D} {a b c e : Expr} {es : List Expr} {fs : M (List D)} {pos p apos : Pos} {K : PySem.W.Frag} {x : Str}
theorem set_get {α : Type} {l : List α} {i j : Nat} {x y : α} (h : (l.set i x)[j]? = some y) : (j = i ∧ y = x ∧ i < l.length) ∨ (j ≠ i ∧ l[j]? = some y) := by
  by_cases q : i = j
  · subst q
    by_cases hl : i < l.length
    · rw [List.getElem?_set_self hl] at h
      cases h
      exact .inl ⟨rfl, rfl, hl⟩
    · rw [List.getElem?_eq_none (by simpa using hl)] at h
      cases h
  · rw [List.getElem?_set_ne q] at h
    exact .inr ⟨fun z => q z.symm, h⟩
/-- a slot is given something else -/
theorem Rel.put (r : Rel C σ H F s) {i : Nat} {x : Sl} {o : Option V} (hs : i < s.sl.length → SlotOk C F H (some o) x) (hown : ∀ c, x = .own c → ∃ a, o = some (.ref a) ∧ ∀ j, ¬ OwnAt σ s.sl j a) : Rel C (σ.set i o) H F (s.put i x) where
  sub := r.sub
  keep := r.keep
  f0 := r.f0
  len := by
    show (s.sl.set i x).length = (σ.set i o).length
    rw [List.length_set, List.length_set]
    exact r.len
  slot := fun j y e => by
    rcases set_get (show (s.sl.set i x)[j]? = some y from e) with ⟨rfl, rfl, hl⟩ | ⟨hj, e⟩
    · rw [List.getElem?_set_self (by rw [← r.len]; exact hl)]
      exact hs hl
    · rw [List.getElem?_set_ne (Ne.symm hj)]
      exact r.slot j y e
  iol := r.iol
  io := r.io
  ap := fun j k b e1 e2 => by
    obtain ⟨s1, c1, e1⟩ := e1
    obtain ⟨s2, c2, e2⟩ := e2
    have key : ∀ {m : Nat} {cm : Cell}, (σ.set i o)[m]? = some (some (.ref b)) → (s.sl.set i x)[m]? = some (.own cm) → (m = i ∧ x = .own cm ∧ o = some (.ref b)) ∨ (m ≠ i ∧ OwnAt σ s.sl m b) := fun {m cm} a1 a2 => by
      rcases set_get a2 with ⟨rfl, z, hl⟩ | ⟨hm, z⟩
      · rw [List.getElem?_set_self (by rw [← r.len]; exact hl)] at a1
        exact .inl ⟨rfl, z.symm, Option.some.inj a1⟩
      · rw [List.getElem?_set_ne (Ne.symm hm)] at a1
        exact .inr ⟨hm, a1, cm, z⟩
    rcases key s1 e1 with ⟨rfl, h1, h2⟩ | ⟨h1, h2⟩
    · rcases key s2 e2 with ⟨rfl, _, _⟩ | ⟨h3, h4⟩
      · rfl
      · obtain ⟨a, z1, z2⟩ := hown _ h1
        rw [h2] at z1
        cases z1
        exact absurd h4 (z2 k)
    · rcases key s2 e2 with ⟨rfl, h3, h4⟩ | ⟨h3, h4⟩
      · obtain ⟨a, z1, z2⟩ := hown _ h3
        rw [h4] at z1
        cases z1
        exact absurd h2 (z2 j)
      · exact r.ap j k b h2 h4
  inn := r.inn
  nd := r.nd
  s0 := r.s0
  tabs := r.tabs
theorem Rel.putV (r : Rel C σ H F s) {i : Nat} {v : V} {d : D} (h : Is C.K F v d) : Rel C (σ.set i (some v)) H F (s.put i (.val d)) :=
  r.put (fun _ => ⟨v, rfl, h⟩) fun c z => nomatch z
theorem Rel.putO (r : Rel C σ H F s) {i : Nat} {a : Addr} {c : Cell} (h1 : ∀ j, ¬ OwnAt σ s.sl j a) (h2 : C.H0 a = none) (h3 : F a = none) (h4 : CellAt C.K F H a c) : Rel C (σ.set i (some (.ref a))) H F (s.put i (.own c)) :=
  r.put (fun _ => ⟨a, rfl, h3, h2, h4⟩) fun c' z => ⟨a, rfl, h1⟩
/-! ### blocks -/
def sNx : S → Out := fun s => .nx s
def sSeq (f g : S → Out) : S → Out := fun s => match f s with
  | .nx s' => g s'
  | o => o
variable {f g : S → Out} {st : Stmt} {rest : List Stmt}
theorem PostS.up {F F1 : Hp} (u : Sub F F1) {o : Out} {nx : L2.St → Hp → Prop} {rt : VK} {bk ct : L2.St → Hp → Prop} (q : PostS C W F o nx rt bk ct) : PostS C W F1 o nx rt bk ct := by
  cases o with
  | nx s' => exact fun σ' H' F' r u' => q σ' H' F' r (u.trans u')
  | rt r s' => exact fun v σ' H' F' r1 u' r2 => q v σ' H' F' r1 (u.trans u') r2
  | bk s' => exact fun σ' H' F' r u' => q σ' H' F' r (u.trans u')
  | ct s' => exact fun σ' H' F' r u' => q σ' H' F' r (u.trans u')
  | exc c fs s' => exact fun a σ' H' F' r u' => q a σ' H' F' r (u.trans u')
  | bad => exact q
theorem PostS.imp {F : Hp} {o : Out} {nx nx' : L2.St → Hp → Prop} {rt rt' : VK} {bk bk' ct ct' : L2.St → Hp → Prop} (q : PostS C W F o nx rt bk ct) (h1 : ∀ σ H, nx σ H → nx' σ H) (h2 : ∀ v H, rt v H → rt' v H) (h3 : ∀ σ H, bk σ H → bk' σ H) (h4 : ∀ σ H, ct σ H → ct' σ H) : PostS C W F o nx' rt' bk' ct' := by
  cases o with
  | nx s' => exact fun σ' H' F' r u => h1 _ _ (q σ' H' F' r u)
  | rt r s' => exact fun v σ' H' F' r1 u r2 => h2 _ _ (q v σ' H' F' r1 u r2)
  | bk s' => exact fun σ' H' F' r u => h3 _ _ (q σ' H' F' r u)
  | ct s' => exact fun σ' H' F' r u => h4 _ _ (q σ' H' F' r u)
  | exc c fs s' => exact q
  | bad => exact q
theorem db_nil : DB X C W [] sNx := pss_imp pss_nil fun E σ H ⟨F, s, r, q⟩ => q σ H F r (Sub.refl _)
theorem db_one (h : DS X C W st f) : DB X C W [st] f := pss_one h
theorem db_cons (h1 : DS X C W st f) (h2 : DB X C W rest g) : DB X C W (st :: rest) (sSeq f g) := by
  refine pss_imp (pss_cons h1 h2) fun E σ H ⟨F, s, r, q⟩ => ⟨F, s, r, ?_⟩
  unfold sSeq at q
  cases h : f s with
  | nx s' => rw [h] at q; exact fun σ' H' F' r' u' => ⟨F', s', r', q.up u'⟩
  | _ => rw [h] at q; exact q
/-- a result, then a statement's end -/
def sOf {α : Type} (f : M α) (k : α → S → Out) : S → Out := fun s => match f s with
  | .ok a s' => k a s'
  | .exc c fs s' => .exc c fs s'
  | .bad => .bad
theorem post_of {α : Type} {fm : M α} {k : α → S → Out} {nx : L2.St → Hp → Prop} {rt : VK} {bk ct : L2.St → Hp → Prop} (q : PostS C W F (sOf fm k s) nx rt bk ct) : Post C W σ F (fm s) fun a s' _ F' => PostS C W F' (k a s') nx rt bk ct := by
  unfold sOf at q
  cases h : fm s with
  | ok a s' => rw [h] at q; exact fun _ _ _ u => q.up u
  | exc c fs s' => rw [h] at q; exact fun a H' F' r u x => q a σ H' F' r u x
  | bad => rw [h] at q; exact q
def sRet (f : M D) : S → Out := sOf f fun d s => .rt (.val d) s
def sRetO (f : M Cell) : S → Out := sOf f fun c s => .rt (.own c) s
def sRetN : S → Out := fun s => .rt (.val .non) s
theorem ds_ret (h : DE X C W e fa) : DS X C W (.Return (some e) pos) (sRet fa) :=
  ps_imp (ps_ret h) fun E σ H ⟨F, s, r, q⟩ => ⟨F, s, r, (post_of q).mono fun d s1 H1 F1 r1 u1 q1 v iv => q1 v σ H1 F1 r1 (Sub.refl _) iv⟩
theorem ds_retO {fo : M Cell} (h : DO X C W e fo) : DS X C W (.Return (some e) pos) (sRetO fo) :=
  ps_imp (ps_ret h) fun E σ H ⟨F, s, r, q⟩ => ⟨F, s, r, (post_of q).mono fun c s1 H1 F1 r1 u1 q1 a h1 h2 h3 h4 => q1 (.ref a) σ H1 F1 r1 (Sub.refl _) ⟨a, rfl, h3, h2, h4⟩⟩
def sDrop (f : M D) : S → Out := sOf f fun _ s => .nx s
theorem ds_expr (h : DE X C W e fa) (hs : swapsWith e none pos.line X.env = pure false := by rfl) : DS X C W (.Expr e pos) (sDrop fa) :=
  ps_imp (ps_expr h hs) fun E σ H ⟨F, s, r, q⟩ => ⟨F, s, r, (post_of q).mono fun d s1 H1 F1 r1 u1 q1 v iv => q1 σ H1 F1 r1 (Sub.refl _)⟩
def sIf (t : M Bool) (f g : S → Out) : S → Out := sOf t fun b => if b = true then f else g
theorem ds_if {t : M Bool} {as bs : List Stmt} (hc : DT X C W c t) (ha : DB X C W as f) (hb : DB X C W bs g) : DS X C W (.If c as bs pos) (sIf t f g) := by
  refine ps_imp (ps_if hc ha hb) fun E σ H ⟨F, s, r, q⟩ => ⟨F, s, r, (post_of q).mono fun k s1 H1 F1 r1 u1 q1 => ?_⟩
  cases k with
  | true => rw [if_pos rfl] at q1 ⊢; exact ⟨F1, s1, r1, q1⟩
  | false => rw [if_neg Bool.false_ne_true] at q1 ⊢; exact ⟨F1, s1, r1, q1⟩
/-! ### name = e -/
def sSet (i : Nat) (f : M D) : S → Out := sOf f fun d s => .nx (s.put i (.val d))
def sSetO (i : Nat) (f : M Cell) : S → Out := sOf f fun c s => .nx (s.put i (.own c))
/-- where a name of the def stands -/
structure Nm (X : Cx) (i : Nat) (x : Str) : Prop where
  nd : X.N.Nodup
  ix : X.N[i]? = some x
  lo : Loc X.env.scope x
  fn : X.fn x = true ∨ X.env.scope.names.lookup x = some .local
theorem ds_set {i : Nat} {p' : Pos} (n : Nm X i x) (h : DE X C W e fa) (hs : swapsWith e (some (.Name x p')) pos.line X.env = pure false := by rfl) : DS X C W (.Assign [.Name x p'] e pos) (sSet i fa) :=
  ps_imp (ps_set n.nd n.ix n.lo h hs n.fn) fun E σ H ⟨F, s, r, q⟩ => ⟨F, s, r, (post_of q).mono fun d s1 H1 F1 r1 u1 q1 v iv => q1 _ _ _ (r1.putV iv) (Sub.refl _)⟩
theorem ds_setO {i : Nat} {p' : Pos} {fo : M Cell} (n : Nm X i x) (h : DO X C W e fo) (hs : swapsWith e (some (.Name x p')) pos.line X.env = pure false := by rfl) : DS X C W (.Assign [.Name x p'] e pos) (sSetO i fo) :=
  ps_imp (ps_set n.nd n.ix n.lo h hs n.fn) fun E σ H ⟨F, s, r, q⟩ => ⟨F, s, r, (post_of q).mono fun d s1 H1 F1 r1 u1 q1 a h1 h2 h3 h4 => q1 _ _ _ (r1.putO h1 h2 h3 h4) (Sub.refl _)⟩
/-! ### a slot's thing changed -/
/-- the thing at a slot that may be changed -/
def S.cell (s : S) (i : Nat) : Option Cell := match s.sl[i]? with
  | some (.own c) => some c
  | some (.io j) => s.io[j]?
  | _ => none
def S.setCell (s : S) (i : Nat) (c : Cell) : S := match s.sl[i]? with
  | some (.io j) => { s with io := s.io.set j c }
  | _ => s.put i (.own c)
theorem Rel.cell (r : Rel C σ H F s) {i : Nat} {c : Cell} (h : s.cell i = some c) : ∃ a, σ[i]? = some (some (.ref a)) ∧ F a = none ∧ CellAt C.K F H a c ∧
    ∀ (o : HO) (c' : Cell), (∀ F', Sub F F' → CellAt C.K F (upd H a o) a c') → Rel C σ (upd H a o) F (s.setCell i c') := by
  unfold S.cell at h
  cases h1 : s.sl[i]? with
  | none => rw [h1] at h; cases h
  | some x =>
    rw [h1] at h
    have fin : ∀ {a : Addr} {o : HO} {c' : Cell} {s' : S}, F a = none → (C.H0 a = none ∨ a ∈ C.A) → s'.sl.length = s.sl.length → s'.io.length = s.io.length →
        (∀ (j : Nat) (y : Sl), s'.sl[j]? = some y → SlotOk C F (upd H a o) σ[j]? y) → (∀ (j : Nat) (b : Addr) (c : Cell), C.A[j]? = some b → s'.io[j]? = some c → CellAt C.K F (upd H a o) b c) →
        (∀ (j : Nat) (b : Addr), OwnAt σ s'.sl j b → OwnAt σ s.sl j b) → (∀ ps, H a ≠ some (.tbl ps)) → Rel C σ (upd H a o) F s' := fun {a o c' s'} hF hA hl hio hsl hio2 hap hnt =>
      ⟨fun b u e => by rw [upd_ne (ne_of_none e hF)]; exact r.sub _ _ e, fun b u e m => by
          rw [upd_ne fun z => ?_]
          · exact r.keep b u e m
          · subst z
            rcases hA with z | z
            · rw [z] at e; cases e
            · exact m z, r.f0, by rw [hl]; exact r.len, hsl, by rw [hio]; exact r.iol, fun j b c e1 e2 => ⟨by
            have hj : j < s.io.length := by rw [← hio]; exact (List.getElem?_eq_some_iff.mp e2).1
            exact (r.io j b s.io[j] e1 (List.getElem?_eq_getElem hj)).1, hio2 j b c e1 e2⟩, fun j k b e1 e2 => r.ap j k b (hap _ _ e1) (hap _ _ e2), r.inn, r.nd, r.s0, r.tabs.upd hnt⟩
    have oth : ∀ {b a : Addr} {o : HO} {c : Cell}, CellAt C.K F H b c → b ≠ a → CellAt C.K F (upd H a o) b c := fun {b a o c} h ne => h.up (Sub.refl _) fun u e => by rw [upd_ne ne]; exact e
    cases x with
    | own c0 =>
      cases h
      obtain ⟨a, e1, e2, e3, e4⟩ := r.slot i _ h1
      refine ⟨a, e1, e2, e4, fun o c' hc' => ?_⟩
      have hs : s.setCell i c' = s.put i (.own c') := by unfold S.setCell; rw [h1]
      rw [hs]
      refine fin (c' := c') e2 (.inl e3) (by show (s.sl.set i _).length = _; rw [List.length_set]) rfl (fun j y e => ?_) (fun j b c e5 e6 => ?_) (fun j b ⟨z1, c1, z2⟩ => ?_) e4.nt
      · rcases set_get (show (s.sl.set i (.own c'))[j]? = some y from e) with ⟨rfl, rfl, hl⟩ | ⟨hj, e⟩
        · exact ⟨a, e1, e2, e3, hc' F (Sub.refl _)⟩
        · have z := r.slot j y e
          cases y with
          | no => trivial
          | val d => exact z
          | own c1 =>
            obtain ⟨b, y1, y2, y3, y4⟩ := z
            exact ⟨b, y1, y2, y3, oth y4 fun w => hj (by subst w; exact r.ap j i b ⟨y1, c1, e⟩ ⟨e1, c, h1⟩)⟩
          | io k => exact z
      · refine oth (r.io j b c e5 e6).2 fun w => ?_
        subst w
        exact r.inn b (List.mem_of_getElem? e5) e3
      · rcases set_get (show (s.sl.set i (.own c'))[j]? = some (.own c1) from z2) with ⟨rfl, _, _⟩ | ⟨hj, e⟩
        · exact ⟨z1, c, h1⟩
        · exact ⟨z1, c1, e⟩
    | io k =>
      have h : s.io[k]? = some c := h
      obtain ⟨a, e1, e2⟩ := r.slot i _ h1
      have e4 := r.io k a c e2 h
      refine ⟨a, e1, r.ioF e2 h, e4.2, fun o c' hc' => ?_⟩
      have hs : s.setCell i c' = { s with io := s.io.set k c' } := by unfold S.setCell; rw [h1]
      rw [hs]
      refine fin (c' := c') (r.ioF e2 h) (.inr (List.mem_of_getElem? e2)) rfl (by show (s.io.set k c').length = _; rw [List.length_set]) (fun j y e => ?_) (fun j b c1 e5 e6 => ?_) (fun j b z => z) e4.2.nt
      · have z := r.slot j y e
        cases y with
        | no => trivial
        | val d => exact z
        | own c1 =>
          obtain ⟨b, y1, y2, y3, y4⟩ := z
          exact ⟨b, y1, y2, y3, oth y4 fun w => by subst w; exact r.inn b (List.mem_of_getElem? e2) y3⟩
        | io k => exact z
      · rcases set_get (show (s.io.set k c')[j]? = some c1 from e6) with ⟨rfl, rfl, hl⟩ | ⟨hj, e6⟩
        · rw [e2] at e5
          cases e5
          exact hc' F (Sub.refl _)
        · refine oth (r.io j b c1 e5 e6).2 fun w => ?_
          subst w
          exact hj ((List.getElem?_inj (List.getElem?_eq_some_iff.mp e5).1 r.nd).mp (e5.trans e2.symm))
    | _ => cases h
def lstOf : Cell → Option (List D)
  | .lst ds => some ds
  | _ => none
/-- x.append(e) -/
def sApp (i : Nat) (f : M D) : S → Out := sOf (mbind (mhas i) fun _ => mbind (fun s => mopt ((s.cell i).bind lstOf) s) fun _ => f) fun d s => match (s.cell i).bind lstOf with
  | some ds => if ds.length < LN then .nx (s.setCell i (.lst (ds ++ [d]))) else .bad
  | none => .bad
theorem ds_app {i : Nat} {cpos : Pos} {o : Expr} (hK : C.K = X.K) (ho : PE X o (tVar i)) (ha : DE X C W e fa)
    (hbase : attributeBase o "append" X.env (eval o X.env) = eval o X.env := by rfl)
    (hfew : ((backTo cpos (starEach [e] X.env)).all (fun x => !x.1) && (backToKw cpos (keywordEach [] X.env)).all (fun x => x.1.isSome)
      && decide ([e].length + ([] : List Keyword).length + (if ([] : List Keyword).isEmpty then 0 else 1) < 30)) = true := by rfl)
    (hline : (apos.endLine == cpos.line) = true := by rfl) (hs : starEach [e] X.env = (false, eval e X.env) :: starEach [] X.env := by rfl) (hplain : (backTo cpos (starEach [] X.env)).any (·.1) = false := by rfl)
    (hsw : swapsWith (.Call (.Attribute o "append" apos) [e] [] cpos) none pos.line X.env = pure false := by rfl) :
    DS X C W (.Expr (.Call (.Attribute o "append" apos) [e] [] cpos) pos) (sApp i fa) := by
  refine ps_imp (ps_expr (pe_bm PySem.F.plainAttrs_list PySem.F.slot_list_append PySem.F.type_list_append mt_append ho (pa_cons ha pa_nil hs) hbase hfew hline hs hplain) hsw) fun E σ H ⟨F, s, r, q⟩ => ?_
  have q1 := Post.bind (post_of (σ := σ) (F := F) q)
  unfold mhas at q1
  cases h0 : peekD s i with
  | none => rw [h0] at q1; exact q1.elim
  | some d0 =>
    rw [h0] at q1
    have q2 := Post.bind (q1 H F r (Sub.refl _))
    cases h1 : (s.cell i).bind lstOf with
    | none =>
      have q2 : Post C W σ F (mopt ((s.cell i).bind lstOf) s) _ := q2
      rw [h1] at q2
      exact q2.elim
    | some ds0 =>
      have q2 : Post C W σ F (mopt ((s.cell i).bind lstOf) s) fun a s1 _ F1 => Post C W σ F1 (fa s1) fun d s' _ F2 => PostS C W F2 (match (s'.cell i).bind lstOf with
        | some ds => if ds.length < LN then .nx (s'.setCell i (.lst (ds ++ [d]))) else .bad
        | none => .bad) E.nx E.rt E.bk E.ct := q2
      rw [h1] at q2
      have q3 := q2 H F r (Sub.refl _)
      obtain ⟨c0, e0, l0⟩ := Option.bind_eq_some_iff.mp h1
      obtain ⟨a, e1, hF, e2, _⟩ := r.cell e0
      refine ⟨.ref a, e1, ?_, ?_⟩
      · cases c0 with
        | lst ds => obtain ⟨xs, z1, z2⟩ := e2; exact .inl ⟨rfl, xs, .inl (.inl z1)⟩
        | _ => cases l0
      · refine ⟨F, s, r, q3.mono fun d s1 H1 F1 r1 u1 q4 v iv => ?_⟩
        cases h2 : (s1.cell i).bind lstOf with
        | none => rw [h2] at q4; exact q4.elim
        | some ds =>
          rw [h2] at q4
          obtain ⟨c1, e3, l1⟩ := Option.bind_eq_some_iff.mp h2
          obtain ⟨a', e4, hF', e5, rr⟩ := r1.cell e3
          rw [e1] at e4
          cases e4
          cases c1 with
          | lst ds1 =>
            cases l1
            obtain ⟨xs, z1, z2⟩ := e5
            by_cases hl : ds.length < LN
            · have q4 : PostS C W F1 (if ds.length < LN then .nx (s1.setCell i (.lst (ds ++ [d]))) else .bad) E.nx E.rt E.bk E.ct := q4
              rw [if_pos hl] at q4
              exact ⟨a, xs, v, rfl, rfl, z1, by rw [z2.len]; exact ln_lt hl, q4 _ _ _ (rr (.lst (xs ++ [v])) (.lst (ds ++ [d])) fun F' u => ⟨xs ++ [v], upd_same, z2.app (.cons iv .nil)⟩) (Sub.refl _)⟩
            · have q4 : PostS C W F1 (if ds.length < LN then .nx (s1.setCell i (.lst (ds ++ [d]))) else .bad) E.nx E.rt E.bk E.ct := q4
              rw [if_neg hl] at q4
              exact q4.elim
          | _ => cases l1
end
end DL
set_option maxHeartbeats 2000000
/-! DL9: what is walked: lists, tuples, texts by value; enumerate of lists and tuples. -/
namespace PySem
open Sem (wp)
theorem dl_meets_enum {v : Value} {o : Obj} {H : Heap → Prop} (B : Begins v o H) :
    Meets (Builtin.«enumerate.__new__» ⟨[.type "enumerate", v], []⟩) (fun _ R s => H s.heap ∧
      R (.ok (.ret (.ref (s.heap.push o).objs.size))) { s with heap := (s.heap.push o).push { cls := .type "enumerate", data := .fields #[.none, .bool false, .ref s.heap.objs.size, rawInt 0, .none, .none] } }) :=
  .of_wp fun prog w A R s h => by
    obtain ⟨hp, g, d, tk, os⟩ := s; obtain ⟨h1, h⟩ := h
    have hsub := sub_enumerate
    have q1 : ∀ {A' : Around} {E : Value → Shared → Prop} {Q : Value → Shared → Prop}, Q (.ref hp.objs.size) ⟨hp.push o, g, d, tk, os⟩ → wpAny (model prog w) A' (pyIter v) Q E ⟨hp, g, d, tk, os⟩ :=
      fun q => B.iter prog w _ _ ⟨hp, g, d, tk, os⟩ _ h1 q
    wp_walk using q1
    refine wpAny_stack_any fun st => wpAny_pure ?_
    split
    · rename_i c _ _ _ _ _
      cases (c == Value.type "enumerate")
      · wp_walk using q1
        exact ⟨_, rfl, h⟩
      · wp_walk using q1
        exact ⟨_, rfl, h⟩
    · wp_walk using q1
      exact ⟨_, rfl, h⟩
section
variable {prog : Program} {w : World} {A : Around} {E : Value → Shared → Prop} {s : Shared}
theorem dl_enum_begins {v : Value} {o : Obj} {H : Heap → Prop} {Q : Value → Shared → Prop} (B : Begins v o H) (h1 : H s.heap) (hck : checkTypeCall "enumerate" ⟨[v], []⟩ = pure () := by kernel_rfl) (hck2 : checkBuiltinCall "enumerate.__new__" ⟨[.type "enumerate", v], []⟩ = pure () := by kernel_rfl)
    (h : ∀ h', IsEnum h' (s.heap.objs.size + 1) s.heap.objs.size 0 .none → h'.get? s.heap.objs.size = some o → h'.objs.size = s.heap.objs.size + 2 →
      (∀ b o, s.heap.get? b = some o → h'.get? b = some o) → Q (.ref (s.heap.objs.size + 1)) { s with heap := h' }) :
    wpAny (model prog w) A (call (.type "enumerate") [v]) Q E s := by
  refine callType_new F.called_enumerate (by decide) hck hck2 (fun obj => F.args_object_init_2 obj _) F.entry_enumerate_new
    (dl_meets_enum B) ⟨h1, ?_⟩
  have hz : (s.heap.push o).objs.size = s.heap.objs.size + 1 := Heap.size_push ..
  show _ ∧ _
  rw [hz]
  have he : IsEnum ((s.heap.push o).push { cls := .type "enumerate", data := .fields #[.none, .bool false, .ref s.heap.objs.size, rawInt 0, .none, .none] }) (s.heap.objs.size + 1) s.heap.objs.size 0 .none := by
    have := Heap.get?_push_size (s.heap.push o) (o := { cls := .type "enumerate", data := .fields #[.none, .bool false, .ref s.heap.objs.size, rawInt 0, .none, .none] }) rfl
    rw [hz] at this; exact this
  refine ⟨⟨_, he, rfl⟩, h _ he (Heap.get?_push_of_some _ (Heap.get?_push_size _ B.free)) (by rw [Heap.size_push, hz]) fun b o x => Heap.get?_push_of_some _ (Heap.get?_push_of_some _ x)⟩
end
end PySem
namespace DL
open PySem PySem.Spec PyProof.Rows L2
/-- enumerate(tuple) -/
def IteT (K : PySem.W.Frag) (a : Addr) : It :=
  ⟨fun i H => ∃ (xs : List V) (x : V), SqT K H a xs ∧ xs[i]? = some x, fun i H v H' => ∃ T x, v = .ref T ∧ H T = none ∧ H' = upd H T (.tup [.int (i : Nat), x]) ∧ ∀ xs, SqT K H a xs → xs[i]? = some x, fun i H => ∃ xs : List V, SqT K H a xs ∧ xs.length ≤ i⟩
theorem turn_enumT {P : Program} {w : World} {K : PySem.W.Frag} {elts : List Expr} {kk : Nat} {tpos : Pos} (a e it : Addr) (hae : a ≠ it) (hea : e ≠ a) :
    Turn P w K (.Tuple elts kk tpos) (IteT K a) [e, it] e (fun i h => (∃ old, IsEnum h e it ((i : Nat) : Int) old) ∧ h.IsTupleIter it a i ∧ e ≠ it) where
  mem := by simp
  obj := fun i h st b hb => by
    obtain ⟨⟨old, he⟩, ⟨o, ho, hc, hd⟩, _⟩ := st
    have e' : b = e ∨ b = it := by simpa using hb
    rcases e' with z | z
    · rw [z]; exact ⟨_, he, fun v q => nomatch q⟩
    · rw [z]; exact ⟨o, ho, fun v q => by rw [hd] at q; cases q⟩
  keep := fun i h h' st k => let ⟨⟨old, he⟩, hi, hne⟩ := st; ⟨⟨old, k e (by simp) _ he⟩, hi.at fun o q => k it (by simp) o q, hne⟩
  item := by
    intro X hP hw hK hc i pins s σ H E I hf st hg
    subst hP hw hK
    obtain ⟨⟨old, he⟩, hit, hne⟩ := st
    obtain ⟨xs, x, hq, hx⟩ := hg
    obtain ⟨its, rv, p, hz⟩ := I.tuple hq
    obtain ⟨u, hu, ru⟩ := rv.get hx
    have hel : e < s.heap.objs.size := Heap.lt_size he
    have hil : it < s.heap.objs.size := by obtain ⟨_, q, _⟩ := hit; exact Heap.lt_size q
    have pt : s.heap.IsTuple a its.toArray := p
    have hlt : i < its.toArray.size := by
      have := (List.getElem?_eq_some_iff.mp hu).1
      simpa using this
    refine wpAny_pyNext_enum_itemD (Draws.tuple (A := X.A.in1) (I.ok.hd hc) it a hae its.toArray) he ⟨hit, pt⟩ hlt hne (by
      intro m
      have : e = it ∨ e = a := by simpa using m
      rcases this with z | z
      · exact hne z
      · exact hea z) fun u' h' tk hu' ho hit' hT hsz hk => ?_
    have : u' = u := by
      have h1 : its[i]? = some u' := by simpa using hu'
      rw [hu] at h1; cases h1; rfl
    subst this
    refine ⟨_, rfl, wpAny_letOwnedTupleGo_enum (s := { s with heap := h', toks := tk + 1 }) ho fun h'' he' sb => ?_⟩
    have hT2 : h''.get? s.heap.objs.size = some { cls := .type "tuple", data := .seq #[.int i tk, u'] } := (sb.2 _ (Nat.ne_of_gt hel)).trans hT
    have new : ObjOk X.prog X.w (upd H s.heap.objs.size (.tup [.int (i : Nat), x])) h'' s.heap.objs.size (.tup [.int (i : Nat), x]) :=
      ⟨by show 2 ≤ sizeLine; decide, [.int i tk, u'], .cons ⟨_, rfl⟩ (.cons ru .nil), ⟨_, hT2, rfl, _, rfl⟩⟩
    have I1 : Inv X pins σ (upd H s.heap.objs.size (.tup [.int (i : Nat), x])) { s with heap := h'', toks := tk + 1 } :=
      I.turnedNew (ch := [e, it]) (fun b ob hb q => (sb.2 b (fun z => hb (by simp [z]))).trans (hk b ob (fun z => hb (by simp [z])) (fun z => hb (by simp [z])) q)) hf (Nat.le_refl _) new
    refine ⟨.ref s.heap.objs.size, _, I1, rfl, ⟨_, x, rfl, I.hok.fresh (Nat.le_refl _), rfl, fun ys hy => by rw [I.tuple_inj hy hq]; exact hx⟩, ⟨⟨u', ?_⟩, hit'.1.at fun o q => (sb.2 it (Ne.symm hne)).trans q, hne⟩, fun b hb => ?_⟩
    · have e1 : ((i + 1 : Nat) : Int) = (i : Int) + 1 := by omega
      rw [e1]; exact he'
    · have hb' : b < s.heap.objs.size := by
        have e' : b = e ∨ b = it := by simpa using hb
        rcases e' with z | z
        · rw [z]; exact hel
        · rw [z]; exact hil
      rw [upd_ne (Nat.ne_of_lt hb')]
      exact (hf b hb).1
  done := by
    intro X hP hw hK hc i pins s σ H E I hf st hg
    subst hP hw hK
    obtain ⟨⟨old, he⟩, hit, hne⟩ := st
    obtain ⟨xs, hq, hx⟩ := hg
    obtain ⟨its, rv, p, hz⟩ := I.tuple hq
    obtain ⟨f0, f1, f2, f3, f4, f5⟩ := hf it (by simp)
    have pt : s.heap.IsTuple a its.toArray := p
    have hl := rv.length
    have hT : s.TypeIs (.ref e) "enumerate" := ⟨_, he, rfl⟩
    unfold pyNext
    refine wpAny_bind (wpAny_attempt (wpAny_callSpecial?_slot (name := Str.ofString "__next__") hT F.slot_enumerate_next
      (wpAny_call_entry F.slot_enumerate_next hT F.entry_enumerate_next ?_ (F.args_enumerate_next_1 _))))
    show wpAny _ _ (field (.ref e) 2 >>= _) _ _ _
    refine wpAny_bind (wpAny_field he rfl (x := .ref it) rfl ?_)
    refine wpAny_bind (wpAny_nextOf_tuple_end (A := X.A.in1) (I.ok.hd hc) hit pt (by simp; omega) fun h' x he' hx' => ?_)
    obtain ⟨o, ho, hcc⟩ := hx'
    refine wpAny_bind (wpAny_isInstance (T := "StopIteration") (b := true) ⟨o, ho, hcc⟩ isSubtype_stop ?_)
    exact wpAny_pure ⟨rfl, I.turned (t' := s.toks) (fun b o hb q => he' b o hb q) f0 f1 f3 f4 f5⟩
  self := fun A i s Q E st h => let ⟨⟨_, he⟩, _⟩ := st; wpAny_pyIter_enum he h
theorem walk_enumT {K : PySem.W.Frag} {a : Addr} {xs : List V} : Walk (IteT K a) xs.length (fun H => SqT K H a xs) (YPair (fun i => some (.int (i : Nat))) (fun i => xs[i]?)) := by
  refine ⟨fun i _ hi q => ⟨xs, xs[i], q, by simp [hi]⟩, fun _ q => ⟨xs, q, Nat.le_refl _⟩, fun i H v H' _ q y => ?_⟩
  obtain ⟨T, x, h1, h2, h3, h4⟩ := y
  exact ⟨T, .int (i : Nat), x, h1, h2, h3, rfl, h4 xs q⟩
def iEnumA (K : PySem.W.Frag) (ta : TA) : TI := fun σ H R => ta σ H fun vs H1 => ∃ a xs, vs = [.ref a] ∧ ((SqL K H1 a xs ∧ R (Ite K a) H1) ∨ (SqT K H1 a xs ∧ R (IteT K a) H1))
theorem pi_enumA {X : Cx} {e : Expr} {ta : TA} {p pos tpos : Pos} {elts : List Expr} {kk : Nat} (hg : Gl X "enumerate") (hm : X.mg "enumerate" = none) (ha : PA X [e] ta) (hs : starEach [e] X.env = [(false, eval e X.env)] := by rfl) :
    PI X (.Tuple elts kk tpos) (.Call (.Name "enumerate" p) [e] [] pos) (iEnumA X.K ta) := by
  refine ⟨fun pins s σ H R I h => ?_⟩
  refine Call_ (ld_blt I hg hm boot_enumerate (PyProof.Rows.callWith_type1 (thn (ha.run pos pins s σ H _ I h) fun us s1 ⟨vs, H1, I1, r1, q1⟩ => ?_) hs rfl))
  obtain ⟨a, xs, ex, q1⟩ := q1
  subst ex
  cases r1 with
  | cons r rr =>
    cases rr
    cases r
    have fp2 : ∀ b, b ∈ [s1.heap.objs.size + 1, s1.heap.objs.size] → FpOk X pins H1 b := fun b hb => by
      have e' : b = s1.heap.objs.size + 1 ∨ b = s1.heap.objs.size := by simpa using hb
      have hle : s1.heap.objs.size ≤ b := by
        rcases e' with z | z
        · rw [z]; exact Nat.le_add_right _ _
        · rw [z]; exact Nat.le_refl _
      exact I1.fpOk hle (I1.hok.fresh hle)
    rcases q1 with ⟨hq, q⟩ | ⟨hq, q⟩
    · obtain ⟨its, rv, p', hz⟩ := I1.list hq
      refine call_enumerate_list p'.isList fun h' he hit hsz hk => wpAny_pyIter_enum he ?_
      have I2 : Inv X pins σ H1 { s1 with heap := h' } := I1.kept (t' := s1.toks) hk
      exact ⟨s1.heap.objs.size + 1, [s1.heap.objs.size + 1, s1.heap.objs.size], _, _, H1, rfl, I2, turn_enum a (s1.heap.objs.size + 1) s1.heap.objs.size, ⟨⟨.none, he⟩, hit, Nat.succ_ne_self _⟩, fp2, q⟩
    · obtain ⟨its, rv, p', hz⟩ := I1.tuple hq
      have pt : s1.heap.IsTuple a its.toArray := p'
      have hal : a < s1.heap.objs.size := by obtain ⟨_, q, _⟩ := pt; exact Heap.lt_size q
      refine dl_enum_begins (begins_tuple a its.toArray) pt (h := fun h' he hit hsz hk => wpAny_pyIter_enum he ?_)
      have I2 : Inv X pins σ H1 { s1 with heap := h' } := I1.kept (t' := s1.toks) hk
      exact ⟨s1.heap.objs.size + 1, [s1.heap.objs.size + 1, s1.heap.objs.size], _, _, H1, rfl, I2, turn_enumT a (s1.heap.objs.size + 1) s1.heap.objs.size (Nat.ne_of_lt hal) (Nat.ne_of_gt (Nat.lt_succ_of_lt hal)), ⟨⟨.none, he⟩, ⟨_, hit, rfl, rfl⟩, Nat.succ_ne_self _⟩, fp2, q⟩
/-- a list, a tuple or a text, walked -/
def iSeq (K : PySem.W.Frag) (tl : TE) : TI := fun σ H R => tl σ H fun x H1 => (∃ a xs, x = .ref a ∧ SqL K H1 a xs ∧ R (Itl K a) H1) ∨ (∃ a xs, x = .ref a ∧ SqT K H1 a xs ∧ R (Itt K a) H1) ∨ (∃ z, x = .str z ∧ R (Its z) H1)
theorem pi_seq {X : Cx} {tg l : Expr} {tl : TE} (hl : PE X l tl) : PI X tg l (iSeq X.K tl) := by
  refine ⟨fun pins s σ H R I h => ?_⟩
  refine thn (hl.run pins s σ H _ I h) fun v s1 ⟨x, H1, I1, r1, q1⟩ => ?_
  have fp1 : ∀ b, b ∈ [s1.heap.objs.size] → FpOk X pins H1 b := fun b hb => by
    have e : b = s1.heap.objs.size := by simpa using hb
    subst e
    exact I1.fpOk (Nat.le_refl _) (I1.hok.fresh (Nat.le_refl _))
  rcases q1 with ⟨a, xs, e, hq, q⟩ | ⟨a, xs, e, hq, q⟩ | ⟨z, e, q⟩
  · subst e
    cases r1
    obtain ⟨its, rv, p, hz⟩ := I1.list hq
    refine wpAny_pyIter_list p.isList ?_
    exact ⟨s1.heap.objs.size, [s1.heap.objs.size], _, _, H1, rfl, I1.kept (t' := s1.toks) fun b o e => Heap.get?_push_of_some _ e, turn_list a _, ⟨_, Heap.get?_push_size _ rfl, rfl, rfl⟩, fp1, q⟩
  · subst e
    cases r1
    obtain ⟨its, rv, p, hz⟩ := I1.tuple hq
    refine wpAny_pyIter_tuple (show s1.heap.IsTuple a its.toArray from p) ?_
    exact ⟨s1.heap.objs.size, [s1.heap.objs.size], _, _, H1, rfl, I1.kept (t' := s1.toks) fun b o e => Heap.get?_push_of_some _ e, turn_tuple a _, ⟨_, Heap.get?_push_size _ rfl, rfl, rfl⟩, fp1, q⟩
  · subst e
    obtain ⟨t, rfl⟩ := r1
    cases ha : z.cps.all (· < 128)
    · exact wpAny_pyIter_wide ha (pi_one (tk := s1.toks) I1 _ (turn_str _ z t "str_iterator" (.inr rfl)) ⟨_, Heap.get?_push_size _ rfl, rfl, rfl⟩ q)
    · exact wpAny_pyIter_ascii ha (pi_one (tk := s1.toks) I1 _ (turn_str _ z t "str_ascii_iterator" (.inl rfl)) ⟨_, Heap.get?_push_size _ rfl, rfl, rfl⟩ q)
end DL
set_option maxHeartbeats 2000000
/-! DL10: targets, loops, list comprehensions. -/
namespace DL
open PySem PySem.Spec PyProof.Rows L2
/-! ### targets -/
mutual
inductive Pat where
  | nm (i : Nat) | tp (ps : Pats) | ix (i : Nat) (k : Int) | tl (ps : Pats)
inductive Pats where
  | nil | cons (p : Pat) (ps : Pats)
end
mutual
def Pat.bind : Pat → D → S → Option S
  | .nm i, d, s => some (s.put i (.val d))
  | .tp ps, .tup ds, s => ps.bind ds s
  | .tp _, _, _ => none
  | .ix i k, d, s => match s.cell i with
    | some (.lst ds) => (ixN ds.length k).map fun j => s.setCell i (.lst (ds.set j d))
    | _ => none
  | .tl ps, .lst ds, s => ps.bind ds s
  | .tl _, _, _ => none
def Pats.bind : Pats → List D → S → Option S
  | .nil, [], s => some s
  | .cons p ps, d :: ds, s => (p.bind d s).bind fun s1 => ps.bind ds s1
  | _, _, _ => none
end
def Pats.len : Pats → Nat
  | .nil => 0
  | .cons _ ps => ps.len + 1
mutual
def Pat.g (K : PySem.W.Frag) : Pat → TG
  | .nm i => gName i
  | .tp ps => gTup K ps.len (Pats.gs K ps)
  | .ix i k => gSub (tVar i) (tC (.int k)) rSetL
  | .tl ps => gLst K ps.len (Pats.gs K ps)
def Pats.gs (K : PySem.W.Frag) : Pats → TGs
  | .nil => gNil
  | .cons p ps => gCons (p.g K) (Pats.gs K ps)
end
mutual
def Pat.inn : Pat → List Nat → Bool
  | .nm i, vs => vs.contains i
  | .tp ps, vs => ps.inn vs
  | .ix _ _, _ => true
  | .tl ps, vs => ps.inn vs
def Pats.inn : Pats → List Nat → Bool
  | .nil, _ => true
  | .cons p ps, vs => p.inn vs && ps.inn vs
end
theorem wipe_get (σ : L2.St) : ∀ (vs : List Nat) (j : Nat), j ∈ vs → (wipe σ vs)[j]? = if j < σ.length then some none else none
  | [], j, h => by simp at h
  | v :: vs, j, h => by
    unfold wipe
    by_cases e : v = j
    · subst e
      by_cases hl : v < σ.length
      · rw [List.getElem?_set_self (by rw [wipe_length]; exact hl), if_pos hl]
      · rw [List.getElem?_eq_none (by rw [List.length_set, wipe_length]; omega), if_neg hl]
    · rw [List.getElem?_set_ne e]
      refine wipe_get σ vs j ?_
      rcases List.mem_cons.mp h with z | z
      · exact absurd z.symm e
      · exact z
theorem wipe_set {σ : L2.St} {i : Nat} {o : Option V} {vs : List Nat} (h : i ∈ vs) : wipe (σ.set i o) vs = wipe σ vs := by
  refine List.ext_getElem? fun j => ?_
  by_cases m : j ∈ vs
  · rw [wipe_get _ _ _ m, wipe_get _ _ _ m, List.length_set]
  · rw [wipe_out m, wipe_out m, List.getElem?_set_ne]
    intro z
    subst z
    exact m h
section
variable {C : Ct} {W : WX} {X : Cx} {σ : L2.St} {H F : Hp} {s : S} {fa fb fc : M D} {a b c e : Expr} {es : List Expr} {fs : M (List D)} {pos p apos : Pos} {K : PySem.W.Frag} {x : Str} {st : Stmt} {body : List Stmt} {f : S → Out} {tg iter : Expr} {fi : M (List D)}
theorem Pats.bindLen : ∀ (p : Pats) {ds : List D} {s s' : S}, p.bind ds s = some s' → ds.length = p.len
  | .nil, [], _, _, _ => rfl
  | .nil, _ :: _, _, _, e => by unfold Pats.bind at e; cases e
  | .cons p ps, [], _, _, e => by unfold Pats.bind at e; cases e
  | .cons p ps, d :: ds, s, s', e => by
    unfold Pats.bind at e
    obtain ⟨s1, _, e2⟩ := Option.bind_eq_some_iff.mp e
    show ds.length + 1 = ps.len + 1
    rw [Pats.bindLen ps e2]
mutual
theorem Pat.ok : ∀ (p : Pat) {v : V} {d : D} {σ : L2.St} {H : Hp} {s s' : S}, Rel C σ H F s → Is C.K F v d → p.bind d s = some s' → ∀ {Q : L2.St → Hp → Prop}, (∀ σ' H', Rel C σ' H' F s' → (∀ vs, p.inn vs = true → wipe σ' vs = wipe σ vs) → Q σ' H') → p.g C.K v σ H Q
  | .nm i, v, d, σ, H, s, s', r, iv, e, Q, q => by
    unfold Pat.bind at e
    cases e
    exact q _ _ (r.putV iv) fun vs h => wipe_set (by unfold Pat.inn at h; simpa using h)
  | .ix i k, v, d, σ, H, s, s', r, iv, e, Q, q => by
    unfold Pat.bind at e
    split at e
    · rename_i ds hc
      obtain ⟨j, hj, rfl⟩ := Option.map_eq_some_iff.mp e
      obtain ⟨a, e1, _, ⟨xs, h1, h2⟩, rr⟩ := r.cell hc
      unfold Pat.g
      exact ⟨.ref a, e1, a, xs, k, j, rfl, rfl, h1, by rw [h2.len]; exact hj, q σ _ (rr _ _ fun F' u => ⟨_, upd_same, h2.set j iv⟩) fun _ _ => rfl⟩
    · cases e
  | .tp ps, v, d, σ, H, s, s', r, iv, e, Q, q => by
    unfold Pat.bind at e
    cases iv with
    | tup h1 h2 =>
      rename_i a xs ds
      unfold Pat.g
      exact ⟨a, xs, rfl, r.sub.t h1, by rw [h2.len, Pats.bindLen ps e], Pats.ok ps r h2 e fun σ' H' r' hw => q σ' H' r' fun vs h => hw vs (by unfold Pat.inn at h; exact h)⟩
    | _ => cases e
  | .tl ps, v, d, σ, H, s, s', r, iv, e, Q, q => by
    unfold Pat.bind at e
    cases iv with
    | lst h1 h2 =>
      rename_i a xs ds
      unfold Pat.g
      exact ⟨a, xs, rfl, .inl (r.sub.rd h1), by rw [h2.len, Pats.bindLen ps e], Pats.ok ps r h2 e fun σ' H' r' hw => q σ' H' r' fun vs h => hw vs (by unfold Pat.inn at h; exact h)⟩
    | _ => cases e
theorem Pats.ok : ∀ (p : Pats) {vs : List V} {ds : List D} {σ : L2.St} {H : Hp} {s s' : S}, Rel C σ H F s → IsAll C.K F vs ds → p.bind ds s = some s' → ∀ {Q : L2.St → Hp → Prop}, (∀ σ' H', Rel C σ' H' F s' → (∀ vs, p.inn vs = true → wipe σ' vs = wipe σ vs) → Q σ' H') → p.gs C.K vs σ H Q
  | .nil, vs, ds, σ, H, s, s', r, iv, e, Q, q => by
    unfold Pats.bind at e
    cases iv with
    | nil => cases e; unfold Pats.gs; exact ⟨rfl, q σ H r fun _ _ => rfl⟩
    | cons _ _ => cases e
  | .cons p ps, vs, ds, σ, H, s, s', r, iv, e, Q, q => by
    unfold Pats.bind at e
    cases iv with
    | nil => cases e
    | cons h1 h2 =>
      rename_i v vs d ds
      obtain ⟨s1, e1, e2⟩ := Option.bind_eq_some_iff.mp e
      unfold Pats.gs
      refine ⟨v, vs, rfl, Pat.ok p r h1 e1 fun σ1 H1 r1 hw1 => Pats.ok ps r1 h2 e2 fun σ' H' r' hw => q σ' H' r' fun ws h => ?_⟩
      unfold Pats.inn at h
      rw [Bool.and_eq_true] at h
      rw [hw ws h.2, hw1 ws h.1]
end
/-! ### what is walked -/
variable (C W) in
/-- an iterable's items -/
def tI (fi : M (List D)) : TI := fun σ H R => ∃ F s, Rel C σ H F s ∧ Post C W σ F (fi s) fun ds s' H' F' =>
  ∀ (J : It) (G : Hp → Prop) (Y : Nat → Hp → V → Hp → Prop), Walk J ds.length G Y → (∀ H2 F2, Sub F' F2 → Sub F2 H2 → G H2) →
    (∀ i H2 F2 x H3, Sub F' F2 → Sub F2 H2 → i < ds.length → Y i H2 x H3 → ∃ F3 d, Ext H2 F2 H3 F3 ∧ ds[i]? = some d ∧ Is C.K F3 x d) → R J H'
abbrev DI (X : Cx) (C : Ct) (W : WX) (tg e : Expr) (f : M (List D)) : Prop := PI X tg e (tI C W f)
theorem pi_imp {X : Cx} {tg e : Expr} {t u : TI} (h : PI X tg e t) (i : ∀ σ H R, u σ H R → t σ H R) : PI X tg e u := ⟨fun pins s σ H R I q => h.run pins s σ H R I (i _ _ _ q)⟩
def sgnD (z : Str) : List D := z.cps.toList.map fun c => .str ⟨#[c]⟩
def walkD : D → Option (List D)
  | .lst ds => some ds
  | .tup ds => some ds
  | .str z => some (sgnD z)
  | _ => none
def iOf (f : M D) : M (List D) := mbind f fun d => mopt (walkD d)
theorem post_mopt {α : Type} {o : Option α} {P : α → S → Hp → Hp → Prop} (q : Post C W σ F (mopt o s) P) (r : Rel C σ H F s) : ∃ a, o = some a ∧ ∀ H' F', Ext H F H' F' → P a s H' F' := by
  cases o with
  | none => exact q.elim
  | some a => exact ⟨a, rfl, fun H' F' e => q H' F' (r.ext e) e.f⟩
theorem di_of (hK : C.K = X.K) (h : DE X C W e fa) : DI X C W tg e (iOf fa) := by
  refine pi_imp (pi_seq h) fun σ H R ⟨F, s, r, q⟩ => ⟨F, s, r, (Post.bind q).mono fun d s1 H1 F1 r1 u1 q1 v iv => ?_⟩
  obtain ⟨ds, e1, q2⟩ := post_mopt q1 r1
  have q3 := q2 H1 F1 (Ext.refl r1.sub)
  rw [hK] at iv q3
  cases iv with
  | lst h1 h2 =>
    rename_i a xs _
    cases e1
    refine .inl ⟨a, xs, rfl, .inl (r1.sub.rd h1), q3 _ _ _ (by rw [← h2.len]; exact walk_list) (fun H2 F2 u1 u2 => (.inl (u2.rd (u1.rd h1)) : SqL X.K H2 a xs)) fun i H2 F2 x H3 u1 u2 hi y => ?_⟩
    obtain ⟨rfl, y⟩ := y
    obtain ⟨d, e2, e3⟩ := h2.getV y
    exact ⟨F2, d, Ext.refl u2, e2, e3.up u1⟩
  | tup h1 h2 =>
    rename_i a xs _
    cases e1
    refine .inr (.inl ⟨a, xs, rfl, r1.sub.t h1, q3 _ _ _ (by rw [← h2.len]; exact walk_tup) (fun H2 F2 u1 u2 => u2.t (u1.t h1)) fun i H2 F2 x H3 u1 u2 hi y => ?_⟩)
    obtain ⟨rfl, y⟩ := y
    obtain ⟨d, e2, e3⟩ := h2.getV y
    exact ⟨F2, d, Ext.refl u2, e2, e3.up u1⟩
  | str z =>
    cases e1
    have hl : (sgnD z).length = z.cps.size := by simp [sgnD]
    refine .inr (.inr ⟨z, rfl, q3 _ _ _ (by rw [hl]; exact walk_str) (fun H2 F2 u1 u2 => trivial) fun i H2 F2 x H3 u1 u2 hi y => ?_⟩)
    obtain ⟨rfl, c, y1, rfl⟩ := y
    refine ⟨F2, .str ⟨#[c]⟩, Ext.refl u2, ?_, .str _⟩
    unfold sgnD
    rw [List.getElem?_map, Array.getElem?_toList, y1]
    first | done | rfl
  | _ => cases e1
def rngD (lo : Int) (n : Nat) : List D := (List.range n).map fun (i : Nat) => .int (lo + (i : Int))
def rng1 : List D → Option (List D)
  | [.int j] => if -(2 ^ 62) ≤ j ∧ j < 2 ^ 62 then some (rngD 0 j.toNat) else none
  | _ => none
def iRng (k : List D → Option (List D)) (fs : M (List D)) : M (List D) := mbind fs fun ds => mopt (k ds)
theorem rng_yields {lo : Int} {n : Nat} (i : Nat) (H2 F2 : Hp) (x : V) (H3 : Hp) (u2 : Sub F2 H2) (hi : i < (rngD lo n).length) (y : YFn (fun i => .int (lo + (i : Nat))) i H2 x H3) : ∃ F3 d, Ext H2 F2 H3 F3 ∧ (rngD lo n)[i]? = some d ∧ Is K F3 x d := by
  obtain ⟨rfl, rfl⟩ := y
  refine ⟨F2, .int (lo + i), Ext.refl u2, ?_, .int _⟩
  have hi : i < n := by simpa [rngD] using hi
  unfold rngD
  rw [List.getElem?_map, List.getElem?_range hi]
  rfl
theorem rng_len {lo : Int} {n : Nat} : (rngD lo n).length = n := by simp [rngD]
theorem one_all {F : Hp} {vs : List V} {j : Int} (h : IsAll K F vs [.int j]) : vs = [.int j] := by
  cases h with
  | cons h1 h2 => cases h1; cases h2; rfl
theorem di_range1 {p : Pos} (hg : Gl X "range") (hm : X.mg "range" = none) (ha : DA X C W [a] fs) (hs : starEach [a] X.env = [(false, eval a X.env)] := by rfl) : DI X C W tg (.Call (.Name "range" p) [a] [] pos) (iRng rng1 fs) := by
  refine pi_imp (pi_range1 hg hm ha hs) fun σ H R ⟨F, s, r, q⟩ => ⟨F, s, r, (Post.bind q).mono fun d s1 H1 F1 r1 u1 q1 v iv => ?_⟩
  obtain ⟨ds, e1, q2⟩ := post_mopt q1 r1
  have q3 := q2 H1 F1 (Ext.refl r1.sub)
  unfold rng1 at e1
  split at e1
  · rename_i j
    by_cases hj : -(2 ^ 62) ≤ j ∧ j < 2 ^ 62
    · rw [if_pos hj] at e1
      cases e1
      refine ⟨j, one_all iv, hj.1, hj.2, q3 _ _ _ (by rw [rng_len]; exact walk_range) (fun _ _ _ _ => trivial) fun i H2 F2 x H3 u1 u2 hi y => rng_yields i H2 F2 x H3 u2 hi y⟩
    · rw [if_neg hj] at e1; cases e1
  · cases e1
def enumFrom (k : Nat) : List D → List D
  | [] => []
  | d :: ds => .tup [.int (k : Nat), d] :: enumFrom (k + 1) ds
theorem enumFrom_len : ∀ (ds : List D) (k : Nat), (enumFrom k ds).length = ds.length
  | [], _ => rfl
  | _ :: ds, k => by unfold enumFrom; rw [List.length_cons, List.length_cons, enumFrom_len ds]
theorem enumFrom_get : ∀ (ds : List D) (k i : Nat), (enumFrom k ds)[i]? = (ds[i]?).map fun d => .tup [.int ((k + i : Nat) : Int), d]
  | [], _, _ => by simp [enumFrom]
  | _ :: ds, k, 0 => rfl
  | _ :: ds, k, i + 1 => by
    unfold enumFrom
    rw [List.getElem?_cons_succ, List.getElem?_cons_succ, enumFrom_get ds, show k + 1 + i = k + (i + 1) by omega]
theorem pair_yields {xs ys : Nat → Option V} {i : Nat} {H2 : Hp} {x : V} {H3 : Hp} (y : YPair xs ys i H2 x H3) : ∃ v w, xs i = some v ∧ ys i = some w ∧ ∀ (F2 : Hp) (dx dy : D), Sub F2 H2 → Is K F2 v dx → Is K F2 w dy → ∃ F3, Ext H2 F2 H3 F3 ∧ Is K F3 x (.tup [dx, dy]) := by
  obtain ⟨T, v, w, rfl, hT, rfl, e1, e2⟩ := y
  refine ⟨v, w, e1, e2, fun F2 dx dy u2 hx hy => ?_⟩
  have ex : Ext H2 F2 (upd H2 T (.tup [v, w])) (upd F2 T (.tup [v, w])) := Ext.new u2 hT
  exact ⟨_, ex, .tup (.inl (.inl upd_same)) (.cons (hx.up ex.f) (.cons (hy.up ex.f) .nil))⟩
def listOf1 : List D → Option (List D)
  | [.lst ds] => some ds
  | [.tup ds] => some ds
  | _ => none
def iEnu (fs : M (List D)) : M (List D) := mbind fs fun ds => mopt ((listOf1 ds).map (enumFrom 0))
theorem di_enum {p tpos : Pos} {elts : List Expr} {kk : Nat} (hK : C.K = X.K) (hg : Gl X "enumerate") (hm : X.mg "enumerate" = none) (ha : DA X C W [e] fs) (hs : starEach [e] X.env = [(false, eval e X.env)] := by rfl) : DI X C W (.Tuple elts kk tpos) (.Call (.Name "enumerate" p) [e] [] pos) (iEnu fs) := by
  refine pi_imp (pi_enumA hg hm ha hs) fun σ H R ⟨F, s, r, q⟩ => ⟨F, s, r, (Post.bind q).mono fun d s1 H1 F1 r1 u1 q1 v iv => ?_⟩
  obtain ⟨ds, e1, q2⟩ := post_mopt q1 r1
  have q3 := q2 H1 F1 (Ext.refl r1.sub)
  obtain ⟨es, e2, rfl⟩ := Option.map_eq_some_iff.mp e1
  rw [hK] at iv q3
  unfold listOf1 at e2
  split at e2
  · cases e2
    cases iv with
    | cons h1 h2 =>
      cases h2
      cases h1 with
      | lst h1 h2 =>
        rename_i a xs
        refine ⟨a, xs, rfl, .inl ⟨.inl (r1.sub.rd h1), q3 _ _ _ (by rw [enumFrom_len, ← h2.len]; exact walk_enum) (fun H2 F2 u1 u2 => (.inl (u2.rd (u1.rd h1)) : SqL X.K H2 a xs)) fun i H2 F2 x H3 u1 u2 hi y => ?_⟩⟩
        obtain ⟨v, w, e1, e2, k⟩ := pair_yields (K := X.K) y
        obtain ⟨d, e3, e4⟩ := h2.getV (show xs[i]? = some w from e2)
        have e1 : some (V.int (i : Nat)) = some v := e1
        cases e1
        obtain ⟨F3, ex, z⟩ := k F2 (.int (i : Nat)) d u2 (.int _) (e4.up u1)
        exact ⟨F3, _, ex, by rw [enumFrom_get, e3, Nat.zero_add]; rfl, z⟩
  · cases e2
    cases iv with
    | cons h1 h2 =>
      cases h2
      cases h1 with
      | tup h1 h2 =>
        rename_i a xs
        refine ⟨a, xs, rfl, .inr ⟨r1.sub.t h1, q3 _ _ _ (by rw [enumFrom_len, ← h2.len]; exact walk_enumT) (fun H2 F2 u1 u2 => u2.t (u1.t h1)) fun i H2 F2 x H3 u1 u2 hi y => ?_⟩⟩
        obtain ⟨v, w, e1, e2, k⟩ := pair_yields (K := X.K) y
        obtain ⟨d, e3, e4⟩ := h2.getV (show xs[i]? = some w from e2)
        have e1 : some (V.int (i : Nat)) = some v := e1
        cases e1
        obtain ⟨F3, ex, z⟩ := k F2 (.int (i : Nat)) d u2 (.int _) (e4.up u1)
        exact ⟨F3, _, ex, by rw [enumFrom_get, e3, Nat.zero_add]; rfl, z⟩
  · cases e2
/-! ### for -/
def forD (p : Pat) (f : S → Out) : List D → S → Out
  | [], s => .nx s
  | d :: ds, s => match p.bind d s with
    | none => .bad
    | some s1 => match f s1 with
      | .nx s2 => forD p f ds s2
      | .ct s2 => forD p f ds s2
      | .bk s2 => .nx s2
      | .rt v s2 => .rt v s2
      | .exc c fs s2 => .exc c fs s2
      | .bad => .bad
def sFor (fi : M (List D)) (p : Pat) (f : S → Out) : S → Out := sOf fi fun ds => forD p f ds
theorem drop_of {α : Type} {ds : List α} {i : Nat} {d : α} (h : ds[i]? = some d) : ds.drop i = d :: ds.drop (i + 1) := by
  obtain ⟨hi, e⟩ := List.getElem?_eq_some_iff.mp h
  rw [List.drop_eq_getElem_cons hi, e]
theorem ds_for {pt : Pat} (hK : C.K = X.K) (hp : PassesOwn (model X.prog X.w) X.A X.env X.xe) (hc : X.calm = true) (hi : DI X C W tg iter fi) (hg : PG X tg (pt.g X.K)) (hb : DB X C W body f)
    (hs : ∀ x, foldedSetIterable iter X.env x = pure x := by intro _; rfl) : DS X C W (.For tg iter body [] pos) (sFor fi pt f) := by
  refine ps_imp (ps_for hp hc hi hg hb hs) fun E σ H ⟨F, s, r, q⟩ => ⟨F, s, r, (post_of q).mono fun ds s1 H1 F1 r1 u1 q1 J G Y wk hG hY => ?_⟩
  refine for_it wk (fun i σ' H' => ∃ F2 s2, Rel C σ' H' F2 s2 ∧ Sub F1 F2 ∧ PostS C W F2 (forD pt f (ds.drop i) s2) E.nx E.rt E.bk E.ct) ⟨F1, s1, r1, Sub.refl _, q1⟩ (fun i σ' H' _ ⟨F2, s2, r2, u2, _⟩ => hG H' F2 u2 r2.sub) (fun i x σ' H' H3 hi ⟨F2, s2, r2, u2, q2⟩ y => ?_) fun σ' H' ⟨F2, s2, r2, u2, q2⟩ => ?_
  · obtain ⟨F3, d, ex, ed, ix⟩ := hY i H' F2 x H3 u2 r2.sub hi y
    rw [drop_of ed] at q2
    unfold forD at q2
    cases e1 : pt.bind d s2 with
    | none => rw [e1] at q2; exact q2.elim
    | some s3 =>
      rw [e1] at q2
      rw [← hK]
      refine Pat.ok pt (r2.ext ex) ix e1 fun σ3 H4 r3 _ => ⟨F3, s3, r3, ?_⟩
      have q2 : PostS C W F2 (match f s3 with
        | .nx s2 => forD pt f (ds.drop (i + 1)) s2
        | .ct s2 => forD pt f (ds.drop (i + 1)) s2
        | .bk s2 => .nx s2
        | .rt v s2 => .rt v s2
        | .exc c fs s2 => .exc c fs s2
        | .bad => .bad) E.nx E.rt E.bk E.ct := q2
      cases e2 : f s3 with
      | nx s4 => rw [e2] at q2; exact fun σ4 H4 F4 r4 u4 => ⟨F4, s4, r4, (u2.trans ex.f).trans u4, PostS.up (ex.f.trans u4) q2⟩
      | ct s4 => rw [e2] at q2; exact fun σ4 H4 F4 r4 u4 => ⟨F4, s4, r4, (u2.trans ex.f).trans u4, PostS.up (ex.f.trans u4) q2⟩
      | bk s4 => rw [e2] at q2; exact fun σ4 H4 F4 r4 u4 => q2 σ4 H4 F4 r4 (ex.f.trans u4)
      | rt v s4 => rw [e2] at q2; exact PostS.up ex.f q2
      | exc c fs s4 => rw [e2] at q2; exact PostS.up ex.f q2
      | bad => rw [e2] at q2; exact q2
  · rw [List.drop_of_length_le (Nat.le_refl _)] at q2
    exact q2 σ' H' F2 r2 (Sub.refl _)
end
end DL
set_option maxHeartbeats 2000000
/-! DL11: list comprehensions. -/
namespace DL
open PySem PySem.Spec PyProof.Rows L2
def Sl.keep : Sl → Sl
  | .val d => .val d
  | .io j => .io j
  | _ => .no
def wipeL (vs : List Nat) : Nat → List Sl → List Sl
  | _, [] => []
  | i, x :: r => (if vs.contains i then .no else x) :: wipeL vs (i + 1) r
def backL (vs : List Nat) : Nat → List Sl → List Sl → List Sl
  | i, x :: r, y :: r' => (if vs.contains i then x.keep else y) :: backL vs (i + 1) r r'
  | _, _, _ => []
def S.wipe (s : S) (vs : List Nat) : S := { s with sl := wipeL vs 0 s.sl }
def S.back (s0 s : S) (vs : List Nat) : S := { s with sl := backL vs 0 s0.sl s.sl }
theorem wipeL_get (vs : List Nat) : ∀ (l : List Sl) (k i : Nat), (wipeL vs k l)[i]? = (l[i]?).map fun x => if vs.contains (k + i) then .no else x
  | [], k, i => by simp [wipeL]
  | x :: r, k, 0 => by unfold wipeL; rfl
  | x :: r, k, i + 1 => by
    unfold wipeL
    rw [List.getElem?_cons_succ, List.getElem?_cons_succ, wipeL_get vs r, show k + 1 + i = k + (i + 1) by omega]
theorem wipeL_len (vs : List Nat) : ∀ (l : List Sl) (k : Nat), (wipeL vs k l).length = l.length
  | [], k => rfl
  | x :: r, k => by unfold wipeL; rw [List.length_cons, List.length_cons, wipeL_len vs r]
theorem backL_get (vs : List Nat) : ∀ (l m : List Sl) (k i : Nat), l.length = m.length → (backL vs k l m)[i]? = if vs.contains (k + i) then (l[i]?).map Sl.keep else m[i]?
  | [], [], k, i, _ => by simp [backL]
  | [], _ :: _, _, _, h => by simp at h
  | _ :: _, [], _, _, h => by simp at h
  | x :: r, y :: r', k, 0, h => by
    unfold backL
    rw [List.getElem?_cons_zero, List.getElem?_cons_zero, List.getElem?_cons_zero, Nat.add_zero]
    split <;> rfl
  | x :: r, y :: r', k, i + 1, h => by
    unfold backL
    rw [List.getElem?_cons_succ, List.getElem?_cons_succ, List.getElem?_cons_succ, backL_get vs r r' (k + 1) i (by simpa using h), show k + 1 + i = k + (i + 1) by omega]
theorem backL_len (vs : List Nat) : ∀ (l m : List Sl) (k : Nat), l.length = m.length → (backL vs k l m).length = m.length
  | [], [], k, _ => rfl
  | [], _ :: _, _, h => by simp at h
  | _ :: _, [], _, h => by simp at h
  | x :: r, y :: r', k, h => by unfold backL; rw [List.length_cons, List.length_cons, backL_len vs r r' _ (by simpa using h)]
section
variable {C : Ct} {W : WX} {X : Cx} {σ : L2.St} {H F : Hp} {s : S} {fa fb fc fe : M D} {a b c e : Expr} {es : List Expr} {fs : M (List D)} {pos p apos : Pos} {K : PySem.W.Frag} {x : Str} {st : Stmt} {body : List Stmt} {f : S → Out} {tg iter elt : Expr} {fi : M (List D)}
theorem wipe_ref {vs : List Nat} {i : Nat} {a : Addr} (h : (wipe σ vs)[i]? = some (some (.ref a))) : σ[i]? = some (some (.ref a)) := (wipe_some h).1
theorem Rel.wipe (r : Rel C σ H F s) (vs : List Nat) : Rel C (L2.wipe σ vs) H F (s.wipe vs) where
  sub := r.sub
  keep := r.keep
  f0 := r.f0
  len := by show (wipeL vs 0 s.sl).length = _; rw [wipeL_len, wipe_length]; exact r.len
  slot := fun i x e => by
    have e : (wipeL vs 0 s.sl)[i]? = some x := e
    rw [wipeL_get, Nat.zero_add] at e
    obtain ⟨y, e1, rfl⟩ := Option.map_eq_some_iff.mp e
    by_cases m : vs.contains i
    · rw [if_pos m]; trivial
    · rw [if_neg m, wipe_out (by simpa using m)]
      exact r.slot i y e1
  iol := r.iol
  io := r.io
  ap := fun i j a ⟨e1, c1, h1⟩ ⟨e2, c2, h2⟩ => by
    have key : ∀ {i : Nat} {c : Cell}, (wipeL vs 0 s.sl)[i]? = some (.own c) → s.sl[i]? = some (.own c) := fun {i c} e => by
      rw [wipeL_get, Nat.zero_add] at e
      obtain ⟨y, e1, e2⟩ := Option.map_eq_some_iff.mp e
      by_cases m : vs.contains i
      · rw [if_pos m] at e2; cases e2
      · rw [if_neg m] at e2; rw [e1, e2]
    exact r.ap i j a ⟨wipe_ref e1, c1, key h1⟩ ⟨wipe_ref e2, c2, key h2⟩
  inn := r.inn
  nd := r.nd
  s0 := r.s0
  tabs := r.tabs
/-- behind a block: its own names as they were -/
theorem Rel.back {H' F' : Hp} {s' : S} {vs : List Nat} (r : Rel C σ H F s) (r' : Rel C (L2.wipe σ vs) H' F' s') (u : Sub F F') : Rel C σ H' F' (s.back s' vs) := by
  have hl : s.sl.length = s'.sl.length := by rw [r.len, r'.len, wipe_length]
  refine ⟨r'.sub, r'.keep, r'.f0, ?_, fun i x e => ?_, r'.iol, r'.io, fun i j a ⟨e1, c1, h1⟩ ⟨e2, c2, h2⟩ => ?_, r'.inn, r'.nd, r'.s0, r'.tabs⟩
  · show (backL vs 0 s.sl s'.sl).length = _
    rw [backL_len _ _ _ _ hl, r'.len, wipe_length]
  · have e : (backL vs 0 s.sl s'.sl)[i]? = some x := e
    rw [backL_get _ _ _ _ _ hl, Nat.zero_add] at e
    by_cases m : vs.contains i
    · rw [if_pos m] at e
      obtain ⟨y, e1, rfl⟩ := Option.map_eq_some_iff.mp e
      have z := r.slot i y e1
      cases y with
      | val d => obtain ⟨v, z1, z2⟩ := z; exact ⟨v, z1, z2.up u⟩
      | io j => exact z
      | _ => trivial
    · rw [if_neg m] at e
      have z := r'.slot i x e
      rw [wipe_out (by simpa using m)] at z
      exact z
  · have key : ∀ {i : Nat} {c : Cell}, σ[i]? = some (some (.ref a)) → (backL vs 0 s.sl s'.sl)[i]? = some (.own c) → OwnAt (L2.wipe σ vs) s'.sl i a := fun {i c} e1 e => by
      rw [backL_get _ _ _ _ _ hl, Nat.zero_add] at e
      by_cases m : vs.contains i
      · rw [if_pos m] at e
        obtain ⟨y, _, e2⟩ := Option.map_eq_some_iff.mp e
        cases y <;> cases e2
      · rw [if_neg m] at e
        exact ⟨by rw [wipe_out (by simpa using m)]; exact e1, c, e⟩
    exact r'.ap i j a (key e1 h1) (key e2 h2)
/-! ### one more thing to be changed: the new list -/
def Ct.more (C : Ct) (a : Addr) : Ct := { C with H0 := upd C.H0 a (.lst []), A := C.A ++ [a] }
def S.more (s : S) (c : Cell) : S := { s with io := s.io ++ [c] }
def S.less (s : S) : S := { s with io := s.io.dropLast }
def S.top (s : S) : Option Cell := s.io.getLast?
def ioLt (n : Nat) : List Sl → Bool
  | [] => true
  | .io j :: r => decide (j < n) && ioLt n r
  | _ :: r => ioLt n r
theorem ioLt_get {n : Nat} : ∀ {l : List Sl} {i j : Nat}, ioLt n l = true → l[i]? = some (.io j) → j < n
  | [], _, _, _, e => by simp at e
  | x :: r, 0, j, h, e => by
    have e : x = .io j := by simpa using e
    subst e
    unfold ioLt at h
    rw [Bool.and_eq_true] at h
    exact of_decide_eq_true h.1
  | x :: r, i + 1, j, h, e => by
    refine ioLt_get (l := r) (i := i) ?_ (by simpa using e)
    cases x <;> unfold ioLt at h <;> first | exact h | (rw [Bool.and_eq_true] at h; exact h.2)
theorem Rel.more (r : Rel C σ H F s) {a : Addr} (n : H a = none) : Rel (C.more a) σ (upd H a (.lst [])) F (s.more (.lst [])) := by
  have n0 := r.newH n
  have nF := r.newF n
  have nF0 : C.F0 a = none := by
    cases e : C.F0 a with
    | none => rfl
    | some o => rw [r.s0.1 a o e] at n0; cases n0
  have nO := r.newO n
  have hA : a ∉ C.A := fun m => r.inn a m n0
  refine ⟨fun b u e => by rw [upd_ne (ne_of_none e nF)]; exact r.sub _ _ e, fun b u e m => ?_, fun b e => ?_, r.len, fun i x e => ?_, ?_, fun j b c e1 e2 => ?_, r.ap, fun b m => ?_, ?_, ⟨fun b u e => ?_, fun p hp => ⟨(r.s0.2 p hp).1, ?_⟩⟩, r.tabs.upd fun ps z => by rw [n] at z; cases z⟩
  · have m : b ∉ C.A ++ [a] := m
    have ne : b ≠ a := fun z => m (by rw [z]; simp)
    have e : upd C.H0 a (.lst []) b = some u := e
    rw [upd_ne ne] at e ⊢
    exact r.keep b u e fun z => m (List.mem_append_left _ z)
  · show F b = C.F0 b
    have e : upd C.H0 a (.lst []) b ≠ none := e
    by_cases z : b = a
    · rw [z, nF, nF0]
    · rw [upd_ne z] at e; exact r.f0 b e
  · have z := r.slot i x e
    cases x with
    | no => trivial
    | val d => exact z
    | own c =>
      obtain ⟨b, z1, z2, z3, z4⟩ := z
      have ne : b ≠ a := fun w => nO i ⟨by rw [← w]; exact z1, c, e⟩
      exact ⟨b, z1, z2, by show upd C.H0 a _ b = none; rw [upd_ne ne]; exact z3, z4.up (Sub.refl _) fun u e => by rw [upd_ne ne]; exact e⟩
    | io j =>
      obtain ⟨b, z1, z2⟩ := z
      exact ⟨b, z1, by show (C.A ++ [a])[j]? = _; rw [List.getElem?_append_left (List.getElem?_eq_some_iff.mp z2).1]; exact z2⟩
  · show (s.io ++ [_]).length = (C.A ++ [a]).length
    rw [List.length_append, List.length_append, r.iol]; rfl
  · have e1 : (C.A ++ [a])[j]? = some b := e1
    have e2 : (s.io ++ [.lst []])[j]? = some c := e2
    by_cases hj : j < C.A.length
    · rw [List.getElem?_append_left hj] at e1
      rw [List.getElem?_append_left (by rw [r.iol]; exact hj)] at e2
      obtain ⟨z1, z2⟩ := r.io j b c e1 e2
      have ne : b ≠ a := fun w => hA (by rw [← w]; exact List.mem_of_getElem? e1)
      exact ⟨z1, z2.up (Sub.refl _) fun u e => by rw [upd_ne ne]; exact e⟩
    · have hj : C.A.length ≤ j := by omega
      rw [List.getElem?_append_right hj] at e1
      rw [List.getElem?_append_right (by rw [r.iol]; exact hj), r.iol] at e2
      have hz : j - C.A.length = 0 := by
        cases q : j - C.A.length with
        | zero => rfl
        | succ k => rw [q] at e1; simp at e1
      rw [hz] at e1 e2
      cases e1
      cases e2
      exact ⟨nF0, [], upd_same, .nil⟩
  · show upd C.H0 a _ b ≠ none
    rcases List.mem_append.mp m with z | z
    · rw [upd_ne fun w => hA (by rw [← w]; exact z)]; exact r.inn b z
    · have z : b = a := by simpa using z
      rw [z, upd_same]; exact fun w => nomatch w
  · show (C.A ++ [a]).Nodup
    rw [List.nodup_append]
    exact ⟨r.nd, by simp, fun x hx y hy => by
      have hy : y = a := by simpa using hy
      rw [hy]; exact fun w => hA (by rw [← w]; exact hx)⟩
  · show upd C.H0 a _ b = some u
    have e : C.F0 b = some u := e
    rw [upd_ne fun w => by rw [w, nF0] at e; cases e]
    exact r.s0.1 b u e
  · show upd C.H0 a _ p.1 ≠ none
    rw [upd_ne fun w => (r.s0.2 p hp).2 (by rw [w]; exact n0)]
    exact (r.s0.2 p hp).2
theorem more_last {a : Addr} : (C.more a).A[C.A.length]? = some a := by show (C.A ++ [a])[C.A.length]? = _; simp
theorem top_at {l : List Cell} {n : Nat} (h : l.length = n + 1) : l.getLast? = l[n]? := by
  rw [List.getLast?_eq_getElem?, h]; rfl
/-- what the new list holds now -/
theorem Rel.top {a : Addr} {c : Cell} (r : Rel (C.more a) σ H F s) (h : s.top = some c) : F a = none ∧ CellAt C.K F H a c ∧
    ∀ (o : HO) (c' : Cell), CellAt C.K F (upd H a o) a c' → Rel (C.more a) σ (upd H a o) F { s with io := s.io.dropLast ++ [c'] } := by
  have hl : s.io.length = C.A.length + 1 := by rw [r.iol]; show (C.A ++ [a]).length = _; simp
  unfold S.top at h
  rw [top_at hl] at h
  have q := r.io _ a c more_last h
  have nF : F a = none := r.ioF more_last h
  refine ⟨nF, q.2, fun o c' hc' => ?_⟩
  have hH0 : (C.more a).H0 a ≠ none := by show upd C.H0 a _ a ≠ none; rw [upd_same]; exact fun w => nomatch w
  have hmem : a ∈ (C.more a).A := by show a ∈ C.A ++ [a]; simp
  have oth : ∀ {b : Addr} {c : Cell}, CellAt C.K F H b c → b ≠ a → CellAt C.K F (upd H a o) b c := fun {b c} h ne => h.up (Sub.refl _) fun u e => by rw [upd_ne ne]; exact e
  have hio : ∀ j, (s.io.dropLast ++ [c'])[j]? = if j = C.A.length then some c' else s.io[j]? := fun j => by
    have hd : s.io.dropLast.length = C.A.length := by rw [List.length_dropLast, hl]; rfl
    by_cases e : j = C.A.length
    · rw [if_pos e, List.getElem?_append_right (by omega), hd, e]; simp
    · rw [if_neg e]
      by_cases hj : j < C.A.length
      · rw [List.getElem?_append_left (by omega), List.getElem?_dropLast, if_pos (by omega)]
      · rw [List.getElem?_append_right (by omega), List.getElem?_eq_none (by simp; omega), List.getElem?_eq_none (by omega)]
  refine ⟨fun b u e => by rw [upd_ne (ne_of_none e nF)]; exact r.sub _ _ e, fun b u e m => by rw [upd_ne fun w => m (by rw [w]; exact hmem)]; exact r.keep b u e m, r.f0, r.len, fun i x e => ?_, ?_, fun j b c e1 e2 => ?_, r.ap, r.inn, r.nd, r.s0, r.tabs.upd q.2.nt⟩
  · have z := r.slot i x e
    cases x with
    | own c =>
      obtain ⟨b, z1, z2, z3, z4⟩ := z
      exact ⟨b, z1, z2, z3, oth z4 fun w => by subst w; exact hH0 z3⟩
    | _ => exact z
  · show (s.io.dropLast ++ [c']).length = _
    rw [← r.iol, List.length_append, List.length_dropLast, hl]; rfl
  · have e2 : (s.io.dropLast ++ [c'])[j]? = some c := e2
    rw [hio] at e2
    by_cases e : j = C.A.length
    · rw [if_pos e] at e2
      cases e2
      rw [e, more_last] at e1
      cases e1
      exact ⟨q.1, hc'⟩
    · rw [if_neg e] at e2
      have z := r.io j b c e1 e2
      refine ⟨z.1, oth z.2 fun w => e ?_⟩
      rw [w] at e1
      exact (List.getElem?_inj (List.getElem?_eq_some_iff.mp e1).1 r.nd).mp (e1.trans more_last.symm)
theorem Rel.less {a : Addr} (r : Rel (C.more a) σ H F s) (n0 : C.H0 a = none) (hio : ioLt C.A.length s.sl = true) (nd : C.A.Nodup) (inn : ∀ a ∈ C.A, C.H0 a ≠ none) (s0 : S0 C) : Rel C σ H F s.less ∧ ∀ i, ¬ OwnAt σ s.sl i a := by
  have hl : s.io.length = C.A.length + 1 := by rw [r.iol]; show (C.A ++ [a]).length = _; simp
  have key : ∀ {b : Addr}, C.H0 b ≠ none → (C.more a).H0 b = C.H0 b := fun {b} h => by
    show upd C.H0 a _ b = _
    rw [upd_ne fun w => h (by rw [w]; exact n0)]
  refine ⟨⟨r.sub, fun b u e m => r.keep b u (by rw [key (by rw [e]; exact fun z => nomatch z)]; exact e) fun z => ?_, fun b e => r.f0 b (by rw [key e]; exact e), r.len, fun i x e => ?_, ?_, fun j b c e1 e2 => ?_, r.ap, inn, nd, s0, r.tabs⟩, fun i ⟨e1, c, e2⟩ => ?_⟩
  · rcases List.mem_append.mp (show b ∈ C.A ++ [a] from z) with z | z
    · exact m z
    · have z : b = a := by simpa using z
      rw [z, n0] at e; cases e
  · have e : s.sl[i]? = some x := e
    have z := r.slot i x e
    cases x with
    | own c =>
      obtain ⟨b, z1, z2, z3, z4⟩ := z
      refine ⟨b, z1, z2, ?_, z4⟩
      have z3 : upd C.H0 a (.lst []) b = none := z3
      by_cases w : b = a
      · rw [w]; exact n0
      · rw [upd_ne w] at z3; exact z3
    | io j =>
      obtain ⟨b, z1, z2⟩ := z
      have z2 : (C.A ++ [a])[j]? = some b := z2
      rw [List.getElem?_append_left (ioLt_get hio e)] at z2
      exact ⟨b, z1, z2⟩
    | _ => exact z
  · show s.io.dropLast.length = _
    rw [List.length_dropLast, hl]; rfl
  · have hj : j < C.A.length := (List.getElem?_eq_some_iff.mp e1).1
    have e2 : s.io.dropLast[j]? = some c := e2
    rw [List.getElem?_dropLast, if_pos (by omega)] at e2
    exact r.io j b c (by show (C.A ++ [a])[j]? = _; rw [List.getElem?_append_left hj]; exact e1) e2
  · obtain ⟨b, z1, z2, z3, z4⟩ := r.slot i _ e2
    rw [e1] at z1
    cases z1
    have z3 : upd C.H0 a (.lst []) a = none := z3
    rw [upd_same] at z3
    cases z3
/-! ### [elt for pt in iter if test] -/
def pushL (s : S) (y : D) : Option S := match s.top with
  | some (.lst acc) => if acc.length < LN then some { s with io := s.io.dropLast ++ [.lst (acc ++ [y])] } else none
  | _ => none
/-- the turns -/
def lcD (vs : List Nat) (p : Pat) (t : M Bool) (fe : M D) : List D → S → Option S
  | [], s => some s
  | d :: ds, s => (p.bind d (s.wipe vs)).bind fun s1 => match t s1 with
    | .ok true s2 => (match fe s2 with
      | .ok y s3 => (pushL s3 y).bind fun s4 => lcD vs p t fe ds s4
      | _ => none)
    | .ok false s2 => lcD vs p t fe ds s2
    | _ => none
def lcEnd (vs : List Nat) (s : S) (o : Option S) : Res (List D) := match o with
  | some s' => (match s'.top with
    | some (.lst ys) => if ioLt s.io.length s'.sl = true then .ok ys (s.back (s'.wipe vs).less vs) else .bad
    | _ => .bad)
  | none => .bad
def eLcL (vs : List Nat) (fi : M (List D)) (p : Pat) (t : M Bool) (fe : M D) : M (List D) := mbind fi fun ds s => lcEnd vs s (lcD vs p t fe ds (s.more (.lst [])))
def eLc (vs : List Nat) (fi : M (List D)) (p : Pat) (t : M Bool) (fe : M D) : M D := mbind (eLcL vs fi p t fe) fun ys => mret (.lst ys)
def oLc (vs : List Nat) (fi : M (List D)) (p : Pat) (t : M Bool) (fe : M D) : M Cell := mbind (eLcL vs fi p t fe) fun ys => mret (.lst ys)
abbrev WN : WX := fun _ _ _ _ => False
def mYes : M Bool := mret true
abbrev DTs (X : Cx) (C : Ct) (W : WX) (ifs : List Expr) (f : M Bool) : Prop := PTs X ifs (tB C W f)
theorem dts_nil : DTs X C W [] mYes := ⟨fun pins s σ H Q I ⟨F, s', r, q⟩ => pts_nil.run pins s σ H Q I (q H F r (Sub.refl _))⟩
theorem dts_one {t : M Bool} (h : DT X C W a t) : DTs X C W [a] t := pts_one h
/-- whatever is fixed -/
def tBx (K : PySem.W.Frag) (t : M Bool) : TT := fun σ H Q => ∃ C' : Ct, C'.K = K ∧ tB C' WN t σ H Q
def tDx (K : PySem.W.Frag) (f : M D) : TE := fun σ H Q => ∃ C' : Ct, C'.K = K ∧ tD C' WN f σ H Q
theorem dts_x {X : Cx} {ifs : List Expr} {t : M Bool} {K : PySem.W.Frag} (h : ∀ C' : Ct, C'.K = K → DTs X C' WN ifs t) : PTs X ifs (tBx K t) := ⟨fun pins s σ H Q I ⟨C', e, q⟩ => (h C' e).run pins s σ H Q I q⟩
theorem d_x {X : Cx} {e : Expr} {f : M D} {K : PySem.W.Frag} (h : ∀ C' : Ct, C'.K = K → DE X C' WN e f) : PE X e (tDx K f) := ⟨fun pins s σ H Q I ⟨C', e, q⟩ => (h C' e).run pins s σ H Q I q⟩
theorem wipe_wipe {vs : List Nat} : L2.wipe (L2.wipe σ vs) vs = L2.wipe σ vs := by
  refine List.ext_getElem? fun j => ?_
  by_cases m : j ∈ vs
  · rw [wipe_get _ _ _ m, wipe_get _ _ _ m, wipe_length]
  · rw [wipe_out m]
theorem lc_turns {vs : List Nat} {pt : Pat} {t : M Bool} {J : It} {G : Hp → Prop} {Y : Nat → Hp → V → Hp → Prop} {H1 F1 : Hp} {s1 : S} {ds : List D} (hpt : pt.inn vs = true) (r0 : Rel C σ H1 F1 s1) (wk : Walk J ds.length G Y)
    (hG : ∀ H2 F2, Sub F1 F2 → Sub F2 H2 → G H2) (hY : ∀ i H2 F2 x H3, Sub F1 F2 → Sub F2 H2 → i < ds.length → Y i H2 x H3 → ∃ F3 d, Ext H2 F2 H3 F3 ∧ ds[i]? = some d ∧ Is C.K F3 x d)
    {Dd : Addr} (nD : H1 Dd = none) {Qd : Hp → Prop} {sE : S} (hq : lcD vs pt t fe ds (s1.more (.lst [])) = some sE)
    (fin : ∀ H' F', Rel (C.more Dd) (L2.wipe σ vs) H' F' (sE.wipe vs) → Sub F1 F' → Qd H') :
    ∃ W : Nat → Nat → Hp → Prop, (∃ m, W 0 m (upd H1 Dd (.lst []))) ∧ ∀ i m H, W i m H →
      (J.stop i H ∧ Qd H) ∨ (J.go i H ∧ ∃ Nx : Hp → Prop, (∀ H', Nx H' → ∃ m', m' < m ∧ W (i + 1) m' H') ∧ ∀ x H', J.yld i H x H' → pt.g C.K x (L2.wipe σ vs) H' fun σ2 H2 => L2.wipe σ2 vs = L2.wipe σ vs ∧ tBx C.K t σ2 H2 fun b H3 =>
        if b = true then tDx C.K fe σ2 H3 fun y H4 => ∃ acc, H4 Dd = some (.lst acc) ∧ acc.length < sizeLine ∧ Nx (upd H4 Dd (.lst (acc ++ [y]))) else Nx H3) := by
  refine lc_it wk (fun i H' => ∃ F2 s2 sx, Rel (C.more Dd) (L2.wipe σ vs) H' F2 sx ∧ sx = s2.wipe vs ∧ Sub F1 F2 ∧ lcD vs pt t fe (ds.drop i) s2 = some sE) ⟨F1, _, _, (r0.more nD).wipe vs, rfl, Sub.refl _, hq⟩
    (fun i H' _ ⟨F2, s2, sx, r2, _, u2, _⟩ => hG H' F2 u2 r2.sub) (fun i x H' H3 hi ⟨F2, s2, sx, r2, ex2, u2, hl⟩ y => ?_) fun H' ⟨F2, s2, sx, r2, ex2, u2, hl⟩ => ?_
  · obtain ⟨F3, d, ex, ed, ix⟩ := hY i H' F2 x H3 u2 r2.sub hi y
    rw [drop_of ed] at hl
    unfold lcD at hl
    obtain ⟨s3, e1, hl⟩ := Option.bind_eq_some_iff.mp hl
    subst ex2
    refine Pat.ok (C := C.more Dd) pt (r2.ext ex) ix e1 fun σ3 H3' r3 hw => ⟨by rw [hw vs hpt, wipe_wipe], C.more Dd, rfl, F3, s3, r3, ?_⟩
    have hw3 : L2.wipe σ3 vs = L2.wipe σ vs := by rw [hw vs hpt, wipe_wipe]
    cases e2 : t s3 with
    | bad => rw [e2] at hl; cases hl
    | exc c' fs' s4 => rw [e2] at hl; cases hl
    | ok k s4 =>
      rw [e2] at hl
      intro H4 F4 r4 u4
      have r5 := r4.wipe vs
      rw [hw3] at r5
      cases k with
      | false =>
        simp only []
        rw [if_neg Bool.false_ne_true]
        exact ⟨F4, s4, _, r5, rfl, (u2.trans ex.f).trans u4, hl⟩
      | true =>
        simp only []
        rw [if_pos trivial]
        refine ⟨C.more Dd, rfl, F4, s4, r4, ?_⟩
        have hl : (match fe s4 with
          | .ok y s3 => (pushL s3 y).bind fun s4 => lcD vs pt t fe (ds.drop (i + 1)) s4
          | _ => none) = some sE := hl
        cases e3 : fe s4 with
        | bad => rw [e3] at hl; cases hl
        | exc c' fs' s4 => rw [e3] at hl; cases hl
        | ok yv s6 =>
          rw [e3] at hl
          obtain ⟨s7, e4, hl⟩ := Option.bind_eq_some_iff.mp hl
          intro H6 F6 r6 u6 v iv
          unfold pushL at e4
          split at e4
          · rename_i acc e5
            by_cases hlen : acc.length < LN
            · rw [if_pos hlen] at e4
              cases e4
              obtain ⟨nF, ⟨xs, hx, ia⟩, k⟩ := r6.top e5
              have r7 := (k (.lst (xs ++ [v])) (.lst (acc ++ [yv])) ⟨xs ++ [v], upd_same, ia.app (.cons iv .nil)⟩).wipe vs
              rw [hw3] at r7
              exact ⟨xs, hx, by rw [ia.len]; exact ln_lt hlen, F6, _, _, r7, rfl, ((u2.trans ex.f).trans u4).trans u6, hl⟩
            · rw [if_neg hlen] at e4; cases e4
          · cases e4
  · rw [List.drop_of_length_le (Nat.le_refl _)] at hl
    unfold lcD at hl
    cases hl
    subst ex2
    exact fin H' F2 r2 u2
theorem lc_end {vs : List Nat} {H1 F1 H' F' : Hp} {s1 sE : S} {a : Addr} {ys : List D} {s2 : S} (r1 : Rel C σ H1 F1 s1) (nD : H1 a = none) (he : lcEnd vs s1 (some sE) = .ok ys s2) (r : Rel (C.more a) (L2.wipe σ vs) H' F' (sE.wipe vs)) (u : Sub F1 F') :
    Rel C σ H' F' s2 ∧ F' a = none ∧ C.H0 a = none ∧ CellAt C.K F' H' a (.lst ys) ∧ ∀ i, ¬ OwnAt σ s2.sl i a := by
  unfold lcEnd at he
  have n0 := r1.newH nD
  split at he
  · rename_i s' e0
    cases e0
    split at he
    · rename_i ys' e1
      by_cases h : ioLt s1.io.length sE.sl = true
      · rw [if_pos h] at he
        cases he
        have htop : (sE.wipe vs).top = some (.lst ys) := e1
        obtain ⟨nF, hc, _⟩ := r.top htop
        have hio : ioLt C.A.length (sE.wipe vs).sl = true := by
          rw [← r1.iol]
          have : ∀ (l : List Sl) (k : Nat), ioLt s1.io.length l = true → ioLt s1.io.length (wipeL vs k l) = true := by
            intro l
            induction l with
            | nil => intro k h; exact h
            | cons x r ih =>
              intro k h
              unfold wipeL
              by_cases m : vs.contains k
              · rw [if_pos m]
                refine ih (k + 1) ?_
                cases x <;> unfold ioLt at h <;> first | exact h | (rw [Bool.and_eq_true] at h; exact h.2)
              · rw [if_neg m]
                cases x with
                | io j =>
                  unfold ioLt at h ⊢
                  rw [Bool.and_eq_true] at h ⊢
                  exact ⟨h.1, ih (k + 1) h.2⟩
                | _ => exact ih (k + 1) h
          exact this _ _ h
        obtain ⟨rl, nO⟩ := r.less n0 hio r1.nd r1.inn r1.s0
        have rb := r1.back rl u
        refine ⟨rb, nF, n0, hc, fun i ⟨e1, c, e2⟩ => ?_⟩
        have e2 : (backL vs 0 s1.sl (sE.wipe vs).sl)[i]? = some (.own c) := e2
        have hl : s1.sl.length = (sE.wipe vs).sl.length := by rw [r1.len, r.len, wipe_length]
        rw [backL_get _ _ _ _ _ hl, Nat.zero_add] at e2
        by_cases m : vs.contains i
        · rw [if_pos m] at e2
          obtain ⟨y, _, e3⟩ := Option.map_eq_some_iff.mp e2
          cases y <;> cases e3
        · rw [if_neg m] at e2
          exact nO i ⟨by rw [wipe_out (by simpa using m)]; exact e1, c, e2⟩
      · rw [if_neg h] at he; cases he
    · cases he
  · rename_i e0; cases e0
section
variable {scope : Scope} {own : List (Str × Nat)} {pt : Pat} {t : M Bool} {ifs : List Expr}
theorem lc_tLc {Q : VK} {P : List D → S → Hp → Hp → Prop} (hK : C.K = X.K) (hpt : pt.inn (own.map (·.2)) = true) (h : ∃ F s, Rel C σ H F s ∧ Post C W σ F (eLcL (own.map (·.2)) fi pt t fe s) P)
    (fin : ∀ ys s2 H' F' a, Rel C σ H' F' s2 → F' a = none → C.H0 a = none → CellAt C.K F' H' a (.lst ys) → (∀ i, ¬ OwnAt σ s2.sl i a) → (∀ H'' F'', Rel C σ H'' F'' s2 → Sub F' F'' → P ys s2 H'' F'') → Q (.ref a) H') :
    ∃ F s, Rel C σ H F s ∧ Post C W σ F (fi s) fun ds s' H' F' => ∀ (J : It) (G : Hp → Prop) (Y : Nat → Hp → V → Hp → Prop), Walk J ds.length G Y → (∀ H2 F2, Sub F' F2 → Sub F2 H2 → G H2) →
      (∀ i H2 F2 x H3, Sub F' F2 → Sub F2 H2 → i < ds.length → Y i H2 x H3 → ∃ F3 d, Ext H2 F2 H3 F3 ∧ ds[i]? = some d ∧ Is C.K F3 x d) →
      ∀ D, H' D = none → ∃ W : Nat → Nat → Hp → Prop, (∃ m, W 0 m (upd H' D (.lst []))) ∧ ∀ i m H, W i m H →
        (J.stop i H ∧ Q (.ref D) H) ∨ (J.go i H ∧ ∃ Nx : Hp → Prop, (∀ H', Nx H' → ∃ m', m' < m ∧ W (i + 1) m' H') ∧ ∀ x H', J.yld i H x H' → pt.g C.K x (L2.wipe σ (own.map (·.2))) H' fun σ2 H2 => L2.wipe σ2 (own.map (·.2)) = L2.wipe σ (own.map (·.2)) ∧ tBx C.K t σ2 H2 fun b H3 =>
          if b = true then tDx C.K fe σ2 H3 fun y H4 => ∃ acc, H4 D = some (.lst acc) ∧ acc.length < sizeLine ∧ Nx (upd H4 D (.lst (acc ++ [y]))) else Nx H3) := by
  obtain ⟨F, s, r, q⟩ := h
  refine ⟨F, s, r, (Post.bind q).mono fun ds s1 H1 F1 r1 u1 q1 J G Y wk hG hY Dd nD => ?_⟩
  cases e1 : lcD (own.map (·.2)) pt t fe ds (s1.more (.lst [])) with
  | none => rw [e1] at q1; exact q1.elim
  | some sE =>
    rw [e1] at q1
    cases e2 : lcEnd (own.map (·.2)) s1 (some sE) with
    | bad => rw [e2] at q1; exact q1.elim
    | exc c' fs' s2 => unfold lcEnd at e2; split at e2 <;> (try split at e2) <;> (try split at e2) <;> cases e2
    | ok ys s2 =>
      rw [e2] at q1
      refine lc_turns hpt r1 wk hG hY nD e1 fun H' F' rE uE => ?_
      obtain ⟨r2, nF, n0, hc, nO⟩ := lc_end r1 nD e2 rE uE
      exact fin ys s2 H' F' Dd r2 nF n0 hc nO fun H'' F'' r'' u'' => q1 H'' F'' r'' (uE.trans u'')
/-- a block's context -/
abbrev Blk (X : Cx) (scope : Scope) (P : Cx → Prop) : Prop := ∀ (s : Shared) (H : Hp) (c : Addr) (cl : List (Str × Addr)) (fp : List Addr), P (X.blk s H scope (compEnvC scope cl c X.env) fp)
theorem d_lc (hK : C.K = X.K) (hc : X.calm = true) (hN : X.N.Nodup) (hi : DI X C W tg iter fi) (ok : BlkOk X.N X.env.scope scope own) (hpt : pt.inn (own.map (·.2)) = true)
    (hg : Blk X scope fun Y => PG Y tg (pt.g X.K)) (ht : ∀ C' : Ct, C'.K = X.K → Blk X scope fun Y => DTs Y C' WN ifs t) (he : ∀ C' : Ct, C'.K = X.K → Blk X scope fun Y => DE Y C' WN elt fe)
    (hs : ∀ x, foldedSetIterable iter X.env x = pure x := by intro _; rfl) : DE X C W (.ListComp elt [⟨tg, iter, ifs, 0⟩] scope pos) (eLc (own.map (·.2)) fi pt t fe) := by
  refine pe_imp (pe_lc hc hN hi ok hg (fun s H c cl fp => dts_x fun C' e => ht C' e s H c cl fp) (fun s H c cl fp => d_x fun C' e => he C' e s H c cl fp) hs) fun σ H Q ⟨F, s, r, q⟩ => ?_
  rw [← hK]
  refine lc_tLc hK hpt ⟨F, s, r, Post.bind q⟩ fun ys s2 H' F' a r2 nF n0 hc nO k => ?_
  obtain ⟨xs, hx, ia⟩ := hc
  have uf : Sub F' (upd F' a (.lst xs)) := fun b u e => by rw [upd_ne (ne_of_none e nF)]; exact e
  have r3 : Rel C σ H' (upd F' a (.lst xs)) s2 := by
    refine ⟨fun b u e => ?_, r2.keep, fun b e => ?_, r2.len, fun j x e => ?_, r2.iol, fun j b c' e1 e2 => ⟨(r2.io j b c' e1 e2).1, (r2.io j b c' e1 e2).2.up uf fun _ z => z⟩, r2.ap, r2.inn, r2.nd, r2.s0, r2.tabs.up uf⟩
    · by_cases q : b = a
      · subst q; rw [upd_same] at e; rw [hx]; exact e
      · rw [upd_ne q] at e; exact r2.sub _ _ e
    · rw [upd_ne fun z => e (by rw [z]; exact n0)]
      exact r2.f0 b e
    · have z := r2.slot j x e
      cases x with
      | no => trivial
      | val d => obtain ⟨v, z1, z2⟩ := z; exact ⟨v, z1, z2.up uf⟩
      | own c' =>
        obtain ⟨b, z1, z2, z3, z4⟩ := z
        have ne : b ≠ a := fun y => by
          subst y
          exact nO j ⟨z1, c', e⟩
        exact ⟨b, z1, by rw [upd_ne ne]; exact z2, z3, z4.up uf fun _ z => z⟩
      | io k => exact z
  exact k H' _ r3 uf H' _ r3 (Sub.refl _) (.ref a) (.lst (.inl upd_same) (ia.up uf))
theorem o_lc (hK : C.K = X.K) (hc : X.calm = true) (hN : X.N.Nodup) (hi : DI X C W tg iter fi) (ok : BlkOk X.N X.env.scope scope own) (hpt : pt.inn (own.map (·.2)) = true)
    (hg : Blk X scope fun Y => PG Y tg (pt.g X.K)) (ht : ∀ C' : Ct, C'.K = X.K → Blk X scope fun Y => DTs Y C' WN ifs t) (he : ∀ C' : Ct, C'.K = X.K → Blk X scope fun Y => DE Y C' WN elt fe)
    (hs : ∀ x, foldedSetIterable iter X.env x = pure x := by intro _; rfl) : DO X C W (.ListComp elt [⟨tg, iter, ifs, 0⟩] scope pos) (oLc (own.map (·.2)) fi pt t fe) := by
  refine pe_imp (pe_lc hc hN hi ok hg (fun s H c cl fp => dts_x fun C' e => ht C' e s H c cl fp) (fun s H c cl fp => d_x fun C' e => he C' e s H c cl fp) hs) fun σ H Q ⟨F, s, r, q⟩ => ?_
  rw [← hK]
  refine lc_tLc hK hpt ⟨F, s, r, Post.bind q⟩ fun ys s2 H' F' a r2 nF n0 hc nO k => ?_
  exact k H' F' r2 (Sub.refl _) H' F' r2 (Sub.refl _) a nO n0 nF hc
end
end
end DL
set_option maxHeartbeats 2000000
/-! DL12: defs and their calls. -/
namespace DL
open PySem PySem.Spec PyProof.Rows L2
/-! ### a def's meaning: from its arguments and the things it may change -/
inductive FR where
  | rt (v : RV) (io : List Cell) | exc (c : Str) (fs : List (Str × D)) (io : List Cell) | bad
abbrev Fn := List Sl → List Cell → FR
def outFR : Out → FR
  | .nx s => .rt (.val .non) s.io
  | .rt v s => .rt v s.io
  | .exc c fs s => .exc c fs s.io
  | _ => .bad
/-- n: how many names the def has -/
def bodyFn (n : Nat) (f : S → Out) : Fn := fun as io => outFR (f ⟨as ++ List.replicate (n - as.length) .no, io⟩)
section
variable (K : PySem.W.Frag)
def ArgOk (F : Hp) (A : List Addr) (v : V) : Sl → Prop
  | .val d => Is K F v d
  | .io j => ∃ a, v = .ref a ∧ A[j]? = some a
  | _ => False
structure Entry (F H : Hp) (A : List Addr) (vs : List V) (as : List Sl) (io : List Cell) : Prop where
  sub : Sub F H
  nd : A.Nodup
  inn : ∀ a ∈ A, H a ≠ none
  iol : io.length = A.length
  io : ∀ (j : Nat) (a : Addr) (c : Cell), A[j]? = some a → io[j]? = some c → F a = none ∧ CellAt K F H a c
  len : as.length = vs.length
  args : ∀ (i : Nat) (x : Sl), as[i]? = some x → ∃ v, vs[i]? = some v ∧ ArgOk K F A v x
  tabs : TabsF K F H
  tf0 : ∀ p ∈ tbOf K, F p.1 = none
structure After (F H : Hp) (A : List Addr) (io : List Cell) (H' F' : Hp) : Prop where
  sub : Sub F' H'
  f : Sub F F'
  keep : ∀ a o, H a = some o → a ∉ A → Kept o (H' a)
  o : ∀ a, H a ≠ none → F' a = F a
  iol : io.length = A.length
  io : ∀ (j : Nat) (a : Addr) (c : Cell), A[j]? = some a → io[j]? = some c → CellAt K F' H' a c
  tabs : TabsF K F' H'
def RetAt (H F' H' : Hp) (v : V) : RV → Prop
  | .val d => Is K F' v d
  | .own c => ∃ a, v = .ref a ∧ F' a = none ∧ H a = none ∧ CellAt K F' H' a c
def FPost (F H : Hp) (A : List Addr) (r : FR) (Q : VK) (E : XK) : Prop := match r with
  | .rt rv io => ∀ v H' F', After K F H A io H' F' → RetAt K H F' H' v rv → Q v H'
  | .exc c fs io => ∀ a H' F', After K F H A io H' F' → XAt K F' H' a fs → E (.ref (He.ga K c)) (some a) H'
  | .bad => False
/-- what a def promises -/
def spD (np : Nat) (r : Fn) : Sp := fun vs H Q E => ∃ F A as io, Entry K F H A vs as io ∧ as.length = np ∧ FPost K F H A (r as io) Q E
end
/-- FnOk where nothing guards (for repr of what holds things) -/
structure FnG (gd : Bool) (P : Program) (w : World) (K : PySem.W.Frag) (mg : Str → Option Value) (base : Heap) (CX : CXT) (k : Nat) (f : Addr) (fd : FuncData) (ps : List Str) (sp : Sp) : Prop where
  len : ∀ vs H Q E, sp vs H Q E → vs.length = ps.length
  run : ∀ (A : Around) (outer : List Env) (s : Shared) (H : Hp) (args : Args) (us : List Value) (vs : List V) (Q : VK) (E : XK), (gd = true → A.guards = some []) → Room k A → Env0 P w K mg base A outer s H → BindsTo s fd args (ps.zip us) → Vals vs us → sp vs H Q E →
    codeAny (model P w) A (.call (.ref f) args) (CR CX outer P w H s Q E) s
theorem FnG.mono {gd gd' : Bool} {P : Program} {w : World} {K : PySem.W.Frag} {mg : Str → Option Value} {base : Heap} {CX : CXT} {j k : Nat} {f : Addr} {fd : FuncData} {ps : List Str} {sp : Sp} (F : FnG gd P w K mg base CX j f fd ps sp) (h : j ≤ k) (hg : gd = true → gd' = true) :
    FnG gd' P w K mg base CX k f fd ps sp := ⟨F.len, fun A outer s H args us vs Q E g hr => F.run A outer s H args us vs Q E (fun z => g (hg z)) (hr.mono h)⟩
theorem FnG.imp {gd : Bool} {P : Program} {w : World} {K : PySem.W.Frag} {mg : Str → Option Value} {base : Heap} {CX : CXT} {k : Nat} {f : Addr} {fd : FuncData} {ps : List Str} {sp sp' : Sp} (F : FnG gd P w K mg base CX k f fd ps sp)
    (h : ∀ vs H Q E, sp' vs H Q E → sp vs H Q E) : FnG gd P w K mg base CX k f fd ps sp' :=
  ⟨fun vs H Q E q => F.len vs H Q E (h _ _ _ _ q), fun A outer s H args us vs Q E g hr he hb hv hs => F.run A outer s H args us vs Q E g hr he hb hv (h _ _ _ _ hs)⟩
theorem make_guards {A : Around} {C : Addr} {us : List Value} {kw : List (Str × Value)} (h : A.guards = some []) : (A.under (.builtin "type.__call__" ⟨.ref C :: us, kw⟩)).guards = some [] := by
  simp [Around.under, Code.guards, Code.isGuard, pushGuards, guardIds, h]
/-- HandS's fn_of with the guards -/
theorem fng_of {gd : Bool} {CX : CXT} {P : Program} {w : World} {K : PySem.W.Frag} {mg : Str → Option Value} {base : Heap} {k : Nat} {f : Addr} {name qual : Str} {params : Arguments} {body : List Stmt} {scope : Scope} {dV kV doc pm cdv ct oc : Value} {an od : Option Addr}
    {osl : Array (Option Value)} {N ps : List Str} {sp : Sp} (lk : K.lookup f = some ⟨oc, od, .func (PySem.W.fnOf name qual params body scope dV kV doc pm an cdv ct), osl⟩) (hcd : PySem.W.codeIn K cdv qual = true) (S : FnScope N ps scope)
    (len : ∀ vs H Q E, sp vs H Q E → vs.length = ps.length)
    (hbody : ∀ (A : Around) (outer : List Env) (s : Shared) (H : Hp) (vs : List V) (Q : VK) (E : XK), (gd = true → A.guards = some []) → Room k (A.deeper (envOfC qual scope s.heap.objs.size f cdv)) → sp vs H Q E →
      ∃ t, PSs (cxOf CX P w K mg base N qual scope f cdv A outer s H E) body t ∧ t { nx := fun _ H' => Q .non H', rt := Q } (L2.start N vs) H) :
    FnG gd P w K mg base CX (k + 1) f (PySem.W.fnOf name qual params body scope dV kV doc pm an cdv ct) ps sp := by
  refine ⟨len, fun A outer s H args us vs Q E hgd hr e0 hb r hsp => ?_⟩
  have hl := len _ _ _ _ hsp
  have KX : K.In s.heap := e0.mod.kin.keeps fun b o e => (e0.bs b o e).1
  have lim : s.heap.NoLimit := e0.mod.nolimit.keeps fun b o e => (e0.bs b o e).1
  have hkind : ∀ y ∈ ps.zip us, scope.names.lookup y.1 = some .local ∨ (scope.names.lookup y.1 = some .cell ∧ ((cellsFrom (s.heap.objs.size + 1) scope.names []).lookup y.1).isSome = true) := fun ⟨n, v⟩ hy => by
    rcases S.par n (List.of_mem_zip hy).1 with q | q
    · exact .inl q
    · exact .inr ⟨q, PySem.W.cellsFrom_some _ _ _ (.inl q)⟩
  refine codeAny_call_function hr.depth (KX _ _ lk) rfl S.co S.gen rfl (PySem.W.codeRec_of KX hcd) (hb _ _ _ _ ?_)
  refine wpAny_newFunctionEnv_cells S.kind hkind fun env he s1 x => ?_
  subst he
  refine ⟨lim.keeps x.toInCall.keep, codeAny_func ?_⟩
  obtain ⟨t, ht, hq⟩ := hbody A outer s H vs Q E hgd (hr.deeper _) hsp
  have I : Inv (cxOf CX P w K mg base N qual scope f cdv A outer s H E) [] (L2.start N vs) H s1 := inv_start S hr.hd e0 hl r x
  refine wpAny_mono (ht.run [] s1 (L2.start N vs) H _ I hq) (fun fl s' hs => ?_) fun e s' hs => hs
  have fin : ∀ {σ' : L2.St} {H' : Hp} {v : V} {u : Value}, Inv (cxOf CX P w K mg base N qual scope f cdv A outer s H E) [] σ' H' s' → RelV v u → Q v H' → CE outer P w H s Q u s' :=
    fun {σ' H' v u} J rv q => ⟨v, H', J.os, J.bare, J.base, J.hok, rv, q⟩
  cases fl with
  | ret u =>
    obtain ⟨v, σ', H', J, rv, q⟩ := hs
    exact fin J rv q
  | next =>
    obtain ⟨σ', H', J, q⟩ := hs
    exact fin (v := V.non) (u := Value.none) J rfl q
  | brk =>
    obtain ⟨_, _, _, q⟩ := hs
    exact False.elim q
  | cont =>
    obtain ⟨_, _, _, q⟩ := hs
    exact False.elim q
/-! ### a body -/
theorem replicate_get {α : Type} {n i : Nat} {x y : α} (h : (List.replicate n x)[i]? = some y) : y = x := by
  rw [List.getElem?_replicate] at h
  split at h
  · exact (Option.some.inj h).symm
  · cases h
theorem Entry.rel {K : PySem.W.Frag} {F H : Hp} {A : List Addr} {vs : List V} {as : List Sl} {io : List Cell} {N : List Str} (e : Entry K F H A vs as io) : Rel ⟨K, H, F, A⟩ (L2.start N vs) H F ⟨as ++ List.replicate (N.length - as.length) .no, io⟩ where
  sub := e.sub
  keep := fun a o h _ => .inl h
  f0 := fun _ _ => rfl
  len := by
    unfold L2.start
    rw [List.length_append, List.length_append, List.length_replicate, List.length_replicate, List.length_map, e.len]
  slot := fun i x h => by
    have h : (as ++ List.replicate (N.length - as.length) .no)[i]? = some x := h
    by_cases hi : i < as.length
    · rw [List.getElem?_append_left hi] at h
      obtain ⟨v, h1, h2⟩ := e.args i x h
      have hs : (L2.start N vs)[i]? = some (some v) := by
        unfold L2.start
        rw [List.getElem?_append_left (by rw [List.length_map, ← e.len]; exact hi), List.getElem?_map, h1]
        rfl
      cases x with
      | val d => exact ⟨v, hs, h2⟩
      | io j => obtain ⟨a, rfl, h3⟩ := h2; exact ⟨a, hs, h3⟩
      | no => trivial
      | own c => exact h2.elim
    · rw [List.getElem?_append_right (by omega)] at h
      rw [replicate_get h]
      trivial
  iol := e.iol
  io := e.io
  ap := fun i j a ⟨_, c, h⟩ _ => by
    have h : (as ++ List.replicate (N.length - as.length) .no)[i]? = some (.own c) := h
    by_cases hi : i < as.length
    · rw [List.getElem?_append_left hi] at h
      obtain ⟨v, _, h2⟩ := e.args i _ h
      exact h2.elim
    · rw [List.getElem?_append_right (by omega)] at h
      cases replicate_get h
  inn := e.inn
  nd := e.nd
  s0 := ⟨e.sub, fun p hp => ⟨e.tf0 p hp, by obtain ⟨ps, h, _⟩ := e.tabs p hp; show H p.1 ≠ none; rw [h]; exact fun z => nomatch z⟩⟩
  tabs := e.tabs
theorem Rel.after {K : PySem.W.Frag} {F H H' F' : Hp} {A : List Addr} {σ : L2.St} {s : S} (r : Rel ⟨K, H, F, A⟩ σ H' F' s) (u : Sub F F') : After K F H A s.io H' F' :=
  ⟨r.sub, u, r.keep, r.f0, r.iol, fun j a c h1 h2 => (r.io j a c h1 h2).2, r.tabs⟩
theorem Fun.g {P : Program} {w : World} {K : PySem.W.Frag} {mg : Str → Option Value} {base : Heap} {gd : Bool} {CX : CXT} {x qual : Str} {st : Stmt} {f : Addr} {fd : FuncData} {N ps : List Str} {k : Nat} {g : S → Out} (F : L2.Fun K x qual st f fd) (S : FnScope N ps (defScope st))
    (hbody : ∀ (cdv : Value) (A : Around) (outer : List Env) (s : Shared) (H : Hp) (E : XK) (C : Ct), (gd = true → (A.deeper (envOfC qual (defScope st) s.heap.objs.size f cdv)).guards = some []) → Room k (A.deeper (envOfC qual (defScope st) s.heap.objs.size f cdv)) → C.K = K →
      DB (cxOf CX P w K mg base N qual (defScope st) f cdv A outer s H E) C (fun c d _ H => E c d H) (defBody st) g) :
    FnG gd P w K mg base CX (k + 1) f fd ps (spD K ps.length (bodyFn N.length g)) := by
  obtain ⟨oc, od, kV, doc, pm, an, cdv, ct, osl, rfl, lk, hcd⟩ := F.ex
  refine fng_of lk hcd S (fun vs H Q E ⟨F, A, as, io, e, hl, _⟩ => by rw [← e.len, hl]) fun A outer s H vs Q E hgd hr ⟨F, Al, as, io, e, hl, q⟩ => ⟨_, hbody cdv A outer s H E ⟨K, H, F, Al⟩ hgd hr rfl, F, _, e.rel, ?_⟩
  unfold bodyFn at q
  cases h : g ⟨as ++ List.replicate (N.length - as.length) .no, io⟩ with
  | nx s' =>
    rw [h] at q
    exact fun σ' H' F' r u => q .non H' F' (r.after u) .non
  | rt rv s' =>
    rw [h] at q
    exact fun v σ' H' F' r u ret => q v H' F' (r.after u) (by cases rv <;> exact ret)
  | exc c fs s' =>
    rw [h] at q
    exact fun a σ' H' F' r u x => q a H' F' (r.after u) x
  | bk s' => rw [h] at q; exact q.elim
  | ct s' => rw [h] at q; exact q.elim
  | bad => rw [h] at q; exact q.elim
end DL
set_option maxHeartbeats 2000000
/-! DL13: calls of defs. -/
namespace DL
open PySem PySem.Spec PyProof.Rows L2
abbrev wx (E : XK) : WX := fun c d _ H => E c d H
/-! ### arguments: data, or a slot's own thing, to be changed -/
inductive AV where
  | val (d : D) | sl (i : Nat)
inductive AvAll (K : PySem.W.Frag) (σ : L2.St) (F : Hp) : List V → List AV → Prop
  | nil : AvAll K σ F [] []
  | val {v : V} {vs : List V} {d : D} {as : List AV} : Is K F v d → AvAll K σ F vs as → AvAll K σ F (v :: vs) (.val d :: as)
  | sl {a : Addr} {vs : List V} {i : Nat} {as : List AV} : σ[i]? = some (some (.ref a)) → AvAll K σ F vs as → AvAll K σ F (.ref a :: vs) (.sl i :: as)
theorem AvAll.up {K : PySem.W.Frag} {σ : L2.St} {F F' : Hp} (s : Sub F F') : ∀ {vs : List V} {as : List AV}, AvAll K σ F vs as → AvAll K σ F' vs as
  | _, _, .nil => .nil
  | _, _, .val h r => .val (h.up s) (r.up s)
  | _, _, .sl h r => .sl h (r.up s)
theorem AvAll.len {K : PySem.W.Frag} {σ : L2.St} {F : Hp} : ∀ {vs : List V} {as : List AV}, AvAll K σ F vs as → vs.length = as.length
  | _, _, .nil => rfl
  | _, _, .val _ r => by rw [List.length_cons, List.length_cons, AvAll.len r]
  | _, _, .sl _ r => by rw [List.length_cons, List.length_cons, AvAll.len r]
section
variable (C : Ct) (W : WX)
def tG (f : M (List AV)) : TA := fun σ H Q => ∃ F s, Rel C σ H F s ∧ Post C W σ F (f s) fun as _ H' F' => ∀ vs, AvAll C.K σ F' vs as → Q vs H'
/-- a datum, or a new thing of one's own -/
def tR (f : M RV) : TE := fun σ H Q => ∃ F s, Rel C σ H F s ∧ Post C W σ F (f s) fun rv s' H' F' => ∀ v, RetOk C F' H' v rv → (∀ a c, rv = .own c → v = .ref a → ∀ i, ¬ OwnAt σ s'.sl i a) → Q v H'
end
abbrev DG (X : Cx) (C : Ct) (W : WX) (es : List Expr) (f : M (List AV)) : Prop := PA X es (tG C W f)
abbrev DR (X : Cx) (C : Ct) (W : WX) (e : Expr) (f : M RV) : Prop := PE X e (tR C W f)
def gVal (f : M D) (fs : M (List AV)) : M (List AV) := mbind f fun d => mbind fs fun as => mret (.val d :: as)
def mcell (i : Nat) : M Cell := fun s => mopt (s.cell i) s
def gSl (i : Nat) (fs : M (List AV)) : M (List AV) := mbind (mcell i) fun _ => mbind fs fun as => mret (.sl i :: as)
def rD (f : M RV) : M D := mbind f fun rv => match rv with
  | .val d => mret d
  | .own c => mret c.d
def rO (f : M RV) : M Cell := mbind f fun rv => match rv with
  | .val _ => fun _ => .bad
  | .own c => mret c
section
variable {C : Ct} {W : WX} {X : Cx} {σ : L2.St} {H F H' F' : Hp} {s : S} {fa : M D} {a b e : Expr} {es : List Expr} {fs : M (List AV)} {fr : M RV} {pos p : Pos} {K : PySem.W.Frag}
theorem g_nil : DG X C W [] (mret []) := pa_imp pa_nil fun σ H Q ⟨F, s, r, q⟩ => q H F r (Sub.refl _) [] .nil
theorem g_val (ha : DE X C W a fa) (hr : DG X C W es fs) (hs : starEach (a :: es) X.env = (false, eval a X.env) :: starEach es X.env := by rfl) : DG X C W (a :: es) (gVal fa fs) := by
  refine pa_imp (pa_cons ha hr hs) fun σ H Q ⟨F, s, r, q⟩ => ⟨F, s, r, (Post.bind q).mono fun d s1 H1 F1 r1 u1 q1 x ix => ⟨F1, s1, r1, (Post.bind q1).mono fun ds s2 H2 F2 r2 u2 q2 xs ixs => ?_⟩⟩
  exact q2 H2 F2 r2 (Sub.refl _) _ (.val (ix.up u2) ixs)
theorem g_sl {i : Nat} (ha : PE X a (tVar i)) (hr : DG X C W es fs) (hs : starEach (a :: es) X.env = (false, eval a X.env) :: starEach es X.env := by rfl) : DG X C W (a :: es) (gSl i fs) := by
  refine pa_imp (pa_cons ha hr hs) fun σ H Q ⟨F, s, r, q⟩ => ?_
  obtain ⟨c, h, q0⟩ := post_mopt (show Post C W σ F (mopt (s.cell i) s) _ from Post.bind q) r
  · obtain ⟨a, e1, _⟩ := r.cell h
    refine ⟨.ref a, e1, F, s, r, (Post.bind (q0 H F (Ext.refl r.sub))).mono fun ds s2 H2 F2 r2 u2 q2 xs ixs => ?_⟩
    exact q2 H2 F2 r2 (Sub.refl _) _ (.sl e1 ixs)
theorem d_of_r (h : DR X C W e fr) : DE X C W e (rD fr) := by
  refine pe_imp h fun σ H Q ⟨F, s, r, q⟩ => ⟨F, s, r, (Post.bind q).mono fun rv s1 H1 F1 r1 u1 q1 v ret hno => ?_⟩
  cases rv with
  | val d => exact q1 H1 F1 r1 (Sub.refl _) v ret
  | own c =>
    obtain ⟨p, rfl, hF, h0, hc⟩ := ret
    have hp := hno p c rfl rfl
    obtain ⟨o, ho⟩ := hc.there
    have uf : Sub F1 (upd F1 p o) := fun b u e => by rw [upd_ne (ne_of_none e hF)]; exact e
    refine q1 H1 (upd F1 p o) ⟨fun b u e => ?_, r1.keep, fun b e => ?_, r1.len, fun j x e => ?_, r1.iol, fun j b c' e1 e2 => ⟨(r1.io j b c' e1 e2).1, (r1.io j b c' e1 e2).2.up uf fun _ z => z⟩, r1.ap, r1.inn, r1.nd, r1.s0, r1.tabs.up uf⟩ uf _ (hc.isd uf fun u e => by rw [upd_same]; rw [ho] at e; exact e)
    · by_cases q : b = p
      · subst q; rw [upd_same] at e; rw [ho]; exact e
      · rw [upd_ne q] at e; exact r1.sub _ _ e
    · rw [upd_ne fun z => e (by rw [z]; exact h0)]
      exact r1.f0 b e
    · have z := r1.slot j x e
      cases x with
      | no => trivial
      | val d => obtain ⟨v, z1, z2⟩ := z; exact ⟨v, z1, z2.up uf⟩
      | own c' =>
        obtain ⟨b, z1, z2, z3, z4⟩ := z
        have ne : b ≠ p := fun y => by
          subst y
          exact hp j ⟨z1, c', e⟩
        exact ⟨b, z1, by rw [upd_ne ne]; exact z2, z3, z4.up uf fun _ z => z⟩
      | io k => exact z
theorem o_of_r (h : DR X C W e fr) : DO X C W e (rO fr) := by
  refine pe_imp h fun σ H Q ⟨F, s, r, q⟩ => ⟨F, s, r, (Post.bind q).mono fun rv s1 H1 F1 r1 u1 q1 v ret hno => ?_⟩
  cases rv with
  | val d => exact q1.elim
  | own c =>
    obtain ⟨p, rfl, hF, h0, hc⟩ := ret
    exact q1 H1 F1 r1 (Sub.refl _) p (hno p c rfl rfl) h0 hF hc
/-! ### holes -/
structure RelH (C : Ct) (σ : L2.St) (H F : Hp) (s : S) (hs : List Addr) : Prop where
  sub : Sub F H
  keep : ∀ a o, C.H0 a = some o → a ∉ C.A → Kept o (H a)
  f0 : ∀ a, C.H0 a ≠ none → F a = C.F0 a
  len : s.sl.length = σ.length
  slot : ∀ (i : Nat) (x : Sl), s.sl[i]? = some x → match x with
    | .no => True
    | .val d => ∃ v, σ[i]? = some (some v) ∧ Is C.K F v d
    | .own c => ∃ a, σ[i]? = some (some (.ref a)) ∧ F a = none ∧ C.H0 a = none ∧ (a ∈ hs ∨ CellAt C.K F H a c)
    | .io j => ∃ a, σ[i]? = some (some (.ref a)) ∧ C.A[j]? = some a
  iol : s.io.length = C.A.length
  io : ∀ (j : Nat) (a : Addr) (c : Cell), C.A[j]? = some a → s.io[j]? = some c → C.F0 a = none ∧ (a ∈ hs ∨ CellAt C.K F H a c)
  ap : ∀ (i j : Nat) (a : Addr), OwnAt σ s.sl i a → OwnAt σ s.sl j a → i = j
  inn : ∀ a ∈ C.A, C.H0 a ≠ none
  nd : C.A.Nodup
  s0 : S0 C
  tabs : TabsF C.K F H
theorem RelH.done (r : RelH C σ H F s []) : Rel C σ H F s := by
  refine ⟨r.sub, r.keep, r.f0, r.len, fun i x e => ?_, r.iol, fun j a c h1 h2 => ⟨(r.io j a c h1 h2).1, (r.io j a c h1 h2).2.elim (fun z => absurd z (by simp)) id⟩, r.ap, r.inn, r.nd, r.s0, r.tabs⟩
  have z := r.slot i x e
  cases x with
  | own c => obtain ⟨a, h1, h2, h3, h4⟩ := z; exact ⟨a, h1, h2, h3, h4.elim (fun z => absurd z (by simp)) id⟩
  | _ => exact z
theorem RelH.fill {hs : List Addr} {i : Nat} {p : Addr} {c c' : Cell} (r : RelH C σ H F s (p :: hs)) (hi : s.cell i = some c) (hp : σ[i]? = some (some (.ref p))) (hc : CellAt C.K F H p c') : RelH C σ H F (s.setCell i c') hs := by
  unfold S.cell at hi
  unfold S.setCell
  cases h1 : s.sl[i]? with
  | none => rw [h1] at hi; cases hi
  | some x =>
    rw [h1] at hi
    cases x with
    | no => cases hi
    | val d => cases hi
    | own c0 =>
      obtain ⟨p0, e1, e2, e3, _⟩ := r.slot i _ h1
      rw [hp] at e1
      cases e1
      refine ⟨r.sub, r.keep, r.f0, by show (s.sl.set i _).length = _; rw [List.length_set]; exact r.len, fun j x e => ?_, r.iol, fun j a c h3 h4 => ?_, fun j k b ⟨z1, c1, z2⟩ ⟨z3, c3, z4⟩ => ?_, r.inn, r.nd, r.s0, r.tabs⟩
      · rcases set_get (show (s.sl.set i (.own c'))[j]? = some x from e) with ⟨rfl, rfl, hl⟩ | ⟨hj, e⟩
        · exact ⟨p, hp, e2, e3, .inr hc⟩
        · have z := r.slot j x e
          cases x with
          | own c1 =>
            obtain ⟨b, y1, y2, y3, y4⟩ := z
            refine ⟨b, y1, y2, y3, y4.imp (fun m => ?_) id⟩
            rcases List.mem_cons.mp m with m | m
            · exact absurd (r.ap j i p ⟨by rw [← m]; exact y1, c1, e⟩ ⟨hp, c0, h1⟩) hj
            · exact m
          | _ => exact z
      · obtain ⟨y1, y2⟩ := r.io j a c h3 h4
        refine ⟨y1, y2.imp (fun m => ?_) id⟩
        rcases List.mem_cons.mp m with m | m
        · exact absurd e3 (by rw [← m]; exact r.inn a (List.mem_of_getElem? h3))
        · exact m
      · have key : ∀ {j : Nat} {c1 : Cell}, (s.sl.set i (.own c'))[j]? = some (.own c1) → ∃ c, s.sl[j]? = some (.own c) := fun {j c1} e => by
          rcases set_get e with ⟨rfl, _, _⟩ | ⟨_, e⟩
          · exact ⟨c0, h1⟩
          · exact ⟨c1, e⟩
        exact r.ap j k b ⟨z1, key z2⟩ ⟨z3, key z4⟩
    | io k =>
      obtain ⟨p0, e1, e2⟩ := r.slot i _ h1
      rw [hp] at e1
      cases e1
      have hi : s.io[k]? = some c := hi
      refine ⟨r.sub, r.keep, r.f0, r.len, fun j x e => ?_, by show (s.io.set k c').length = _; rw [List.length_set]; exact r.iol, fun j a c1 h3 h4 => ?_, r.ap, r.inn, r.nd, r.s0, r.tabs⟩
      · have z := r.slot j x e
        cases x with
        | own c1 =>
          obtain ⟨b, y1, y2, y3, y4⟩ := z
          refine ⟨b, y1, y2, y3, y4.imp (fun m => ?_) id⟩
          rcases List.mem_cons.mp m with m | m
          · exact absurd y3 (by rw [m]; exact r.inn p (List.mem_of_getElem? e2))
          · exact m
        | _ => exact z
      · rcases set_get (show (s.io.set k c')[j]? = some c1 from h4) with ⟨rfl, rfl, hl⟩ | ⟨hj, h4⟩
        · rw [e2] at h3
          cases h3
          exact ⟨(r.io _ _ c e2 hi).1, .inr hc⟩
        · obtain ⟨y1, y2⟩ := r.io j a c1 h3 h4
          refine ⟨y1, y2.imp (fun m => ?_) id⟩
          rcases List.mem_cons.mp m with m | m
          · subst m
            exact absurd ((List.getElem?_inj (List.getElem?_eq_some_iff.mp h3).1 r.nd).mp (h3.trans e2.symm)) hj
          · exact m
/-! ### what is handed in to be changed -/
def gathA : Nat → List AV → List Sl
  | _, [] => []
  | k, .val d :: r => .val d :: gathA k r
  | k, .sl _ :: r => .io k :: gathA (k + 1) r
def gathI : List AV → List Nat
  | [] => []
  | .val _ :: r => gathI r
  | .sl i :: r => i :: gathI r
def cellsAt (s : S) : List Nat → Option (List Cell)
  | [] => some []
  | i :: r => (s.cell i).bind fun c => (cellsAt s r).map fun cs => c :: cs
def placeOf (s : S) (i : Nat) : Bool × Nat := match s.sl[i]? with
  | some (.io j) => (true, j)
  | _ => (false, i)
def notIn (p : Bool × Nat) (s : S) : List Nat → Bool
  | [] => true
  | i :: r => !(p == placeOf s i) && notIn p s r
/-- no thing twice -/
def apart (s : S) : List Nat → Bool
  | [] => true
  | i :: r => notIn (placeOf s i) s r && apart s r
def putAll (s : S) : List Nat → List Cell → S
  | i :: r, c :: cs => putAll (s.setCell i c) r cs
  | _, _ => s
/-- the addresses of the things -/
inductive Ads (σ : L2.St) : List Nat → List Addr → Prop
  | nil : Ads σ [] []
  | cons {i : Nat} {a : Addr} {is : List Nat} {A : List Addr} : σ[i]? = some (some (.ref a)) → Ads σ is A → Ads σ (i :: is) (a :: A)
theorem Ads.len : ∀ {is : List Nat} {A : List Addr}, Ads σ is A → is.length = A.length
  | _, _, .nil => rfl
  | _, _, .cons _ r => by rw [List.length_cons, List.length_cons, Ads.len r]
theorem avAll_ads : ∀ {vs : List V} {as : List AV}, AvAll K σ F vs as → ∃ A, Ads σ (gathI as) A ∧ ∀ (pre : List Addr) (i : Nat) (x : Sl), (gathA pre.length as)[i]? = some x → ∃ v, vs[i]? = some v ∧ ArgOk K F (pre ++ A) v x
  | _, _, .nil => ⟨[], .nil, fun _ _ _ h => by simp [gathA] at h⟩
  | _, _, .val h r => by
    obtain ⟨A, h1, h2⟩ := avAll_ads r
    refine ⟨A, h1, fun pre i x e => ?_⟩
    cases i with
    | zero => unfold gathA at e; simp at e; subst e; exact ⟨_, rfl, h⟩
    | succ i => unfold gathA at e; exact h2 pre i x (by simpa using e)
  | _, _, .sl (a := a) h r => by
    obtain ⟨A, h1, h2⟩ := avAll_ads r
    refine ⟨a :: A, .cons h h1, fun pre i x e => ?_⟩
    cases i with
    | zero => unfold gathA at e; simp at e; subst e; exact ⟨_, rfl, a, rfl, by simp⟩
    | succ i =>
      unfold gathA at e
      have := h2 (pre ++ [a]) i x (by rw [List.length_append]; simpa using e)
      rw [List.append_assoc] at this
      exact this
theorem cellsAt_len : ∀ {is : List Nat} {cs : List Cell}, cellsAt s is = some cs → cs.length = is.length
  | [], cs, h => by unfold cellsAt at h; cases h; rfl
  | i :: r, cs, h => by
    unfold cellsAt at h
    obtain ⟨c, _, h⟩ := Option.bind_eq_some_iff.mp h
    obtain ⟨cs', h3, rfl⟩ := Option.map_eq_some_iff.mp h
    rw [List.length_cons, List.length_cons, cellsAt_len h3]
/-- each is there, known to nobody -/
theorem cells_there (r : Rel C σ H F s) : ∀ {is : List Nat} {A : List Addr} {cs : List Cell}, Ads σ is A → cellsAt s is = some cs → (∀ (j : Nat) (a : Addr) (c : Cell), A[j]? = some a → cs[j]? = some c → F a = none ∧ CellAt C.K F H a c) ∧ ∀ a ∈ A, F a = none ∧ (C.H0 a = none ∨ a ∈ C.A) ∧ ∃ o, H a = some o
  | _, _, cs, .nil, h => ⟨fun _ _ _ e => by simp at e, fun _ z => by simp at z⟩
  | i :: is, p :: A, cs, .cons hp ha, h => by
    unfold cellsAt at h
    obtain ⟨c, hc, h⟩ := Option.bind_eq_some_iff.mp h
    obtain ⟨cs', h3, rfl⟩ := Option.map_eq_some_iff.mp h
    obtain ⟨k1, k2⟩ := cells_there r ha h3
    obtain ⟨a', e1, e2, e3, _⟩ := r.cell hc
    rw [hp] at e1
    cases e1
    refine ⟨fun j a c' h1 h2 => ?_, fun a m => ?_⟩
    · cases j with
      | zero => simp at h1 h2; subst h1 h2; exact ⟨e2, e3⟩
      | succ j => exact k1 j a c' (by simpa using h1) (by simpa using h2)
    · rcases List.mem_cons.mp m with rfl | m
      · refine ⟨e2, ?_, e3.there⟩
        unfold S.cell at hc
        split at hc
        · rename_i h1
          obtain ⟨b, z1, _, z3, _⟩ := r.slot i _ h1
          rw [hp] at z1; cases z1
          exact .inl z3
        · rename_i h1
          obtain ⟨b, z1, z2⟩ := r.slot i _ h1
          rw [hp] at z1; cases z1
          exact .inr (List.mem_of_getElem? z2)
        · cases hc
      · exact k2 a m
theorem place_addr (r : Rel C σ H F s) {i j : Nat} {a : Addr} {c c' : Cell} (hi : σ[i]? = some (some (.ref a))) (hj : σ[j]? = some (some (.ref a))) (ci : s.cell i = some c) (cj : s.cell j = some c') : placeOf s i = placeOf s j := by
  unfold S.cell at ci cj
  unfold placeOf
  cases h1 : s.sl[i]? with
  | none => rw [h1] at ci; cases ci
  | some x =>
    cases h2 : s.sl[j]? with
    | none => rw [h2] at cj; cases cj
    | some y =>
      rw [h1] at ci
      rw [h2] at cj
      cases x with
      | own c1 =>
        cases y with
        | own c2 => rw [r.ap i j a ⟨hi, c1, h1⟩ ⟨hj, c2, h2⟩]
        | io k =>
          obtain ⟨b, z1, _, z3, _⟩ := r.slot i _ h1
          obtain ⟨b', y1, y2⟩ := r.slot j _ h2
          rw [hi] at z1; cases z1
          rw [hj] at y1; cases y1
          exact absurd z3 (r.inn a (List.mem_of_getElem? y2))
        | _ => cases cj
      | io k =>
        cases y with
        | own c2 =>
          obtain ⟨b, z1, _, z3, _⟩ := r.slot j _ h2
          obtain ⟨b', y1, y2⟩ := r.slot i _ h1
          rw [hj] at z1; cases z1
          rw [hi] at y1; cases y1
          exact absurd z3 (r.inn a (List.mem_of_getElem? y2))
        | io k' =>
          obtain ⟨b, z1, z2⟩ := r.slot i _ h1
          obtain ⟨b', y1, y2⟩ := r.slot j _ h2
          rw [hi] at z1; cases z1
          rw [hj] at y1; cases y1
          rw [(List.getElem?_inj (List.getElem?_eq_some_iff.mp z2).1 r.nd).mp (z2.trans y2.symm)]
        | _ => cases cj
      | _ => cases ci
theorem ads_nodup (r : Rel C σ H F s) : ∀ {is : List Nat} {A : List Addr} {cs : List Cell}, Ads σ is A → cellsAt s is = some cs → apart s is = true → A.Nodup
  | _, _, _, .nil, _, _ => .nil
  | i :: is, p :: A, cs, .cons hp ha, h, hap => by
    unfold cellsAt at h
    obtain ⟨c, hc, h⟩ := Option.bind_eq_some_iff.mp h
    obtain ⟨cs', h3, rfl⟩ := Option.map_eq_some_iff.mp h
    unfold apart at hap
    rw [Bool.and_eq_true] at hap
    refine List.nodup_cons.mpr ⟨?_, ads_nodup r ha h3 hap.2⟩
    have key : ∀ {is : List Nat} {A : List Addr} {cs : List Cell}, Ads σ is A → cellsAt s is = some cs → notIn (placeOf s i) s is = true → p ∉ A := fun {is A cs} ha => by
      clear h h3 hap
      induction ha generalizing cs with
      | nil => intro _ _ m; simp at m
      | cons hq ha ih =>
        intro h hn m
        unfold cellsAt at h
        obtain ⟨c2, hc2, h⟩ := Option.bind_eq_some_iff.mp h
        obtain ⟨cs2, h4, rfl⟩ := Option.map_eq_some_iff.mp h
        unfold notIn at hn
        rw [Bool.and_eq_true] at hn
        rcases List.mem_cons.mp m with rfl | m
        · rw [place_addr r hp hq hc hc2] at hn
          simp at hn
        · exact ih h4 hn.2 m
    exact key ha h3 hap.1
theorem Rel.holes (r : Rel C σ H F s) {A : List Addr} {io : List Cell} (hA : ∀ a ∈ A, F a = none ∧ (C.H0 a = none ∨ a ∈ C.A) ∧ ∃ o, H a = some o) (f : After C.K F H A io H' F') : RelH C σ H' F' s A := by
  have there : ∀ a, C.H0 a ≠ none → H a ≠ none := fun a h => by
    cases q : C.H0 a with
    | none => exact absurd q h
    | some o =>
      by_cases m : a ∈ C.A
      · obtain ⟨j, hj⟩ := List.getElem?_of_mem m
        cases z : s.io[j]? with
        | none =>
          have l1 := List.getElem?_eq_none_iff.mp z
          have l2 : j < C.A.length := (List.getElem?_eq_some_iff.mp hj).1
          rw [r.iol] at l1
          omega
        | some c =>
          obtain ⟨o, ho⟩ := (r.io j a c hj z).2.there
          rw [ho]; exact fun z => nomatch z
      · exact (r.keep a o q m).ne
  have up : ∀ {a : Addr} {c : Cell}, CellAt C.K F H a c → a ∈ A ∨ CellAt C.K F' H' a c := fun {a c} h => by
    by_cases m : a ∈ A
    · exact .inl m
    · exact .inr (h.upK f.f fun o e => f.keep a o e m)
  refine ⟨f.sub, fun a o e m => (r.keep a o e m).trans fun u hu => f.keep a u hu fun z => ?_, fun a e => by rw [f.o a (there a e)]; exact r.f0 a e, r.len, fun i x e => ?_, r.iol, fun j a c h1 h2 => ⟨(r.io j a c h1 h2).1, up (r.io j a c h1 h2).2⟩, r.ap, r.inn, r.nd, r.s0, f.tabs⟩
  · rcases (hA a z).2.1 with y | y
    · rw [y] at e; cases e
    · exact m y
  · have z := r.slot i x e
    cases x with
    | no => trivial
    | val d => obtain ⟨v, z1, z2⟩ := z; exact ⟨v, z1, z2.up f.f⟩
    | own c =>
      obtain ⟨a, z1, z2, z3, z4⟩ := z
      obtain ⟨o, ho⟩ := z4.there
      exact ⟨a, z1, by rw [f.o a (by rw [ho]; exact fun z => nomatch z)]; exact z2, z3, up z4⟩
    | io k => exact z
theorem setCell_cell {i j : Nat} {c c' : Cell} (h : s.cell j = some c) : ∃ c2, (s.setCell i c').cell j = some c2 := by
  unfold S.setCell
  unfold S.cell at h ⊢
  cases h1 : s.sl[i]? with
  | none =>
    refine ⟨c, ?_⟩
    show (match (s.sl.set i (.own c'))[j]? with | some (.own c) => some c | some (.io k) => s.io[k]? | _ => none) = _
    rw [List.set_eq_of_length_le (List.getElem?_eq_none_iff.mp h1)]
    exact h
  | some x =>
    have own : ∃ c2, (match (s.sl.set i (.own c'))[j]? with | some (.own c) => some c | some (.io k) => s.io[k]? | _ => none) = some c2 := by
      by_cases e : i = j
      · subst e
        rw [List.getElem?_set_self (List.getElem?_eq_some_iff.mp h1).1]
        exact ⟨c', rfl⟩
      · rw [List.getElem?_set_ne e]
        exact ⟨c, h⟩
    cases x with
    | io k =>
      show ∃ c2, (match s.sl[j]? with | some (.own c) => some c | some (.io k') => (s.io.set k c')[k']? | _ => none) = some c2
      cases h2 : s.sl[j]? with
      | none => rw [h2] at h; cases h
      | some y =>
        rw [h2] at h
        cases y with
        | own c1 => exact ⟨c1, rfl⟩
        | io k' =>
          have h : s.io[k']? = some c := h
          show ∃ c2, (s.io.set k c')[k']? = some c2
          by_cases e : k = k'
          · subst e
            rw [List.getElem?_set_self (List.getElem?_eq_some_iff.mp h).1]
            exact ⟨c', rfl⟩
          · rw [List.getElem?_set_ne e]; exact ⟨c, h⟩
        | _ => cases h
    | _ => exact own
theorem setCell_own {i j : Nat} {c' c2 : Cell} {c : Cell} (hi : s.cell i = some c) (h : (s.setCell i c').sl[j]? = some (.own c2)) : ∃ c3, s.sl[j]? = some (.own c3) := by
  unfold S.setCell at h
  unfold S.cell at hi
  cases h1 : s.sl[i]? with
  | none => rw [h1] at hi; cases hi
  | some x =>
    rw [h1] at h hi
    cases x with
    | io k => exact ⟨c2, h⟩
    | own c4 =>
      rcases set_get (show (s.sl.set i (.own c'))[j]? = some (.own c2) from h) with ⟨rfl, _, _⟩ | ⟨_, e⟩
      · exact ⟨c4, h1⟩
      · exact ⟨c2, e⟩
    | _ => cases hi
theorem RelH.all : ∀ {is : List Nat} {A : List Addr} {cs cs' : List Cell} {s : S}, RelH C σ H F s A → Ads σ is A → (∀ i ∈ is, ∃ c, s.cell i = some c) → cs'.length = A.length → (∀ (j : Nat) (a : Addr) (c : Cell), A[j]? = some a → cs'[j]? = some c → CellAt C.K F H a c) →
    Rel C σ H F (putAll s is cs') ∧ ∀ (j : Nat) (c : Cell), (putAll s is cs').sl[j]? = some (Sl.own c) → ∃ c' : Cell, s.sl[j]? = some (Sl.own c')
  | _, _, cs, cs', s, r, .nil, _, hl, _ => by
    cases cs' with
    | cons _ _ => simp at hl
    | nil => exact ⟨r.done, fun j c h => ⟨c, h⟩⟩
  | i :: is, p :: A, cs, cs', s, r, .cons hp ha, hc, hl, hio => by
    cases cs' with
    | nil => simp at hl
    | cons c' cs' =>
      obtain ⟨c0, h0⟩ := hc i (by simp)
      have r2 := r.fill h0 hp (hio 0 p c' rfl rfl)
      obtain ⟨k1, k2⟩ := RelH.all (cs := []) (cs' := cs') r2 ha (fun j m => by
        obtain ⟨c, h⟩ := hc j (List.mem_cons_of_mem _ m)
        exact setCell_cell h) (by simpa using hl) (fun j a c h1 h2 => hio (j + 1) a c (by simpa using h1) (by simpa using h2))
      exact ⟨k1, fun j c h => by
        obtain ⟨c1, h1⟩ := k2 j c h
        exact setCell_own h0 h1⟩
theorem cellsAt_mem : ∀ {is : List Nat} {cs : List Cell}, cellsAt s is = some cs → ∀ i ∈ is, ∃ c, s.cell i = some c
  | [], _, _, i, m => by simp at m
  | j :: is, cs, h, i, m => by
    unfold cellsAt at h
    obtain ⟨c, hc, h⟩ := Option.bind_eq_some_iff.mp h
    obtain ⟨cs', h, _⟩ := Option.map_eq_some_iff.mp h
    rcases List.mem_cons.mp m with rfl | m
    · exact ⟨c, hc⟩
    · exact cellsAt_mem h i m
/-- the call itself: r of the arguments; what was handed in is as r says -/
def runFn (r : Fn) (dds : List D) (as : List AV) : M RV := fun s => match cellsAt s (gathI as) with
  | some cs => if apart s (gathI as) = true then (match r (gathA 0 as ++ dds.map .val) cs with
    | .rt v io => .ok v (putAll s (gathI as) io)
    | .exc c fs io => .exc c fs (putAll s (gathI as) io)
    | .bad => .bad) else .bad
  | none => .bad
theorem run_sp {np : Nat} {r : Fn} {dds : List D} {dvs : List V} {as : List AV} {vs : List V} {Q : VK} {E : XK} (hd : ∀ F, IsAll C.K F dvs dds) (hr : Rel C σ H F s) (hv : AvAll C.K σ F vs as) (hn : (vs ++ dvs).length = np)
    (q : Post C (wx E) σ F (runFn r dds as s) fun (rv : RV) s' H' F' => ∀ v, RetOk C F' H' v rv → (∀ a c, rv = .own c → v = .ref a → ∀ i, ¬ OwnAt σ s'.sl i a) → Q v H') : spD C.K np r (vs ++ dvs) H Q E := by
  unfold runFn at q
  cases hc : cellsAt s (gathI as) with
  | none => rw [hc] at q; exact q.elim
  | some cs =>
    rw [hc] at q
    by_cases hap : apart s (gathI as) = true
    · have q : Post C (wx E) σ F (if apart s (gathI as) = true then (match r (gathA 0 as ++ dds.map .val) cs with
        | .rt v io => .ok v (putAll s (gathI as) io)
        | .exc c fs io => .exc c fs (putAll s (gathI as) io)
        | .bad => .bad) else .bad) _ := q
      rw [if_pos hap] at q
      obtain ⟨A, hA, hargs⟩ := avAll_ads hv
      obtain ⟨k1, k2⟩ := cells_there hr hA hc
      have hAd := ads_nodup hr hA hc hap
      have hlen : (gathA 0 as).length = vs.length := by
        rw [hv.len]
        have : ∀ (as : List AV) (k : Nat), (gathA k as).length = as.length := by
          intro as
          induction as with
          | nil => intro k; rfl
          | cons x r ih => intro k; cases x <;> (unfold gathA; rw [List.length_cons, List.length_cons, ih])
        exact this as 0
      refine ⟨F, A, gathA 0 as ++ dds.map .val, cs, ⟨hr.sub, hAd, fun a m => ?_, by rw [cellsAt_len hc, hA.len], k1, ?_, fun i x e => ?_, hr.tabs, hr.tf0⟩, ?_, ?_⟩
      · obtain ⟨_, _, o, ho⟩ := k2 a m
        rw [ho]; exact fun z => nomatch z
      · rw [List.length_append, List.length_append, hlen, List.length_map, (hd F).len]
      · by_cases hi : i < (gathA 0 as).length
        · rw [List.getElem?_append_left hi] at e
          obtain ⟨v, h1, h2⟩ := hargs [] i x e
          exact ⟨v, by rw [List.getElem?_append_left (by rw [← hlen]; exact hi)]; exact h1, h2⟩
        · rw [List.getElem?_append_right (by omega), List.getElem?_map] at e
          obtain ⟨d, e1, rfl⟩ := Option.map_eq_some_iff.mp e
          obtain ⟨v, h1, h2⟩ := (hd F).get e1
          exact ⟨v, by rw [List.getElem?_append_right (by omega), ← hlen]; exact h1, h2⟩
      · rw [List.length_append, List.length_map, hlen, ← hn, List.length_append, (hd F).len]
      · cases hf : r (gathA 0 as ++ dds.map .val) cs with
        | bad => rw [hf] at q; exact q.elim
        | rt rv io =>
          rw [hf] at q
          intro v H' F' af ret
          obtain ⟨r2, own2⟩ := RelH.all (cs := cs) (hr.holes k2 af) hA (cellsAt_mem hc) af.iol af.io
          refine q H' F' r2 af.f v ?_ fun a c e1 e2 i ⟨z1, c1, z2⟩ => ?_
          · cases rv with
            | val d => exact ret
            | own c =>
              obtain ⟨a, e1, e2, e3, e4⟩ := ret
              exact ⟨a, e1, e2, hr.newH e3, e4⟩
          · subst e1 e2
            obtain ⟨a', e1, e2, e3, e4⟩ := ret
            cases e1
            obtain ⟨c', z3⟩ := own2 i c1 z2
            exact hr.newO e3 i ⟨z1, c', z3⟩
        | exc c fs io =>
          rw [hf] at q
          intro a H' F' af x
          obtain ⟨r2, own2⟩ := RelH.all (cs := cs) (hr.holes k2 af) hA (cellsAt_mem hc) af.iol af.io
          exact q a H' F' r2 af.f x
    · have q : Post C (wx E) σ F (if apart s (gathI as) = true then (match r (gathA 0 as ++ dds.map .val) cs with
        | .rt v io => .ok v (putAll s (gathI as) io)
        | .exc c fs io => .exc c fs (putAll s (gathI as) io)
        | .bad => .bad) else .bad) _ := q
      rw [if_neg hap] at q
      exact q.elim
/-! ### f(..) -/
def mCall (np : Nat) (r : Fn) (dds : List D) (fs : M (List AV)) : M RV := mbind fs fun as => if as.length + dds.length = np then runFn r dds as else fun _ => .bad
theorem run_fng {gd : Bool} {CX : CXT} {k : Nat} {f : Addr} {fd : FuncData} {ps : List Str} {sp : Sp} {E : XK} {dvs : List V} {ds : List Value} {pins : List (Addr × Obj)} {Q : VK} {us : List Value} {vs : List V} {s : Shared} (F : FnG gd X.prog X.w X.K X.mg X.base CX k f fd ps sp) (hgd : gd = true → X.A.guards = some []) (hr : Room k X.A) (hb : Binds X.K fd ps ds) (hd : Vals dvs ds) (hx : Passes CX X E)
    (I : Inv X pins σ H s) (r : Vals vs us) (h : sp (vs ++ dvs) H Q E) : wpAny (model X.prog X.w) X.A (call (.ref f) us) (EP X pins σ Q) X.xe s := by
  have r2 : Vals (vs ++ dvs) (us ++ ds) := r.append hd
  have hl : (us ++ ds).length = ps.length := by rw [← r2.length]; exact F.len _ _ _ _ h
  refine wpAny_call (codeAny_mono (F.run X.A X.stack s H ⟨us, []⟩ (us ++ ds) (vs ++ dvs) Q E hgd hr I.env0 (hb s us I.kIn hl) r2 h) fun r s' hq => ?_)
  cases r with
  | error e => exact hx pins σ H s e s' I hq
  | ok fl =>
    cases fl with
    | ret u => exact I.after hq
    | next => exact False.elim hq
    | brk => exact False.elim hq
    | cont => exact False.elim hq
/-- a def that may be called by its name -/
structure CallOk (gd : Bool) (P : Program) (w : World) (K : PySem.W.Frag) (mg : Str → Option Value) (base : Heap) (k : Nat) (x : Str) (np : Nat) (dds : List D) (r : Fn) : Prop where
  ex : ∃ (f : Addr) (fd : FuncData) (ps : List Str) (ds : List Value) (dvs : List V), mg x = some (.ref f) ∧ PySem.W.keepIn K (.ref f) = true ∧ Binds K fd ps ds ∧ Vals dvs ds ∧ (∀ F, IsAll K F dvs dds) ∧ ps.length = np ∧ FnG gd P w K mg base (L2.CX P w) k f fd ps (spD K np r)
theorem r_call {gd : Bool} {k : Nat} {x : Str} {np : Nat} {dds : List D} {r : Fn} {E : XK} {p pos : Pos} (hK : C.K = X.K) (F : CallOk gd X.prog X.w X.K X.mg X.base k x np dds r) (hgd : gd = true → X.A.guards = some []) (hr : Room k X.A) (hg : Gl X x) (hx : Passes (L2.CX X.prog X.w) X E)
    (ha : DG X C (wx E) (e :: es) fs) (hdb : (x == ("__debug__" : Str)) = false := by decide) (he : starEach (e :: es) X.env = (false, eval e X.env) :: starEach es X.env := by rfl) (hpl : (backTo pos (starEach es X.env)).any (·.1) = false := by rfl) :
    DR X C (wx E) (.Call (.Name x p) (e :: es) [] pos) (mCall np r dds fs) := by
  obtain ⟨f, fd, ps, ds, dvs, hm, hk, hb, hd, hdd, hps, F⟩ := F.ex
  refine ⟨fun pins s σ H Q I h => ?_⟩
  obtain ⟨F0, s0, r0, q0⟩ := h
  refine wpAny_Call_Name_kw (ld_glob I hg hm ?_ hdb)
  refine PySem.W.callWith_K (h₀ := X.base) I.ok.mod.kin hk (thn (ha.run pos pins s σ H (fun vs H1 => spD X.K np r (vs ++ dvs) H1 Q E) I ⟨F0, s0, r0, (Post.bind q0).mono fun as s1 H1 F1 r1 u1 q1 vs hv => ?_⟩) fun us s1 ⟨vs, H1, I1, r, q⟩ => ⟨I1.kIn, ?_⟩) he hpl
  · rw [← hK]
    by_cases hl : as.length + dds.length = np
    · rw [if_pos hl] at q1
      exact run_sp (fun F => by rw [hK]; exact hdd F) r1 hv (by rw [List.length_append, hv.len, (hdd F1).len]; exact hl) q1
    · rw [if_neg hl] at q1
      exact q1.elim
  · exact run_fng F hgd hr hb hd hx I1 r q
end
end DL
set_option maxHeartbeats 2000000
/-! DL14: assignments. -/
namespace DL
open PySem PySem.Spec PyProof.Rows L2
/-- a value and things of one's own, side by side -/
inductive RvAll (C : Ct) (σ : L2.St) (F H : Hp) (sl : List Sl) : List V → List RV → List Addr → Prop
  | nil : RvAll C σ F H sl [] [] []
  | val {v : V} {vs : List V} {d : D} {rs : List RV} {A : List Addr} : Is C.K F v d → RvAll C σ F H sl vs rs A → RvAll C σ F H sl (v :: vs) (.val d :: rs) A
  | own {a : Addr} {vs : List V} {c : Cell} {rs : List RV} {A : List Addr} : F a = none → C.H0 a = none → CellAt C.K F H a c → (∀ i, ¬ OwnAt σ sl i a) → a ∉ A → RvAll C σ F H sl vs rs A → RvAll C σ F H sl (.ref a :: vs) (.own c :: rs) (a :: A)
section
variable (C : Ct) (W : WX)
def tRs (f : M (List RV)) : TA := fun σ H Q => ∃ F s, Rel C σ H F s ∧ Post C W σ F (f s) fun rs s' H' F' => ∀ vs A, RvAll C σ F' H' s'.sl vs rs A → Q vs H'
end
abbrev DRs (X : Cx) (C : Ct) (W : WX) (es : List Expr) (f : M (List RV)) : Prop := PA X es (tRs C W f)
def tRsx (K : PySem.W.Frag) (W : WX) (f : M (List RV)) : TA := fun σ H Q => ∃ C' : Ct, C'.K = K ∧ tRs C' W f σ H Q
def rsVal (f : M D) (fs : M (List RV)) : M (List RV) := mbind f fun d => mbind fs fun rs => mret (.val d :: rs)
def rsOwn (fo : M Cell) (fs : M (List RV)) : M (List RV) := mbind fo fun c s1 => match fs (s1.more c) with
  | .ok rs s2 => (match s2.top with
    | some c' => if ioLt s1.io.length s2.sl = true then .ok (.own c' :: rs) s2.less else .bad
    | none => .bad)
  | _ => .bad
def putRs : List Nat → List RV → S → Option S
  | [], [], s => some s
  | i :: is, .val d :: rs, s => putRs is rs (s.put i (.val d))
  | i :: is, .own c :: rs, s => putRs is rs (s.put i (.own c))
  | _, _, _ => none
def putσ : List Nat → List V → L2.St → L2.St
  | i :: is, v :: vs, σ => putσ is vs (σ.set i (some v))
  | _, _, σ => σ
section
variable {C : Ct} {W : WX} {X : Cx} {σ : L2.St} {H F H' F' : Hp} {s : S} {fa fb : M D} {fo : M Cell} {a b c e tg : Expr} {es : List Expr} {fs : M (List RV)} {pos p apos : Pos} {K : PySem.W.Frag} {x : Str}
theorem Rel.carry (r : Rel C σ H F s) {a : Addr} {c : Cell} (nF : F a = none) (n0 : C.H0 a = none) (hc : CellAt C.K F H a c) (nO : ∀ i, ¬ OwnAt σ s.sl i a) : Rel (C.more a) σ H F (s.more c) := by
  have nF0 : C.F0 a = none := by
    cases e : C.F0 a with
    | none => rfl
    | some o => rw [r.s0.1 a o e] at n0; cases n0
  have hA : a ∉ C.A := fun m => r.inn a m n0
  refine ⟨r.sub, fun b u e m => ?_, fun b e => ?_, r.len, fun i x e => ?_, ?_, fun j b c e1 e2 => ?_, r.ap, fun b m => ?_, ?_, ⟨fun b u e => ?_, fun p hp => ⟨(r.s0.2 p hp).1, ?_⟩⟩, r.tabs⟩
  · have m : b ∉ C.A ++ [a] := m
    have ne : b ≠ a := fun z => m (by rw [z]; simp)
    have e : upd C.H0 a (.lst []) b = some u := e
    rw [upd_ne ne] at e
    exact r.keep b u e fun z => m (List.mem_append_left _ z)
  · show F b = C.F0 b
    have e : upd C.H0 a (.lst []) b ≠ none := e
    by_cases z : b = a
    · rw [z, nF, nF0]
    · rw [upd_ne z] at e; exact r.f0 b e
  · have z := r.slot i x e
    cases x with
    | no => trivial
    | val d => exact z
    | own c =>
      obtain ⟨b, z1, z2, z3, z4⟩ := z
      have ne : b ≠ a := fun w => nO i ⟨by rw [← w]; exact z1, c, e⟩
      exact ⟨b, z1, z2, by show upd C.H0 a _ b = none; rw [upd_ne ne]; exact z3, z4⟩
    | io j =>
      obtain ⟨b, z1, z2⟩ := z
      exact ⟨b, z1, by show (C.A ++ [a])[j]? = _; rw [List.getElem?_append_left (List.getElem?_eq_some_iff.mp z2).1]; exact z2⟩
  · show (s.io ++ [_]).length = (C.A ++ [a]).length
    rw [List.length_append, List.length_append, r.iol]; rfl
  · have e1 : (C.A ++ [a])[j]? = some b := e1
    have e2 : (s.io ++ [_])[j]? = some c := e2
    by_cases hj : j < C.A.length
    · rw [List.getElem?_append_left hj] at e1
      rw [List.getElem?_append_left (by rw [r.iol]; exact hj)] at e2
      exact r.io j b c e1 e2
    · have hj : C.A.length ≤ j := by omega
      rw [List.getElem?_append_right hj] at e1
      rw [List.getElem?_append_right (by rw [r.iol]; exact hj), r.iol] at e2
      have hz : j - C.A.length = 0 := by
        cases q : j - C.A.length with
        | zero => rfl
        | succ k => rw [q] at e1; simp at e1
      rw [hz] at e1 e2
      cases e1
      cases e2
      exact ⟨nF0, hc⟩
  · show upd C.H0 a _ b ≠ none
    rcases List.mem_append.mp m with z | z
    · rw [upd_ne fun w => hA (by rw [← w]; exact z)]; exact r.inn b z
    · have z : b = a := by simpa using z
      rw [z, upd_same]; exact fun w => nomatch w
  · show (C.A ++ [a]).Nodup
    rw [List.nodup_append]
    exact ⟨r.nd, by simp, fun x hx y hy => by
      have hy : y = a := by simpa using hy
      rw [hy]; exact fun w => hA (by rw [← w]; exact hx)⟩
  · show upd C.H0 a _ b = some u
    have e : C.F0 b = some u := e
    rw [upd_ne fun w => by rw [w, nF0] at e; cases e]
    exact r.s0.1 b u e
  · show upd C.H0 a _ p.1 ≠ none
    rw [upd_ne fun w => (r.s0.2 p hp).2 (by rw [w]; exact n0)]
    exact (r.s0.2 p hp).2
theorem rs_x {W : WX} (h : ∀ C' : Ct, C'.K = K → DRs X C' W es fs) : PA X es (tRsx K W fs) := ⟨fun pos pins s σ H Q I ⟨C', e, q⟩ => (h C' e).run pos pins s σ H Q I q⟩
theorem rs_nil : DRs X C W [] (mret []) := pa_imp pa_nil fun σ H Q ⟨F, s, r, q⟩ => q H F r (Sub.refl _) [] [] .nil
theorem rs_val (ha : DE X C W a fa) (hr : DRs X C W es fs) (hs : starEach (a :: es) X.env = (false, eval a X.env) :: starEach es X.env := by rfl) : DRs X C W (a :: es) (rsVal fa fs) := by
  refine pa_imp (pa_cons ha hr hs) fun σ H Q ⟨F, s, r, q⟩ => ⟨F, s, r, (Post.bind q).mono fun d s1 H1 F1 r1 u1 q1 x ix => ⟨F1, s1, r1, (Post.bind q1).mono fun ds s2 H2 F2 r2 u2 q2 xs A ixs => ?_⟩⟩
  exact q2 H2 F2 r2 (Sub.refl _) _ A (.val (ix.up u2) ixs)
theorem RvAll.less {a : Addr} (n0 : C.H0 a = none) {sl : List Sl} : ∀ {vs : List V} {rs : List RV} {A : List Addr}, RvAll (C.more a) σ F H sl vs rs A → RvAll C σ F H sl vs rs A ∧ a ∉ A
  | _, _, _, .nil => ⟨.nil, by simp⟩
  | _, _, _, .val h r => let ⟨k1, k2⟩ := RvAll.less n0 r; ⟨.val h k1, k2⟩
  | _, _, _, .own (a := b) h1 h2 h3 h4 h5 r => by
    obtain ⟨k1, k2⟩ := RvAll.less n0 r
    have h2 : upd C.H0 a (.lst []) b = none := h2
    have ne : a ≠ b := fun z => by rw [z, upd_same] at h2; cases h2
    rw [upd_ne (Ne.symm ne)] at h2
    exact ⟨.own h1 h2 h3 h4 h5 k1, by simp only [List.mem_cons, not_or]; exact ⟨ne, k2⟩⟩
theorem rs_own (hK : C.K = X.K) (ha : DO X C W a fo) (hr : ∀ C' : Ct, C'.K = X.K → DRs X C' W es fs) (hs : starEach (a :: es) X.env = (false, eval a X.env) :: starEach es X.env := by rfl) : DRs X C W (a :: es) (rsOwn fo fs) := by
  refine pa_imp (pa_cons ha (rs_x hr) hs) fun σ H Q ⟨F, s, r, q⟩ => ⟨F, s, r, (Post.bind q).mono fun c s1 H1 F1 r1 u1 q1 p hp h0 hF hc => ⟨C.more p, hK, F1, _, r1.carry hF h0 hc hp, ?_⟩⟩
  cases h : fs (s1.more c) with
  | bad => rw [h] at q1; exact q1.elim
  | exc c' fs' s2 => rw [h] at q1; exact q1.elim
  | ok rs s2 =>
    rw [h] at q1
    intro H2 F2 r2 u2 vs A rv
    have q1 : Post C W σ F1 (match s2.top with
      | some c' => if ioLt s1.io.length s2.sl = true then .ok (.own c' :: rs) s2.less else .bad
      | none => .bad) _ := q1
    cases h2 : s2.top with
    | none => rw [h2] at q1; exact q1.elim
    | some c' =>
      rw [h2] at q1
      have q1 : Post C W σ F1 (if ioLt s1.io.length s2.sl = true then .ok (.own c' :: rs) s2.less else .bad) _ := q1
      by_cases hi : ioLt s1.io.length s2.sl = true
      · rw [if_pos hi] at q1
        obtain ⟨rl, nO⟩ := r2.less h0 (by rw [← r1.iol]; exact hi) r1.nd r1.inn r1.s0
        obtain ⟨nF, hc2, _⟩ := r2.top h2
        obtain ⟨k1, k2⟩ := RvAll.less h0 rv
        exact q1 H2 F2 rl u2 _ _ (.own nF h0 hc2 nO k2 k1)
      · rw [if_neg hi] at q1; exact q1.elim
theorem putRs_rel : ∀ {is : List Nat} {vs : List V} {rs : List RV} {A : List Addr} {σ : L2.St} {s s' : S}, Rel C σ H F s → RvAll C σ F H s.sl vs rs A → putRs is rs s = some s' → Rel C (putσ is vs σ) H F s' ∧ is.length = vs.length
  | [], _, _, _, σ, s, s', r, .nil, e => by unfold putRs at e; cases e; exact ⟨r, rfl⟩
  | _ :: _, _, _, _, σ, s, s', r, .nil, e => by unfold putRs at e; cases e
  | [], _, _, _, σ, s, s', r, .val _ _, e => by unfold putRs at e; cases e
  | [], _, _, _, σ, s, s', r, .own .., e => by unfold putRs at e; cases e
  | i :: is, _, _, _, σ, s, s', r, .val (v := v) (d := d) h rr, e => by
    unfold putRs at e
    have key : ∀ {vs : List V} {rs : List RV} {A : List Addr}, RvAll C σ F H s.sl vs rs A → RvAll C (σ.set i (some v)) F H (s.put i (.val d)).sl vs rs A := fun {vs rs A} rr => by
      induction rr with
      | nil => exact .nil
      | val h _ ih => exact .val h ih
      | own h1 h2 h3 h4 h5 _ ih =>
        refine .own h1 h2 h3 (fun j ⟨z1, c, z2⟩ => ?_) h5 ih
        rcases set_get (show (s.sl.set i (.val d))[j]? = some (.own c) from z2) with ⟨_, z, _⟩ | ⟨hj, z2⟩
        · cases z
        · rw [List.getElem?_set_ne (Ne.symm hj)] at z1
          exact h4 j ⟨z1, c, z2⟩
    obtain ⟨k1, k2⟩ := putRs_rel (r.putV h) (key rr) e
    exact ⟨k1, by rw [List.length_cons, List.length_cons, k2]⟩
  | i :: is, _, _, _, σ, s, s', r, .own (a := a) (c := c) (A := A) h1 h2 h3 h4 h5 rr, e => by
    unfold putRs at e
    have key : ∀ {vs : List V} {rs : List RV} {A : List Addr}, RvAll C σ F H s.sl vs rs A → a ∉ A → RvAll C (σ.set i (some (.ref a))) F H (s.put i (.own c)).sl vs rs A := fun {vs rs A} rr hn => by
      induction rr with
      | nil => exact .nil
      | val h _ ih => exact .val h (ih hn)
      | own h1 h2 h3 h4 h5 _ ih =>
        simp only [List.mem_cons, not_or] at hn
        refine .own h1 h2 h3 (fun j ⟨z1, c', z2⟩ => ?_) h5 (ih hn.2)
        rcases set_get (show (s.sl.set i (.own c))[j]? = some (.own c') from z2) with ⟨rfl, z, hl⟩ | ⟨hj, z2⟩
        · rw [List.getElem?_set_self (by rw [← r.len]; exact hl)] at z1
          cases z1
          exact hn.1 rfl
        · rw [List.getElem?_set_ne (Ne.symm hj)] at z1
          exact h4 j ⟨z1, c', z2⟩
    obtain ⟨k1, k2⟩ := putRs_rel (r.putO h4 h2 h1 h3) (key rr h5) e
    exact ⟨k1, by rw [List.length_cons, List.length_cons, k2]⟩
def sPar (is : List Nat) (fs : M (List RV)) : S → Out := sOf fs fun rs s => match putRs is rs s with
  | some s' => .nx s'
  | none => .bad
theorem sPar_post {is : List Nat} {nx : L2.St → Hp → Prop} {rt : VK} {bk ct : L2.St → Hp → Prop} (q : PostS C W F (sPar is fs s) nx rt bk ct) : Post C W σ F (fs s) fun rs s' H' F' => ∀ vs A, RvAll C σ F' H' s'.sl vs rs A → Rel C σ H' F' s' → is.length = vs.length ∧ nx (putσ is vs σ) H' := by
  refine (post_of q).mono fun rs s1 H1 F1 r1 u1 q1 vs A rv r => ?_
  cases h : putRs is rs s1 with
  | none => rw [h] at q1; exact q1.elim
  | some s2 =>
    rw [h] at q1
    obtain ⟨k1, k2⟩ := putRs_rel r rv h
    exact ⟨k2, q1 _ _ _ k1 (Sub.refl _)⟩
/-- a, b = x, y -/
theorem ds_par2 {i j : Nat} {x y : Str} {px py pt : Pos} {kt k2 : Nat} {pt2 : Pos} (hc : X.calm = true) (n1 : Nm X i x) (n2 : Nm X j y) (hij : i ≠ j)
    (hx : X.env.scope.names.lookup x = some .local) (hy : X.env.scope.names.lookup y = some .local) (ha : DRs X C W [a, b] fs)
    (hw : swappedStores [.Tuple [.Name x px, .Name y py] kt pt] (.Tuple [a, b] k2 pt2) X.env = pure (some [x, y]) := by rfl)
    (hs : swapsWithSole [.Tuple [.Name x px, .Name y py] kt pt] (.Tuple [a, b] k2 pt2) pos.line X.env = pure false := by rfl) :
    DS X C W (.Assign [.Tuple [.Name x px, .Name y py] kt pt] (.Tuple [a, b] k2 pt2) pos) (sPar [i, j] fs) := by
  refine ps_imp (ps_par hc n1.nd n1.ix n2.ix hij hx hy ha hw hs) fun E σ H ⟨F, s, r, q⟩ => ⟨F, s, r, (sPar_post q).mono fun rs s1 H1 F1 r1 u1 q1 vs A rv => ?_⟩
  obtain ⟨hl, q2⟩ := q1 vs A rv r1
  match vs, hl, q2 with
  | [v, w], _, q2 => exact ⟨v, w, rfl, q2⟩
/-! ### target = e -/
def sAsg (f : M D) (pt : Pat) : S → Out := sOf f fun d s => match pt.bind d s with
  | some s' => .nx s'
  | none => .bad
theorem ds_asg {pt : Pat} (hK : C.K = X.K) (he : DE X C W e fa) (hg : PG X tg (pt.g X.K)) (hs : swapsWithSole [tg] e pos.line X.env = pure false := by rfl) (hw : swappedStores [tg] e X.env = pure none := by rfl)
    (h1 : (assignEach [tg] X.env).map (·.2) = [assign tg X.env] := by rfl) : DS X C W (.Assign [tg] e pos) (sAsg fa pt) := by
  refine ps_imp (ps_asg he hg hs hw h1) fun E σ H ⟨F, s, r, q⟩ => ⟨F, s, r, (post_of q).mono fun d s1 H1 F1 r1 u1 q1 v iv => ?_⟩
  cases h : pt.bind d s1 with
  | none => rw [h] at q1; exact q1.elim
  | some s2 =>
    rw [h] at q1
    rw [← hK]
    exact Pat.ok pt r1 iv h fun σ' H' r' _ => q1 σ' H' F1 r' (Sub.refl _)
/-! ### name = [.. for ..] on one line -/
/-! ### x[k] = e -/
def sSetIx (i : Nat) (fk fe : M D) : S → Out := sOf fe fun d => sOf (mbind (mcell i) fun _ => fk) fun k s => match s.cell i, k with
  | some (.lst ds), .int n => (match ixN ds.length n with
    | some j => .nx (s.setCell i (.lst (ds.set j d)))
    | none => .bad)
  | _, _ => .bad
theorem ds_setIx {i : Nat} {o k : Expr} {tpos : Pos} (hK : C.K = X.K) (ho : PE X o (tVar i)) (hk : DE X C W k fb) (he : DE X C W e fa) (hs : swapsWithSole [.Subscript o k tpos] e pos.line X.env = pure false := by rfl) (hw : swappedStores [.Subscript o k tpos] e X.env = pure none := by rfl)
    (h1 : (assignEach [.Subscript o k tpos] X.env).map (·.2) = [assign (.Subscript o k tpos) X.env] := by rfl)
    (ha : ∀ v, assign (.Subscript o k tpos) X.env v = (do
      let ov ← holding [v] (eval o X.env)
      let iv ← holding [v, ov] (eval k X.env)
      standAt tpos
      holding [v, ov, iv] (setItem ov iv v)
      release [v, ov, iv] []) := by intro _; rfl) : DS X C W (.Assign [.Subscript o k tpos] e pos) (sSetIx i fb fa) := by
  refine ps_imp (ps_asg he (pg_sub ho hk set_list ha) hs hw h1) fun E σ H ⟨F, s, r, q⟩ => ⟨F, s, r, (post_of q).mono fun d s1 H1 F1 r1 u1 q1 v iv => ?_⟩
  have q2 := Post.bind (post_of (σ := σ) q1)
  obtain ⟨c0, h0, q3⟩ := post_mopt (show Post C W σ F1 (mopt (s1.cell i) s1) _ from q2) r1
  obtain ⟨p, e1, _, _, _⟩ := r1.cell h0
  refine ⟨.ref p, e1, F1, s1, r1, (q3 H1 F1 (Ext.refl r1.sub)).mono fun kd s2 H2 F2 r2 u2 q4 y iy => ?_⟩
  split at q4
  · rename_i ds n hc
    cases iy
    cases hj : ixN ds.length n with
    | none => rw [hj] at q4; exact q4.elim
    | some j =>
      rw [hj] at q4
      obtain ⟨a', e4, _, ⟨xs, z1, z2⟩, rr⟩ := r2.cell hc
      rw [e1] at e4
      cases e4
      exact ⟨p, xs, n, j, rfl, rfl, z1, by rw [z2.len]; exact hj, q4 _ _ _ (rr _ _ fun F' u => ⟨_, upd_same, z2.set j (iv.up u2)⟩) (Sub.refl _)⟩
  · exact q4.elim
/-! ### o.f = e, o a slot's own thing -/
def sSetF (i : Nat) (cn f : Str) (fe : M D) : S → Out := sOf fe fun d s => match s.cell i with
  | some (.ins c' fs) => if c' = cn ∧ fs.length < 1000 then .nx (s.setCell i (.ins c' (putD f d fs))) else .bad
  | _ => .bad
theorem ds_setF {i : Nat} {o : Expr} {cn f : Str} {pos' : Pos} (hK : C.K = X.K) (cl : Cls X.K (He.ga X.K cn)) (na : NoAttr X.K (He.ga X.K cn) f) (ho : PE X o (tVar i)) (he : DE X C W e fa) (hs : swapsWith e (some (.Attribute o f pos')) pos.line X.env = pure false := by rfl) :
    DS X C W (.Assign [.Attribute o f pos'] e pos) (sSetF i cn f fa) := by
  refine ps_imp (ps_fld ho he hs) fun E σ H ⟨F, s, r, q⟩ => ⟨F, s, r, (post_of q).mono fun d s1 H1 F1 r1 u1 q1 v iv => ?_⟩
  split at q1
  · rename_i c' fs' hc
    by_cases hn : c' = cn ∧ fs'.length < 1000
    · rw [if_pos hn] at q1
      obtain ⟨rfl, hl⟩ := hn
      obtain ⟨a, e1, _, ⟨dx, vs, h1, h2⟩, rr⟩ := r1.cell hc
      rw [hK] at h1
      refine ⟨.ref a, e1, a, _, dx, vs, rfl, h1, cl, na, by rw [h2.len]; exact hl, q1 _ _ _ (rr _ _ fun F' u => ⟨dx, _, by rw [upd_same, hK], h2.put iv⟩) (Sub.refl _)⟩
    · rw [if_neg hn] at q1; exact q1.elim
  · exact q1.elim
/-! ### a slot's own thing, handed out for good -/
def oVar (i : Nat) : M Cell := fun s => match s.sl[i]? with
  | some (.own c) => .ok c (s.put i .no)
  | _ => .bad
theorem o_var {i : Nat} (h : PE X e (tVar i)) : DO X C W e (oVar i) := by
  refine pe_imp h fun σ H Q ⟨F, s, r, q⟩ => ?_
  unfold oVar at q
  split at q
  · rename_i c h1
    obtain ⟨a, e1, e2, e3, e4⟩ := r.slot i _ h1
    have hi := (List.getElem?_eq_some_iff.mp h1).1
    have r2 : Rel C σ H F (s.put i .no) := by
      refine ⟨r.sub, r.keep, r.f0, by show (s.sl.set i .no).length = _; rw [List.length_set]; exact r.len, fun j x e => ?_, r.iol, r.io, fun j k b ⟨z1, c1, z2⟩ ⟨z3, c2, z4⟩ => ?_, r.inn, r.nd, r.s0, r.tabs⟩
      · rcases set_get (show (s.sl.set i .no)[j]? = some x from e) with ⟨rfl, rfl, _⟩ | ⟨_, e⟩
        · trivial
        · exact r.slot j x e
      · have key : ∀ {j : Nat} {c : Cell}, (s.sl.set i .no)[j]? = some (.own c) → s.sl[j]? = some (.own c) := fun {j c} e => by
          rcases set_get e with ⟨_, z, _⟩ | ⟨_, e⟩
          · cases z
          · exact e
        exact r.ap j k b ⟨z1, c1, key z2⟩ ⟨z3, c2, key z4⟩
    refine ⟨.ref a, e1, q H F r2 (Sub.refl _) a (fun j ⟨z1, c1, z2⟩ => ?_) e3 e2 e4⟩
    rcases set_get (show (s.sl.set i .no)[j]? = some (.own c1) from z2) with ⟨_, z, _⟩ | ⟨hj, z⟩
    · cases z
    · exact hj (r.ap j i a ⟨z1, c1, z⟩ ⟨e1, c, h1⟩)
  · exact q.elim
/-! ### name op= e, numbers -/
end
end DL
set_option maxHeartbeats 2000000
/-! DL15: own classes: C(..), o.m(..), a property; peeks. -/
namespace DL
open PySem PySem.Spec PyProof.Rows L2
section
variable {C : Ct} {W : WX} {X : Cx} {σ : L2.St} {H F H' F' : Hp} {s : S} {fa fb : M D} {a b e o : Expr} {es : List Expr} {fs : M (List AV)} {fr : M RV} {pos p apos : Pos} {K : PySem.W.Frag} {x m : Str}
/-! ### a slot's thing as it stands, for what keeps nothing of it -/
theorem View.lend {v : V} {d : D} (su : Sub F H) (h : View K F H v d) (nF : ∀ a c, v = .ref a → d = Cell.d c → CellAt K F H a c → F a = none ∨ Is K F v d) : ∃ F1, Sub F F1 ∧ Sub F1 H ∧ Is K F1 v d := by
  rcases h with h | ⟨a, c, rfl, rfl, hc⟩
  · exact ⟨F, Sub.refl _, su, h⟩
  · rcases nF a c rfl rfl hc with z | z
    · obtain ⟨o, ho⟩ := hc.there
      have uf : Sub F (upd F a o) := fun b u e => by rw [upd_ne (ne_of_none e z)]; exact e
      refine ⟨upd F a o, uf, fun b u e => ?_, hc.isd uf fun u e => by rw [upd_same]; rw [ho] at e; exact e⟩
      by_cases q : b = a
      · subst q; rw [upd_same] at e; rw [ho]; exact e
      · rw [upd_ne q] at e; exact su _ _ e
    · exact ⟨F, Sub.refl _, su, z⟩
theorem Rel.lend (r : Rel C σ H F s) {i : Nat} {d : D} (h : peekD s i = some d) : ∃ v F1, σ[i]? = some (some v) ∧ Sub F F1 ∧ Sub F1 H ∧ Is C.K F1 v d := by
  have key : ∀ {a : Addr} {c : Cell}, F a = none → CellAt C.K F H a c → ∃ F1, Sub F F1 ∧ Sub F1 H ∧ Is C.K F1 (.ref a) c.d := fun {a c} z hc => View.lend r.sub (.inr ⟨a, c, rfl, rfl, hc⟩) fun a' c' e1 e2 _ => by cases e1; exact .inl z
  unfold peekD at h
  cases h1 : s.sl[i]? with
  | none => rw [h1] at h; cases h
  | some x =>
    rw [h1] at h
    have q := r.slot i x h1
    cases x with
    | no => cases h
    | val d' =>
      cases h
      obtain ⟨v, e1, e2⟩ := q
      exact ⟨v, F, e1, Sub.refl _, r.sub, e2⟩
    | own c =>
      cases h
      obtain ⟨a, e1, e2, _, e4⟩ := q
      obtain ⟨F1, k1, k2, k3⟩ := key e2 e4
      exact ⟨_, F1, e1, k1, k2, k3⟩
    | io j =>
      obtain ⟨a, e1, e2⟩ := q
      cases h3 : s.io[j]? with
      | none =>
        have h : (s.io[j]?).map Cell.d = some d := h
        rw [h3] at h
        cases h
      | some c =>
        have h : (s.io[j]?).map Cell.d = some d := h
        rw [h3] at h
        cases h
        obtain ⟨F1, k1, k2, k3⟩ := key (r.ioF e2 h3) (r.io j a c e2 h3).2
        exact ⟨_, F1, e1, k1, k2, k3⟩
def flatD : D → Option D
  | .non => some .non
  | .bl b => some (.bl b)
  | .int i => some (.int i)
  | .str z => some (.str z)
  | _ => none
theorem flat_is {F F1 : Hp} {v : V} {d d' : D} (h : flatD d = some d') (i : Is K F1 v d) : Is K F v d' := by
  cases i <;> cases h <;> first | exact .non | exact .bl _ | exact .int _ | exact .str _
/-- f(slot's thing) -/
def calP (g : List D → Option D) (i : Nat) : M D := mbind (mpeek i) fun d => mopt ((g [d]).bind flatD)
theorem t_calP {rr : RC} {g : List D → Option D} {i : Nat} (ov : OpC C.K rr g) (σ : L2.St) (H : Hp) (Q : VK) (h : tD C W (calP g i) σ H Q) : tCB rr (tCons (tVar i) tNil) σ H Q := by
  obtain ⟨F, s, r, q⟩ := h
  obtain ⟨d, e0, q1⟩ := post_peek q
  obtain ⟨v, F1, e1, k1, k2, k3⟩ := r.lend e0
  obtain ⟨d', e2, q3⟩ := post_val q1 r
  obtain ⟨d1, e3, e4⟩ := Option.bind_eq_some_iff.mp e2
  refine ⟨v, e1, ?_⟩
  refine ov H F1 [v] [d] d1 k2 (.cons k3 .nil) e3 Q fun w H' F' ex iw => ?_
  exact q3 H' F ⟨ex.h, Sub.refl _, r.sub.trans ex.h, fun _ _ => rfl⟩ w (flat_is e4 iw)
theorem d_callBP {bid : String} {g : List D → Option D} {i : Nat} (hK : C.K = X.K) (hc : CalD X (.builtin bid) g) (hm : X.mg x = none) (hv : bootBuiltins x = some (.builtin bid)) (ha : PE X e (tVar i)) (hg : Gl X x := by rfl) (hn : x ≠ "__name__" := by decide) (hdb : (x == ("__debug__" : Str)) = false := by decide)
    (he : starEach [e] X.env = (false, eval e X.env) :: starEach [] X.env := by rfl) (hpl : (backTo pos (starEach [] X.env)).any (·.1) = false := by rfl) : DE X C W (.Call (.Name x p) [e] [] pos) (calP g i) := by
  obtain ⟨r, o1, o2⟩ := hc
  exact pe_imp (pe_callB o1 hg hm hv (pa_cons ha pa_nil he) hn hdb he hpl) (t_calP (by rw [hK]; exact o2))
/-- a op slot's thing -/
def binP (g : D → D → Option D) (fa : M D) (i : Nat) : M D := mbind fa fun d => mbind (mpeek i) fun e => mopt ((g d e).bind flatD)
theorem t_binP {rr : R2} {g : D → D → Option D} {i : Nat} (ov : OpV C.K rr g) (σ : L2.St) (H : Hp) (Q : VK) (h : tD C W (binP g fa i) σ H Q) : tOp rr (tD C W fa) (tVar i) σ H Q := by
  obtain ⟨F, s, r, q⟩ := h
  refine ⟨F, s, r, (Post.bind q).mono fun d s1 H1 F0 r1 u1 q1 x ix => ?_⟩
  obtain ⟨d2, e0, q2⟩ := post_peek q1
  obtain ⟨v, F1, e1, k1, k2, k3⟩ := r1.lend e0
  obtain ⟨d', e2, q3⟩ := post_val q2 r1
  obtain ⟨d1, e3, e4⟩ := Option.bind_eq_some_iff.mp e2
  refine ⟨v, e1, ov H1 F1 x v d d2 d1 k2 (ix.up k1) k3 e3 Q fun w H' F' ex iw => ?_⟩
  exact q3 H' F0 ⟨ex.h, Sub.refl _, r1.sub.trans ex.h, fun _ _ => rfl⟩ w (flat_is e4 iw)
theorem dt_cmpP {op : CmpOp} {g : D → D → Option D} {i : Nat} (hK : C.K = X.K) (ho : OpD X (compareOp op) g) (ha : DE X C W a fa) (hb : PE X b (tVar i)) (hm : behindInMarks op b = false := by first | exact nomark _ | rfl) : DT X C W (.Compare a [op] [b] pos) (asB (binP g fa i)) := by
  obtain ⟨r, o1, o2⟩ := ho
  exact pt_imp (pt_cmpR o1 ha hb hm) (t_test _ _ (t_binP (by rw [hK]; exact o2)))
/-! ### C(..) -/
def runMake (cn : Str) (r : Fn) (dds : List D) (as : List AV) : M RV := fun s => match cellsAt s (gathI as) with
  | some cs => if apart s (gathI as) = true then (match r (.io 0 :: (gathA 1 as ++ dds.map .val)) (.ins cn [] :: cs) with
    | .rt (.val .non) (c :: io) => .ok (.own c) (putAll s (gathI as) io)
    | .exc c fs (_ :: io) => .exc c fs (putAll s (gathI as) io)
    | _ => .bad) else .bad
  | none => .bad
def mMake (np : Nat) (cn : Str) (r : Fn) (dds : List D) (fs : M (List AV)) : M RV := mbind fs fun as => if as.length + dds.length + 1 = np then runMake cn r dds as else fun _ => .bad
theorem run_spM {np : Nat} {cn : Str} {r : Fn} {dds : List D} {dvs : List V} {as : List AV} {vs : List V} {Q : VK} {E : XK} (hd : ∀ F, IsAll C.K F dvs dds) (hr : Rel C σ H F s) (hv : AvAll C.K σ F vs as) (hn : (vs ++ dvs).length + 1 = np)
    (q : Post C (wx E) σ F (runMake cn r dds as s) fun (rv : RV) s' H' F' => ∀ v, RetOk C F' H' v rv → (∀ a c, rv = RV.own c → v = .ref a → ∀ i, ¬ OwnAt σ s'.sl i a) → Q v H') :
    ∀ x dx, H x = none → H dx = none → dx ≠ x → spD C.K np r (.ref x :: (vs ++ dvs)) (upd (upd H dx (.own x)) x (.ins (He.ga C.K cn) dx [])) (fun v H2 => v = .non ∧ Q (.ref x) H2) E := by
  intro x dx hx hdx hne
  unfold runMake at q
  cases hc : cellsAt s (gathI as) with
  | none => rw [hc] at q; exact q.elim
  | some cs =>
    rw [hc] at q
    by_cases hap : apart s (gathI as) = true
    · have q : Post C (wx E) σ F (if apart s (gathI as) = true then (match r (.io 0 :: (gathA 1 as ++ dds.map .val)) (.ins cn [] :: cs) with
        | .rt (.val .non) (c :: io) => .ok (RV.own c) (putAll s (gathI as) io)
        | .exc c fs (_ :: io) => .exc c fs (putAll s (gathI as) io)
        | _ => .bad) else .bad) _ := q
      rw [if_pos hap] at q
      obtain ⟨A, hA, hargs⟩ := avAll_ads hv
      obtain ⟨k1, k2⟩ := cells_there hr hA hc
      have hAd := ads_nodup hr hA hc hap
      have hxA : x ∉ A := fun z => by obtain ⟨_, _, o, ho⟩ := k2 x z; rw [hx] at ho; cases ho
      have grow : ∀ {b : Addr} {o : HO}, H b = some o → upd (upd H dx (.own x)) x (.ins (He.ga C.K cn) dx []) b = some o := fun {b o} e => by rw [upd_ne (ne_of_none e hx), upd_ne (ne_of_none e hdx)]; exact e
      have hFx : F x = none := hr.newF hx
      have hlen : ∀ k, (gathA k as).length = vs.length := by
        rw [hv.len]
        have : ∀ (as : List AV) (k : Nat), (gathA k as).length = as.length := by
          intro as
          induction as with
          | nil => intro k; rfl
          | cons x r ih => intro k; cases x <;> (unfold gathA; rw [List.length_cons, List.length_cons, ih])
        exact this as
      refine ⟨F, x :: A, .io 0 :: (gathA 1 as ++ dds.map .val), .ins cn [] :: cs, ⟨fun b u e => grow (hr.sub _ _ e), List.nodup_cons.mpr ⟨hxA, hAd⟩, fun a m => ?_, by rw [List.length_cons, List.length_cons, cellsAt_len hc, hA.len], fun j a c h1 h2 => ?_, ?_, fun i y e => ?_, hr.tabs.ext (Sub.refl _) fun _ _ e => grow e, hr.tf0⟩, ?_, ?_⟩
      · rcases List.mem_cons.mp m with rfl | m
        · rw [upd_same]; exact fun z => nomatch z
        · obtain ⟨_, _, o, ho⟩ := k2 a m
          rw [grow ho]; exact fun z => nomatch z
      · cases j with
        | zero =>
          simp at h1 h2
          subst h1 h2
          exact ⟨hFx, dx, [], upd_same, .nil⟩
        | succ j =>
          obtain ⟨z1, z2⟩ := k1 j a c (by simpa using h1) (by simpa using h2)
          exact ⟨z1, z2.up (Sub.refl _) fun o e => grow e⟩
      · rw [List.length_cons, List.length_cons, List.length_append, List.length_append, hlen, List.length_map, (hd F).len]
      · cases i with
        | zero =>
          simp at e
          subst e
          exact ⟨.ref x, rfl, x, rfl, rfl⟩
        | succ i =>
          have e : (gathA 1 as ++ dds.map .val)[i]? = some y := by simpa using e
          by_cases hi : i < (gathA 1 as).length
          · rw [List.getElem?_append_left hi] at e
            obtain ⟨v, h1, h2⟩ := hargs [x] i y e
            exact ⟨v, by rw [List.getElem?_cons_succ, List.getElem?_append_left (by rw [← hlen 1]; exact hi)]; exact h1, h2⟩
          · rw [List.getElem?_append_right (by omega), List.getElem?_map] at e
            obtain ⟨d, e1, rfl⟩ := Option.map_eq_some_iff.mp e
            obtain ⟨v, h1, h2⟩ := (hd F).get e1
            exact ⟨v, by rw [List.getElem?_cons_succ, List.getElem?_append_right (by rw [← hlen 1]; omega), ← hlen 1]; exact h1, h2⟩
      · rw [List.length_cons, List.length_append, List.length_map, hlen, ← hn, List.length_append, (hd F).len]
      · have tail : ∀ {io : List Cell} {c : Cell} {H' F' : Hp}, After C.K F (upd (upd H dx (.own x)) x (.ins (He.ga C.K cn) dx [])) (x :: A) (c :: io) H' F' → After C.K F H A io H' F' := fun {io c H' F'} af =>
          ⟨af.sub, af.f, fun a o e m => af.keep a o (grow e) fun z => (List.mem_cons.mp z).elim (fun y => by rw [y, hx] at e; cases e) m, fun a e => af.o a (by
            cases w : H a with
            | none => exact absurd w e
            | some o => rw [grow w]; exact fun z => nomatch z), by have := af.iol; simpa using this, fun j a c h1 h2 => af.io (j + 1) a c (by simpa using h1) (by simpa using h2), af.tabs⟩
        cases hf : r (.io 0 :: (gathA 1 as ++ dds.map .val)) (.ins cn [] :: cs) with
        | bad => rw [hf] at q; exact q.elim
        | exc c fs io =>
          rw [hf] at q
          cases io with
          | nil => exact q.elim
          | cons c0 io =>
            intro a H' F' af x'
            obtain ⟨r2, own2⟩ := RelH.all (cs := cs) (hr.holes k2 (tail af)) hA (cellsAt_mem hc) (tail af).iol (tail af).io
            exact q a H' F' r2 af.f x'
        | rt rv io =>
          rw [hf] at q
          cases io with
          | nil => cases rv with
            | own c => exact q.elim
            | val d => cases d <;> exact q.elim
          | cons c0 io =>
            cases rv with
            | own c => exact q.elim
            | val d =>
              cases d with
              | non =>
                intro v H' F' af ret
                cases ret
                refine ⟨rfl, ?_⟩
                obtain ⟨r2, own2⟩ := RelH.all (cs := cs) (hr.holes k2 (tail af)) hA (cellsAt_mem hc) (tail af).iol (tail af).io
                refine q H' F' r2 af.f (.ref x) ⟨x, rfl, ?_, hr.newH hx, af.io 0 x c0 rfl rfl⟩ fun a c e1 e2 i ⟨z1, c1, z2⟩ => ?_
                · rw [af.o x (by rw [upd_same]; exact fun z => nomatch z)]; exact hFx
                · cases e2
                  obtain ⟨c', z3⟩ := own2 i c1 z2
                  exact hr.newO hx i ⟨z1, c', z3⟩
              | _ => exact q.elim
    · have q : Post C (wx E) σ F (if apart s (gathI as) = true then (match r (.io 0 :: (gathA 1 as ++ dds.map .val)) (.ins cn [] :: cs) with
        | .rt (.val .non) (c :: io) => .ok (RV.own c) (putAll s (gathI as) io)
        | .exc c fs (_ :: io) => .exc c fs (putAll s (gathI as) io)
        | _ => .bad) else .bad) _ := q
      rw [if_neg hap] at q
      exact q.elim
theorem run_makeG {gd : Bool} {CX : CXT} {k : Nat} {Ca f : Addr} {fd : FuncData} {ps : List Str} {sp : Sp} {E : XK} {dvs : List V} {ds : List Value} {pins : List (Addr × Obj)} {Q : VK} {us : List Value} {vs : List V} {s : Shared} (M : Mk X.K Ca f) (F : FnG gd X.prog X.w X.K X.mg X.base CX k f fd ps sp) (hgd : gd = true → X.A.guards = some []) (hr : Room (k + 1) X.A) (hb : Binds X.K fd ps ds) (hd : Vals dvs ds)
    (hx : Passes CX X E) (I : Inv X pins σ H s) (r : Vals vs us)
    (h : ∀ x dx, H x = none → H dx = none → dx ≠ x → sp (.ref x :: (vs ++ dvs)) (upd (upd H dx (.own x)) x (.ins Ca dx [])) (fun v H2 => v = .non ∧ Q (.ref x) H2) E) :
    wpAny (model X.prog X.w) X.A (call (.ref Ca) us) (EP X pins σ Q) X.xe s := by
  have hq := h (s.heap.objs.size + 1) s.heap.objs.size (I.hok.fresh (Nat.le_succ _)) (I.hok.fresh (Nat.le_refl _)) (Nat.ne_of_lt (Nat.lt_succ_self _))
  have I2 := Inv.made (C := Ca) I
  have r2 : Vals (V.ref (s.heap.objs.size + 1) :: (vs ++ dvs)) (Value.ref (s.heap.objs.size + 1) :: (us ++ ds)) := .cons rfl (r.append hd)
  have hl : (Value.ref (s.heap.objs.size + 1) :: us ++ ds).length = ps.length := by
    have e := r2.length
    rw [F.len _ _ _ _ hq] at e
    exact e.symm
  refine wpAny_call (make_map (f := f) I.kIn M.makes M.init (beq_iff_eq.mp M.fn) (codeAny_mono (F.run _ X.stack _ _ ⟨Value.ref (s.heap.objs.size + 1) :: us, []⟩ (Value.ref (s.heap.objs.size + 1) :: (us ++ ds)) _ _ E (fun z => make_guards (hgd z)) (hr.make Ca us [])
    (I2.env0.make Ca us []) (hb _ (Value.ref (s.heap.objs.size + 1) :: us) I2.kIn hl) r2 hq) fun r s' hq' => ?_))
  cases r with
  | error e => exact hx pins σ _ _ e s' I2 hq'
  | ok fl =>
    cases fl with
    | ret u =>
      obtain ⟨v, H', I3, rv, ev, q3⟩ := I2.after hq'
      subst ev
      exact ⟨rv, ⟨V.ref (s.heap.objs.size + 1), H', I3, rfl, q3⟩⟩
    | next => exact False.elim hq'
    | brk => exact False.elim hq'
    | cont => exact False.elim hq'
/-- a class that may be called by its name -/
structure MakeOk (gd : Bool) (P : Program) (w : World) (K : PySem.W.Frag) (mg : Str → Option Value) (base : Heap) (k : Nat) (x : Str) (np : Nat) (dds : List D) (r : Fn) : Prop where
  cls : mg x = some (.ref (He.ga K x))
  ex : ∃ (f : Addr) (fd : FuncData) (ps : List Str) (ds : List Value) (dvs : List V), Mk K (He.ga K x) f ∧ Binds K fd ps ds ∧ Vals dvs ds ∧ (∀ F, IsAll K F dvs dds) ∧ ps.length = np ∧ FnG gd P w K mg base (L2.CX P w) k f fd ps (spD K np r)
theorem r_make {gd : Bool} {k : Nat} {np : Nat} {dds : List D} {r : Fn} {E : XK} (hK : C.K = X.K) (F : MakeOk gd X.prog X.w X.K X.mg X.base k x np dds r) (hgd : gd = true → X.A.guards = some []) (hr : Room (k + 1) X.A) (hg : Gl X x) (hx : Passes (L2.CX X.prog X.w) X E)
    (ha : DG X C (wx E) (e :: es) fs) (hdb : (x == ("__debug__" : Str)) = false := by decide) (he : starEach (e :: es) X.env = (false, eval e X.env) :: starEach es X.env := by rfl) (hpl : (backTo pos (starEach es X.env)).any (·.1) = false := by rfl) :
    DR X C (wx E) (.Call (.Name x p) (e :: es) [] pos) (mMake np x r dds fs) := by
  obtain ⟨f, fd, ps, ds, dvs, M, hb, hd, hdd, hps, Fg⟩ := F.ex
  refine ⟨fun pins s σ H Q I h => ?_⟩
  obtain ⟨F0, s0, r0, q0⟩ := h
  refine wpAny_Call_Name_kw (ld_glob I hg F.cls ?_ hdb)
  refine PySem.W.callWith_K (h₀ := X.base) I.ok.mod.kin M.kp (thn (ha.run pos pins s σ H (fun vs H1 => ∀ y dx, H1 y = none → H1 dx = none → dx ≠ y → spD X.K np r (.ref y :: (vs ++ dvs)) (upd (upd H1 dx (.own y)) y (.ins (He.ga X.K x) dx [])) (fun v H2 => v = .non ∧ Q (.ref y) H2) E) I ⟨F0, s0, r0, (Post.bind q0).mono fun as s1 H1 F1 r1 u1 q1 vs hv => ?_⟩) fun us s1 ⟨vs, H1, I1, r, q⟩ => ⟨I1.kIn, ?_⟩) he hpl
  · rw [← hK]
    by_cases hl : as.length + dds.length + 1 = np
    · rw [if_pos hl] at q1
      exact run_spM (fun F => by rw [hK]; exact hdd F) r1 hv (by rw [List.length_append, hv.len, (hdd F1).len]; exact hl) q1
    · rw [if_neg hl] at q1
      exact q1.elim
  · exact run_makeG M Fg hgd hr hb hd hx I1 r q
/-! ### o.m(..) -/
def insOf (cn m : Str) : D → Bool
  | .ins c fs => decide (c = cn) && (fs.lookup m).isNone
  | _ => false
/-- the object: a datum -/
def recvD (cn m : Str) (fo : M D) : M AV := mbind fo fun d => if insOf cn m d = true then mret (.val d) else fun _ => .bad
/-- .. a slot's own thing, to be changed -/
def recvS (cn m : Str) (i : Nat) : M AV := mbind (mcell i) fun c => if insOf cn m c.d = true then mret (.sl i) else fun _ => .bad
section
variable (C : Ct) (W : WX)
def tAv (cn m : Str) (f : M AV) : TE := fun σ H Q => ∃ F s, Rel C σ H F s ∧ Post C W σ F (f s) fun av _ H' F' => ∀ v, (∃ a dx fs, v = .ref a ∧ H' a = some (.ins (He.ga C.K cn) dx fs) ∧ fs.lookup m = none) → AvAll C.K σ F' [v] [av] → Q v H'
end
abbrev DV (X : Cx) (C : Ct) (W : WX) (cn m : Str) (e : Expr) (f : M AV) : Prop := PE X e (tAv C W cn m f)
theorem v_d {cn : Str} (h : DE X C W e fa) : DV X C W cn m e (recvD cn m fa) := by
  refine pe_imp h fun σ H Q ⟨F, s, r, q⟩ => ⟨F, s, r, (Post.bind q).mono fun d s1 H1 F1 r1 u1 q1 v iv => ?_⟩
  by_cases hi : insOf cn m d = true
  · rw [if_pos hi] at q1
    refine q1 H1 F1 r1 (Sub.refl _) v ?_ (.val iv .nil)
    cases iv with
    | ins h1 h2 =>
      unfold insOf at hi
      rw [Bool.and_eq_true, decide_eq_true_eq] at hi
      obtain ⟨rfl, hn⟩ := hi
      exact ⟨_, _, _, rfl, r1.sub _ _ h1, h2.none (by simpa using hn)⟩
    | _ => cases hi
  · rw [if_neg hi] at q1; exact q1.elim
def mMeth (np : Nat) (r : Fn) (dds : List D) (fo : M AV) (fs : M (List AV)) : M RV := mbind fo fun o => mbind fs fun as => if as.length + dds.length + 1 = np then runFn r dds (o :: as) else fun _ => .bad
/-! ### o.f, a property -/
structure PropOk (gd : Bool) (P : Program) (w : World) (K : PySem.W.Frag) (mg : Str → Option Value) (base : Heap) (k : Nat) (cn f : Str) (r : Fn) : Prop where
  cls : Cls K (He.ga K cn)
  ex : ∃ (pa g : Addr) (fd : FuncData) (ps : List Str), PropOf K (He.ga K cn) f pa g ∧ Binds K fd ps [] ∧ ps.length = 1 ∧ FnG gd P w K mg base (L2.CX P w) k g fd ps (spD K 1 r)
def noExc {α : Type} (f : M α) : M α := fun s => match f s with
  | .ok a s' => .ok a s'
  | _ => .bad
theorem post_noExc {α : Type} {W W' : WX} {f : M α} {P : α → S → Hp → Hp → Prop} (q : Post C W σ F (noExc f s) P) : Post C W' σ F (f s) P := by
  unfold noExc at q
  cases h : f s with
  | ok a s' => rw [h] at q; exact q
  | exc c fs s' => rw [h] at q; exact q.elim
  | bad => rw [h] at q; exact q.elim
def mProp (r : Fn) (fo : M AV) : M RV := mbind fo fun o => noExc (runFn r [] [o])
theorem getprop_G {gd : Bool} {CX : CXT} {k : Nat} {Ca pa g a dx : Addr} {fs : List (Str × V)} {f : Str} {fd : FuncData} {ps : List Str} {sp : Sp} {E : XK} {pins : List (Addr × Obj)} {s : Shared} {Q : VK} {b : Bool} {E' : Value → Shared → Prop} (I : Inv X pins σ H s) (ea : H a = some (.ins Ca dx fs)) (c : Cls X.K Ca) (hp : PropOf X.K Ca f pa g)
    (F : FnG gd X.prog X.w X.K X.mg X.base CX k g fd ps sp) (hgd : gd = true → X.A.guards = some []) (hr : Room (k + 1) X.A) (hb : Binds X.K fd ps []) (hx : Passes CX X.nox E) (h : sp [.ref a] H Q E) :
    wpAny (model X.prog X.w) X.A (getAttr (.ref a) f b) (EP X pins σ Q) E' s := by
  obtain ⟨mA, O, _, _, _, _⟩ := ins_get I.hok ea
  obtain ⟨od, J, _⟩ := O.look
  obtain ⟨rest, hrec⟩ := hp.rec_
  have I1 := I.tok (s.toks + 1)
  have hl : ([Value.ref a] ++ []).length = ps.length := by
    rw [← F.len _ _ _ _ h]
    rfl
  have hc : (PySem.W.clsIn X.K Ca).isSome = true := by
    obtain ⟨cd, hc, _⟩ := PySem.W.any_some c.hd
    rw [hc]
    rfl
  refine PySem.W.get_bind I.kIn J (PySem.W.plainGet_of (c.get f)).1 (PySem.W.findObj_data hc hp.at_ hp.get hp.tak) (PySem.W.plainGet_of (c.get f)).2 (wpAny_call (PySem.W.prop_get (s := { s with toks := s.toks + 1 }) I.kIn hrec ?_))
  refine codeAny_mono (F.run X.A.in1 X.stack { s with toks := s.toks + 1 } H ⟨[.ref a], []⟩ [.ref a] [.ref a] Q E hgd hr.in1 I1.env0.in1 (hb _ [.ref a] I1.kIn hl) (.cons rfl .nil) h) fun r s' hq => ?_
  cases r with
  | error er => exact False.elim (hx pins σ H { s with toks := s.toks + 1 } er s' (I1.wish _) hq)
  | ok fl =>
    cases fl with
    | ret u =>
      obtain ⟨v, H', I3, rv, q3⟩ := I1.after hq
      show wpAny _ _ (handedOut u) _ _ _
      rw [PySem.W.handedOut_of (handed_of rv)]
      exact wpAny_pure ⟨v, H', I3, rv, q3⟩
    | next => exact False.elim hq
    | brk => exact False.elim hq
    | cont => exact False.elim hq
theorem r_prop {gd : Bool} {k : Nat} {cn f : Str} {r : Fn} {fo : M AV} (hK : C.K = X.K) (F : PropOk gd X.prog X.w X.K X.mg X.base k cn f r) (hgd : gd = true → X.A.guards = some []) (hr : Room (k + 1) X.A) (ho : DV X C W cn m o fo) (hab : attributeBase o f X.env (eval o X.env) = eval o X.env := by rfl) : DR X C W (.Attribute o f pos) (mProp r fo) := by
  obtain ⟨pa, g, fd, ps, hp, hb, hps, Fg⟩ := F.ex
  refine ⟨fun pins s σ H Q I h => ?_⟩
  obtain ⟨F0, s0, r0, q0⟩ := h
  refine attr_of hab (thn (ho.run pins s σ H (fun x H1 => (∃ a dx fs, x = .ref a ∧ H1 a = some (.ins (He.ga C.K cn) dx fs) ∧ fs.lookup m = none) ∧ spD C.K 1 r [x] H1 Q E0) I ⟨F0, s0, r0, (Post.bind q0).mono fun o s1 H1 F1 r1 u1 q1 v hv av => ⟨hv, ?_⟩⟩) fun u s1 ⟨x, H1, I1, rx, ⟨a, dx, fs', ex, ea, l⟩, q⟩ => ?_)
  · exact run_sp (dvs := []) (dds := []) (vs := [v]) (fun _ => .nil) r1 av rfl (post_noExc q1)
  · subst ex
    obtain rfl : u = Value.ref a := rx
    rw [hK] at ea q
    exact getprop_G I1 ea F.cls hp Fg hgd hr hb passL q
end
end DL
set_option maxHeartbeats 2000000
/-! DL16: targets' rules, constants of a module, isinstance, defs by FunD, code that is never come to. -/
namespace DL
open PySem PySem.Spec PyProof.Rows L2
section
variable {C : Ct} {W : WX} {X : Cx} {σ : L2.St} {H F H' F' : Hp} {s : S} {fa fb : M D} {a b e o : Expr} {es : List Expr} {fs : M (List AV)} {fr : M RV} {pos p apos : Pos} {K : PySem.W.Frag} {x m : Str} {st : Stmt} {sts : List Stmt}
theorem pg_nm {i : Nat} (n : Nm X i x) : PG X (.Name x pos) ((Pat.nm i).g X.K) := by
  unfold Pat.g
  exact pg_name n.nd n.ix n.lo n.fn
theorem pgs_nl : PGs X [] (Pats.nil.gs X.K) := by
  unfold Pats.gs
  exact pgs_nil
theorem pgs_cn {pt : Pat} {ps : Pats} (h1 : PG X e (pt.g X.K)) (h2 : PGs X es (ps.gs X.K)) (hs : (assignEach (e :: es) X.env).map (·.2) = assign e X.env :: (assignEach es X.env).map (·.2) := by rfl) : PGs X (e :: es) ((Pats.cons pt ps).gs X.K) := by
  unfold Pats.gs
  exact pgs_cons h1 h2 hs
theorem pg_tp {k : Nat} {ps : Pats} (hc : X.calm = true) (h : PGs X es (ps.gs X.K)) (hn : (assignEach es X.env).length = ps.len := by rfl) (hst : (assignEach es X.env).findIdx? (·.1) = none := by rfl) : PG X (.Tuple es k pos) ((Pat.tp ps).g X.K) := by
  unfold Pat.g
  exact pg_tup hc h hn hst
theorem pg_ixk {i j : Nat} {k : Int} {kp : Pos} (ho : PE X o (tVar i))
    (ha : ∀ v, assign (.Subscript o (.Constant (.int k) j kp) pos) X.env v = (do
      let ov ← holding [v] (eval o X.env)
      let iv ← holding [v, ov] (eval (.Constant (.int k) j kp) X.env)
      standAt pos
      holding [v, ov, iv] (setItem ov iv v)
      release [v, ov, iv] []) := by intro _; rfl) : PG X (.Subscript o (.Constant (.int k) j kp) pos) ((Pat.ix i k).g X.K) := by
  unfold Pat.g
  exact pg_sub ho pe_int set_list ha
/-! ### constants of the module, built-in types as values -/
structure Cst (K : PySem.W.Frag) (mg : Str → Option Value) (x : Str) (d : D) : Prop where
  ex : ∃ (u : Value) (v : V), mg x = some u ∧ RelV v u ∧ ∀ F, Is K F v d
theorem d_cst {n : Str} {d : D} (hK : C.K = X.K) (h : Cst X.K X.mg n d) (hg : Gl X n := by rfl) (hd : (n == ("__debug__" : Str)) = false := by decide) : DE X C W (.Name n pos) (mret d) := by
  obtain ⟨u, v, h1, h2, h3⟩ := h.ex
  exact d_glob h1 h2 (fun F => by rw [hK]; exact h3 F) hg hd
theorem d_ty {T : String} (hm : X.mg x = none) (hv : bootBuiltins x = some (.type T)) (hg : Gl X x := by rfl) (hn : x ≠ "__name__" := by decide) (hd : (x == ("__debug__" : Str)) = false := by decide) : DE X C W (.Name x pos) (mret (.ty T)) :=
  d_const (pe_bltn (v := .ty T) hg hm hv rfl hn hd) fun _ _ => .ty T
/-! ### isinstance -/
def tyN : D → Option String
  | .non => some "NoneType"
  | .bl _ => some "bool"
  | .int _ => some "int"
  | .str _ => some "str"
  | .tup _ => some "tuple"
  | .lst _ => some "list"
  | .dic _ => some "dict"
  | _ => none
def tys : List String := ["NoneType", "bool", "int", "str", "tuple", "list", "dict"]
def isiT (cls : List Str) : D → D → Option Bool
  | .ins c _, .glo n => if cls.contains c && cls.contains n then some (decide (c = n)) else none
  | .ins c _, .ty t => if cls.contains c && tys.contains t then some false else none
  | d, .glo n => if cls.contains n then (tyN d).map fun _ => false else none
  | d, .ty t => if tys.contains t then (tyN d).bind fun u => kitB u t else none
  | _, _ => none
def isiC (cls : List Str) : List D → Option D
  | [d, e] => (isiT cls d e).map .bl
  | _ => none
def kOne (K : PySem.W.Frag) (t u : Value) (b : Bool) : Bool := decide (PySem.W.kitOne K t u = some b)
/-- what K must tell of the own classes -/
def isiB (K : PySem.W.Frag) (cls : List Str) : Bool := cls.all fun c =>
  He.eqO (PySem.W.findIn K (.ref (He.ga K c)) "__class__") (some (some (.builtin "object.__class__"))) && He.eqO (PySem.W.specialIn K (.builtin "object.__class__") "__get__") (some (some (.builtin "getset_descriptor.__get__"))) &&
  decide (PySem.W.takesIn K (.builtin "object.__class__") = some true) && decide (PySem.W.mroIn K (He.ga K c) (.type "object") = some true) && (He.Fa.cls c).ok K &&
  (cls.all fun n => kOne K (.ref (He.ga K c)) (.ref (He.ga K n)) (decide (c = n))) && (tys.all fun t => kOne K (.ref (He.ga K c)) (.type t) false && kOne K (.type t) (.ref (He.ga K c)) false)
structure Isi (K : PySem.W.Frag) (cls : List Str) : Prop where
  ok : isiB K cls = true
theorem tyN_tys {d : D} {u : String} (h : tyN d = some u) : u ∈ tys := by cases d <;> cases h <;> decide
theorem tyN_ty {F H : Hp} {v : V} {d : D} {u : String} (su : Sub F H) (i : Is K F v d) (h : tyN d = some u) : TyX K H v (.type u) := by
  cases i with
  | non => cases h; exact .base .non
  | bl b => cases h; exact .base (.bl b)
  | int j => cases h; exact .base (.int j)
  | str z => cases h; exact .base (.str z)
  | tup h1 h2 =>
    cases h
    rcases su.t h1 with (h3 | ⟨o, h3⟩) | ⟨o, its, n, h3, h4, h5, _⟩
    · exact .base (.tup h3)
    · exact .fTuple h3
    · exact .kTuple h3 h4
  | lst h1 h2 =>
    cases h
    rcases su.rd h1 with h3 | ⟨o, h3⟩
    · exact .base (.lst h3)
    · exact .base (.frz h3)
  | dic h1 h2 => cases h; exact .base (.dK (su _ _ h1))
  | _ => cases h
theorem c_isi {cls : List Str} (hi : Isi X.K cls) : CalD X (.builtin "isinstance") (isiC cls) := by
  refine ⟨_, call_isi, ?_⟩
  intro H F vs ds d' su h hg Q q
  have one : ∀ {c : Str}, cls.contains c = true → _ := fun {c} hc => List.all_eq_true.mp hi.ok c (by simpa using hc)
  have own : ∀ {c : Str} {a dx : Addr} {ws : List (Str × V)}, cls.contains c = true → H a = some (.ins (He.ga X.K c) dx ws) → TyX X.K H (.ref a) (.ref (He.ga X.K c)) := fun {c a dx ws} hc e => by
    have z := one hc
    simp only [Bool.and_eq_true, decide_eq_true_eq] at z
    exact .base (.ins e (He.cls_ok z.1.1.2) (He.eqO_ok z.1.1.1.1.1.1) (He.eqO_ok z.1.1.1.1.1.2) z.1.1.1.1.2 z.1.1.1.2)
  have k1 : ∀ {c n : Str}, cls.contains c = true → cls.contains n = true → PySem.W.kitOne X.K (.ref (He.ga X.K c)) (.ref (He.ga X.K n)) = some (decide (c = n)) := fun {c n} hc hn => by
    have z := one hc
    simp only [Bool.and_eq_true] at z
    exact of_decide_eq_true (List.all_eq_true.mp z.1.2 n (by simpa using hn))
  have k2 : ∀ {c : Str} {t : String}, cls.contains c = true → t ∈ tys → PySem.W.kitOne X.K (.ref (He.ga X.K c)) (.type t) = some false ∧ PySem.W.kitOne X.K (.type t) (.ref (He.ga X.K c)) = some false := fun {c t} hc ht => by
    have z := one hc
    simp only [Bool.and_eq_true] at z
    have y := List.all_eq_true.mp z.2 t ht
    rw [Bool.and_eq_true] at y
    exact ⟨of_decide_eq_true y.1, of_decide_eq_true y.2⟩
  cases h with
  | nil => cases hg
  | cons h1 h2 =>
    cases h2 with
    | nil => cases hg
    | cons h3 h4 =>
      cases h4 with
      | cons _ _ => cases hg
      | nil =>
        rename_i v d v2 d2
        obtain ⟨k, hk, rfl⟩ := Option.map_eq_some_iff.mp (show (isiT cls d d2).map D.bl = some d' from hg)
        have done : ∀ {t u : Value}, ClsV v2 u → TyX X.K H v t → PySem.W.kitOne X.K t u = some k → rIsi X.K [v, v2] H Q := fun {t u} c ty e => ⟨v, v2, t, u, k, rfl, c, ty, e, q _ H F (Ext.refl su) (.bl k)⟩
        by_cases hins : ∃ c fs, d = .ins c fs
        · obtain ⟨c, fs', rfl⟩ := hins
          cases h1 with
          | ins e1 e2 =>
            cases h3 with
            | glo n =>
              have hk : (if cls.contains c && cls.contains n then some (decide (c = n)) else none) = some k := hk
              by_cases z : (cls.contains c && cls.contains n) = true
              · rw [if_pos z] at hk
                cases hk
                rw [Bool.and_eq_true] at z
                exact done (.own _) (own z.1 (su _ _ e1)) (k1 z.1 z.2)
              · rw [if_neg z] at hk; cases hk
            | ty t =>
              have hk : (if cls.contains c && tys.contains t then some false else none) = some k := hk
              by_cases z : (cls.contains c && tys.contains t) = true
              · rw [if_pos z] at hk
                cases hk
                rw [Bool.and_eq_true] at z
                exact done (.ty _) (own z.1 (su _ _ e1)) (k2 z.1 (by simpa using z.2)).1
              · rw [if_neg z] at hk; cases hk
            | _ => cases hk
        · cases h3 with
          | glo n =>
            have hk : (if cls.contains n then (tyN d).map fun _ => false else none) = some k := by
              cases d <;> first | exact hk | exact absurd ⟨_, _, rfl⟩ hins
            by_cases z : cls.contains n = true
            · rw [if_pos z] at hk
              obtain ⟨u, hu, rfl⟩ := Option.map_eq_some_iff.mp hk
              exact done (.own _) (tyN_ty su h1 hu) (k2 z (tyN_tys hu)).2
            · rw [if_neg z] at hk; cases hk
          | ty t =>
            have hk : (if tys.contains t then (tyN d).bind fun u => kitB u t else none) = some k := by
              cases d <;> first | exact hk | exact absurd ⟨_, _, rfl⟩ hins
            by_cases z : tys.contains t = true
            · rw [if_pos z] at hk
              obtain ⟨u, hu, hk⟩ := Option.bind_eq_some_iff.mp hk
              exact done (.ty _) (tyN_ty su h1 hu) (kit_ty hk)
            · rw [if_neg z] at hk; cases hk
          | _ => cases d <;> cases hk
/-! ### code that is never come to -/
/-! ### return of a value or of a thing of one's own -/
def sRetR (f : M RV) : S → Out := sOf f fun rv s => .rt rv s
theorem ds_retR (h : DR X C W e fr) : DS X C W (.Return (some e) pos) (sRetR fr) :=
  ps_imp (ps_ret h) fun E σ H ⟨F, s, r, q⟩ => ⟨F, s, r, (post_of q).mono fun rv s1 H1 F1 r1 u1 q1 v iv _ => q1 v σ H1 F1 r1 (Sub.refl _) iv⟩
/-! ### around a body, around a block -/
end
abbrev Bx (P : Program) (w : World) (K : PySem.W.Frag) (mg : Str → Option Value) (base : Heap) (N : List Str) (qual : Str) (scope : Scope) (f : Addr) (cdv : Value) (A : Around) (outer : List Env) (s : Shared) (H : Hp) (E : XK) : Cx := cxOf (L2.CX P w) P w K mg base N qual scope f cdv A outer s H E
theorem FunD.g {P : Program} {w : World} {K : PySem.W.Frag} {mg : Str → Option Value} {base : Heap} {gd : Bool} {x qual : Str} {params : Arguments} {body : List Stmt} {scope : Scope} {dvs : List V} {kws : List (Str × V)} {f : Addr} {fd : FuncData} {N ps : List Str} {k : Nat} {g : S → Out} (F : FunD K x qual params body scope dvs kws f fd) (S : FnScope N ps scope)
    (hbody : ∀ (cdv : Value) (A : Around) (outer : List Env) (s : Shared) (H : Hp) (E : XK) (C : Ct), (gd = true → (A.deeper (envOfC qual scope s.heap.objs.size f cdv)).guards = some []) → Room k (A.deeper (envOfC qual scope s.heap.objs.size f cdv)) → C.K = K →
      Passes (L2.CX P w) (Bx P w K mg base N qual scope f cdv A outer s H E) E → PassesOwn (model P w) (A.deeper (envOfC qual scope s.heap.objs.size f cdv)) (envOfC qual scope s.heap.objs.size f cdv) (Bx P w K mg base N qual scope f cdv A outer s H E).xe →
      DB (Bx P w K mg base N qual scope f cdv A outer s H E) C (wx E) body g) :
    FnG gd P w K mg base (L2.CX P w) (k + 1) f fd ps (spD K ps.length (bodyFn N.length g)) := by
  obtain ⟨oc, od, dV, kV, doc, pm, an, cdv, ct, osl, rfl, lk, hcd, _, _⟩ := F.ex
  refine fng_of lk hcd S (fun vs H Q E ⟨F, A, as, io, e, hl, _⟩ => by rw [← e.len, hl]) fun A outer s H vs Q E hgd hr ⟨F, Al, as, io, e, hl, q⟩ => ⟨_, hbody cdv A outer s H E ⟨K, H, F, Al⟩ hgd hr rfl ?_ ?_, F, _, e.rel, ?_⟩
  · exact passes_call (takes_of (X := Bx P w K mg base N qual scope f cdv A outer s H E) (E := E) rfl rfl rfl rfl) fun _ _ _ _ h => h
  · exact passes_of (X := Bx P w K mg base N qual scope f cdv A outer s H E) rfl
  unfold bodyFn at q
  cases h : g ⟨as ++ List.replicate (N.length - as.length) .no, io⟩ with
  | nx s' =>
    rw [h] at q
    exact fun σ' H' F' r u => q .non H' F' (r.after u) .non
  | rt rv s' =>
    rw [h] at q
    exact fun v σ' H' F' r u ret => q v H' F' (r.after u) (by cases rv <;> exact ret)
  | exc c fs s' =>
    rw [h] at q
    exact fun a σ' H' F' r u x => q a H' F' (r.after u) x
  | bk s' => rw [h] at q; exact q.elim
  | ct s' => rw [h] at q; exact q.elim
  | bad => rw [h] at q; exact q.elim
end DL
set_option maxHeartbeats 2000000
/-! DL17: a call with a thing just made; list + list as one's own; places of names. -/
namespace DL
open PySem PySem.Spec PyProof.Rows L2
theorem nm {X : Cx} {x : Str} (i : Nat) (nd : X.N.Nodup) (ix : X.N[i]? = some x := by rfl) (lo : Loc X.env.scope x := by first | exact .inl rfl | exact .inr rfl) (fn : X.fn x = true ∨ X.env.scope.names.lookup x = some .local := by first | exact .inl rfl | exact .inr rfl) : Nm X i x := ⟨nd, ix, lo, fn⟩
theorem un65 {k : Nat} {A : Around} (r : Room k A) : A.units + 65 < cLine := by have := r.un; omega
section
variable {C : Ct} {W : WX} {X : Cx} {σ : L2.St} {H F H' F' : Hp} {s : S} {fa fb : M D} {fo : M Cell} {a b e o : Expr} {es : List Expr} {fs : M (List AV)} {fr : M RV} {pos p apos : Pos} {K : PySem.W.Frag} {x m : Str} {st : Stmt} {sts : List Stmt}
/-! ### f(e), e a thing just made -/
def mCall1 (r : Fn) (fo : M Cell) : M RV := mbind fo fun c s => match r [.io 0] [c] with
  | .rt v _ => .ok v s
  | .exc c fs _ => .exc c fs s
  | .bad => .bad
theorem r_call1 {gd : Bool} {k : Nat} {x : Str} {r : Fn} {E : XK} {p pos : Pos} (hK : C.K = X.K) (F : CallOk gd X.prog X.w X.K X.mg X.base k x 1 [] r) (hgd : gd = true → X.A.guards = some []) (hr : Room k X.A) (hg : Gl X x) (hx : Passes (L2.CX X.prog X.w) X E)
    (ha : DO X C (wx E) e fo) (hdb : (x == ("__debug__" : Str)) = false := by decide) (he : starEach [e] X.env = (false, eval e X.env) :: starEach [] X.env := by rfl) (hpl : (backTo pos (starEach [] X.env)).any (·.1) = false := by rfl) :
    DR X C (wx E) (.Call (.Name x p) [e] [] pos) (mCall1 r fo) := by
  obtain ⟨f, fd, ps, ds, dvs, hm, hk, hb, hd, hdd, hps, F⟩ := F.ex
  have hdv : dvs = [] := by
    have := (hdd fun _ => none).len
    cases dvs with
    | nil => rfl
    | cons _ _ => simp at this
  subst hdv
  refine ⟨fun pins s σ H Q I h => ?_⟩
  obtain ⟨F0, s0, r0, q0⟩ := h
  refine wpAny_Call_Name_kw (ld_glob I hg hm ?_ hdb)
  refine PySem.W.callWith_K (h₀ := X.base) I.ok.mod.kin hk (thn ((pa_cons ha pa_nil he).run pos pins s σ H (fun vs H1 => spD X.K 1 r (vs ++ []) H1 Q E) I ⟨F0, s0, r0, (Post.bind q0).mono fun c s1 H1 F1 r1 u1 q1 y hy h0 hF hc => ?_⟩) fun us s1 ⟨vs, H1, I1, r, q⟩ => ⟨I1.kIn, ?_⟩) he hpl
  · rw [← hK]
    obtain ⟨o, ho⟩ := hc.there
    refine ⟨F1, [y], [.io 0], [c], ⟨r1.sub, by simp, fun a m => ?_, rfl, fun j a c' h1 h2 => ?_, rfl, fun i z e => ?_, r1.tabs, r1.tf0⟩, rfl, ?_⟩
    · have m : a = y := by simpa using m
      rw [m, ho]; exact fun z => nomatch z
    · cases j with
      | zero => simp at h1 h2; subst h1 h2; exact ⟨hF, hc⟩
      | succ j => simp at h1
    · cases i with
      | zero => simp at e; subst e; exact ⟨.ref y, rfl, y, rfl, rfl⟩
      | succ i => simp at e
    · have back : ∀ {io : List Cell} {H' F' : Hp}, After C.K F1 H1 [y] io H' F' → Rel C σ H' F' s1 := fun {io H' F'} af => by
        have rh := r1.holes (A := [y]) (fun a m => by
          have m : a = y := by simpa using m
          subst m
          exact ⟨hF, .inl h0, o, ho⟩) af
        refine RelH.done ⟨rh.sub, rh.keep, rh.f0, rh.len, fun i z e => ?_, rh.iol, fun j a c' h1 h2 => ?_, rh.ap, rh.inn, rh.nd, rh.s0, rh.tabs⟩
        · have w := rh.slot i z e
          cases z with
          | own c' =>
            obtain ⟨b, w1, w2, w3, w4⟩ := w
            refine ⟨b, w1, w2, w3, .inr (w4.elim (fun m => ?_) id)⟩
            have m : b = y := by simpa using m
            exact absurd ⟨by rw [← m]; exact w1, c', e⟩ (hy i)
          | _ => exact w
        · obtain ⟨w1, w2⟩ := rh.io j a c' h1 h2
          refine ⟨w1, .inr (w2.elim (fun m => ?_) id)⟩
          have m : a = y := by simpa using m
          exact absurd h0 (by rw [← m]; exact r1.inn a (List.mem_of_getElem? h1))
      cases hf : r [.io 0] [c] with
      | bad => rw [hf] at q1; exact q1.elim
      | rt rv io =>
        rw [hf] at q1
        intro v H' F' af ret
        refine q1 H' F' (back af) af.f v ?_ fun a c' e1 e2 i ⟨z1, c1, z2⟩ => ?_
        · cases rv with
          | val d => exact ret
          | own c' =>
            obtain ⟨a, e1, e2, e3, e4⟩ := ret
            exact ⟨a, e1, e2, r1.newH e3, e4⟩
        · subst e1 e2
          obtain ⟨a', e1, e2, e3, e4⟩ := ret
          cases e1
          exact r1.newO e3 i ⟨z1, c1, z2⟩
      | exc cn fs io =>
        rw [hf] at q1
        intro a H' F' af x'
        exact q1 a H' F' (back af) af.f x'
  · exact run_fng F hgd hr hb hd hx I1 r q
/-! ### list + list, a new list of one's own -/
end
end DL
set_option maxHeartbeats 2000000
/-! DL18: own ==, != by it, str, repr, bool of an own class. -/
namespace PySem.W
open PySem PySem.Calls PyProof.Rows Builtin
end PySem.W
set_option maxHeartbeats 2000000
/-! DL19: own ==, !=, str, repr, bool at data. -/
namespace PySem.W
open PySem PySem.Calls PyProof.Rows Builtin
end PySem.W
namespace DL
open PySem PySem.Spec PyProof.Rows L2
/-! ### a datum's type -/
def tyA (cls : List Str) : D → Option (String ⊕ Str)
  | .ins c _ => if cls.contains c then some (.inr c) else none
  | d => (tyN d).map .inl
/-- what K must tell for the own == of the class cn -/
def eqB (K : PySem.W.Frag) (cls : List Str) (cn : Str) : Bool :=
  (tys.all fun t => PySem.W.notFirst K (He.ga K cn) (.type t)) && (cls.all fun c => PySem.W.notFirst K (He.ga K cn) (.ref (He.ga K c))) &&
  He.eqO (PySem.W.findIn K (.ref (He.ga K cn)) "__ne__") (some (some (.builtin "object.__ne__"))) && decide (PySem.W.mroIn K (He.ga K cn) (.type "object") = some true) &&
  He.eqO (PySem.W.findIn K (.ref (He.ga K cn)) "__bool__") (some none) && He.eqO (PySem.W.findIn K (.ref (He.ga K cn)) "__len__") (some none)
theorem Env0.at {P : Program} {w : World} {K : PySem.W.Frag} {mg : Str → Option Value} {base : Heap} {A A' : Around} {outer : List Env} {s : Shared} {H : Hp} (e : Env0 P w K mg base A outer s H) (h : A'.frames = A.frames) : Env0 P w K mg base A' outer s H := ⟨by rw [h]; exact e.frames, e.mod, e.bs, e.bsz, e.funs, e.frf, e.hok, e.bare⟩
section
variable {C : Ct} {W : WX} {X : Cx} {σ : L2.St} {H F H' F' : Hp} {s : S} {fa fb : M D} {a b e o : Expr} {es : List Expr} {fs : M (List AV)} {fr : M RV} {pos p apos : Pos} {K : PySem.W.Frag} {x m : Str}
/-- of an instance of the class cn -/
def insAt (cn : Str) : D → Option Unit
  | .ins c _ => if c = cn then some () else none
  | _ => none
def mEqO (cls : List Str) (cn : Str) (r : Fn) (ng : Bool) (fa fb : M D) : M D := mbind fa fun a => mbind (mopt (insAt cn a)) fun _ => mbind fb fun b => mbind (mopt (tyA cls b)) fun _ => mbind (runFn r [] [.val a, .val b]) fun rv => match rv with
  | .val (.bl k) => mret (.bl (if ng then !k else k))
  | _ => fun _ => .bad
/-! ### str(o), repr(o), bool(o) -/
def mStrO (cn : Str) (r : Fn) (fa : M D) : M D := mbind fa fun a => mbind (mopt (insAt cn a)) fun _ => mbind (runFn r [] [.val a]) fun rv => match rv with
  | .val (.str z) => mret (.str z)
  | _ => fun _ => .bad
end
end DL
set_option maxHeartbeats 2000000
/-! DL20: calls by names alone. -/
namespace DL
open PySem PySem.Spec PyProof.Rows L2
def permL {α : Type} (idx : List Nat) (as : List α) : List α := idx.filterMap fun i => as[i]?
section
variable {C : Ct} {W : WX} {X : Cx} {σ : L2.St} {H F H' F' : Hp} {s : S} {fa fb : M D} {a b e o : Expr} {es : List Expr} {kws : List Keyword} {fs : M (List AV)} {fr : M RV} {pos p apos kpos : Pos} {K : PySem.W.Frag} {x m : Str} {nm : Option Str}
theorem AvAll.get : ∀ {vs : List V} {as : List AV} {i : Nat}, AvAll K σ F vs as → (vs[i]? = none ∧ as[i]? = none) ∨ ∃ v a, vs[i]? = some v ∧ as[i]? = some a ∧ AvAll K σ F [v] [a]
  | _, _, i, .nil => .inl ⟨by simp, by simp⟩
  | _, _, 0, .val h r => .inr ⟨_, _, rfl, rfl, .val h .nil⟩
  | _, _, 0, .sl h r => .inr ⟨_, _, rfl, rfl, .sl h .nil⟩
  | _, _, i + 1, .val h r => by simpa using AvAll.get (i := i) r
  | _, _, i + 1, .sl h r => by simpa using AvAll.get (i := i) r
theorem AvAll.cons1 {v : V} {a : AV} {vs : List V} {as : List AV} (h : AvAll K σ F [v] [a]) (r : AvAll K σ F vs as) : AvAll K σ F (v :: vs) (a :: as) := by
  cases h with
  | val h _ => exact .val h r
  | sl h _ => exact .sl h r
theorem AvAll.perm {vs : List V} {as : List AV} (h : AvAll K σ F vs as) : ∀ idx : List Nat, AvAll K σ F (permL idx vs) (permL idx as)
  | [] => .nil
  | i :: idx => by
    have ih := AvAll.perm h idx
    unfold permL at ih ⊢
    rcases h.get (i := i) with ⟨h1, h2⟩ | ⟨v, a, h1, h2, h3⟩
    · rw [List.filterMap_cons_none h1, List.filterMap_cons_none h2]; exact ih
    · rw [List.filterMap_cons_some h1, List.filterMap_cons_some h2]; exact h3.cons1 ih
theorem vals_perm {vs : List V} {us : List Value} (h : Vals vs us) : ∀ idx : List Nat, Vals (permL idx vs) (permL idx us)
  | [] => .nil
  | i :: idx => by
    have ih := vals_perm h idx
    unfold permL at ih ⊢
    cases h1 : vs[i]? with
    | none => rw [List.filterMap_cons_none h1, List.filterMap_cons_none (h.none_of h1)]; exact ih
    | some v =>
      obtain ⟨u, h2, h3⟩ := h.get h1
      rw [List.filterMap_cons_some h1, List.filterMap_cons_some h2]; exact .cons h3 ih
abbrev DK (X : Cx) (C : Ct) (W : WX) (kws : List Keyword) (f : M (List AV)) : Prop := PK X kws (tG C W f)
theorem pk_imp {t u : TA} (h : PK X kws t) (i : ∀ σ H Q, u σ H Q → t σ H Q) : PK X kws u := ⟨fun pos pins s σ H Q I q => h.run pos pins s σ H Q I (i _ _ _ q)⟩
theorem k_nil : DK X C W [] (mret []) := pk_imp pk_nil fun σ H Q ⟨F, s, r, q⟩ => q H F r (Sub.refl _) [] .nil
theorem k_val (ha : DE X C W a fa) (hr : DK X C W kws fs) : DK X C W (⟨nm, a, kpos⟩ :: kws) (gVal fa fs) := by
  refine pk_imp (pk_cons ha hr) fun σ H Q ⟨F, s, r, q⟩ => ⟨F, s, r, (Post.bind q).mono fun d s1 H1 F1 r1 u1 q1 x ix => ⟨F1, s1, r1, (Post.bind q1).mono fun ds s2 H2 F2 r2 u2 q2 xs ixs => ?_⟩⟩
  exact q2 H2 F2 r2 (Sub.refl _) _ (.val (ix.up u2) ixs)
/-! ### f(k = v, ..) -/
def mCallK (nk np : Nat) (r : Fn) (idx : List Nat) (fs : M (List AV)) : M RV := mbind fs fun as => if as.length = nk ∧ (permL idx as).length = np then runFn r [] (permL idx as) else fun _ => .bad
theorem perm_len {vs : List V} {as : List AV} (h : AvAll K σ F vs as) (idx : List Nat) : (permL idx vs).length = (permL idx as).length := (h.perm idx).len
/-! ### o.m(k = v, ..) -/
def mMethK (nk np : Nat) (r : Fn) (idx : List Nat) (fo : M AV) (fs : M (List AV)) : M RV := mbind fo fun o => mbind fs fun as => if as.length = nk ∧ (permL idx as).length + 1 = np then runFn r [] (o :: permL idx as) else fun _ => .bad
/-! ### C(k = v, ..) -/
structure MakeKOk (gd : Bool) (P : Program) (w : World) (K : PySem.W.Frag) (mg : Str → Option Value) (base : Heap) (k : Nat) (x : Str) (np : Nat) (ks : List Str) (idx : List Nat) (r : Fn) : Prop where
  cls : mg x = some (.ref (He.ga K x))
  ex : ∃ (f : Addr) (fd : FuncData) (ps : List Str), Mk K (He.ga K x) f ∧ (∀ (s : Shared) (u : Value) (ws : List Value), K.In s.heap → ws.length = ks.length → BindsTo s fd ⟨[u], ks.zip ws⟩ (ps.zip (u :: permL idx ws))) ∧ ps.length = np ∧ FnG gd P w K mg base (L2.CX P w) k f fd ps (spD K np r)
def mMakeK (nk np : Nat) (cn : Str) (r : Fn) (idx : List Nat) (fs : M (List AV)) : M RV := mbind fs fun as => if as.length = nk ∧ (permL idx as).length + 1 = np then runMake cn r [] (permL idx as) else fun _ => .bad
theorem r_makeK {gd : Bool} {k nk : Nat} {np : Nat} {ks : List Str} {idx : List Nat} {r : Fn} {E : XK} (hK : C.K = X.K) (F : MakeKOk gd X.prog X.w X.K X.mg X.base k x np ks idx r) (hgd : gd = true → X.A.guards = some []) (hr : Room (k + 1) X.A) (hg : Gl X x) (hx : Passes (L2.CX X.prog X.w) X E)
    (ha : DK X C (wx E) kws fs) (hdb : (x == ("__debug__" : Str)) = false := by decide) (hall : (backToKw pos (keywordEach kws X.env)).all (·.1.isSome) = true := by rfl) (hks : (backToKw pos (keywordEach kws X.env)).filterMap (·.1) = ks := by rfl)
    (hpl : ((backTo pos (starEach [] X.env)).any (·.1) || (backToKw pos (keywordEach kws X.env)).any (·.1.isNone)) = false := by rfl) (hnk : ks.length = nk := by rfl) :
    DR X C (wx E) (.Call (.Name x p) [] kws pos) (mMakeK nk np x r idx fs) := by
  subst hnk
  obtain ⟨f, fd, ps, M, hb, hps, Fg⟩ := F.ex
  refine ⟨fun pins s σ H Q I h => ?_⟩
  obtain ⟨F0, s0, r0, q0⟩ := h
  refine wpAny_Call_Name_kw (ld_glob I hg F.cls ?_ hdb)
  refine PySem.W.callWith_KW0 (h₀ := X.base) I.ok.mod.kin M.kp hall (thn (ha.run pos pins s σ H (fun vs H1 => vs.length = ks.length ∧ ∀ y dx, H1 y = none → H1 dx = none → dx ≠ y → spD X.K np r (.ref y :: permL idx vs) (upd (upd H1 dx (.own y)) y (.ins (He.ga X.K x) dx [])) (fun v H2 => v = .non ∧ Q (.ref y) H2) E) I ⟨F0, s0, r0, (Post.bind q0).mono fun as s1 H1 F1 r1 u1 q1 vs hv => ?_⟩) fun ws s2 ⟨vs, H1, I1, rv, hl, h⟩ => ⟨I1.kIn, ?_⟩) hpl
  · by_cases hl : as.length = ks.length ∧ (permL idx as).length + 1 = np
    · rw [if_pos hl] at q1
      refine ⟨by rw [hv.len]; exact hl.1, ?_⟩
      have := run_spM (dvs := []) (dds := []) (vs := permL idx vs) (np := np) (fun _ => .nil) r1 (hv.perm idx) (by rw [List.append_nil, perm_len hv]; exact hl.2) q1
      simp only [List.append_nil, hK] at this
      exact this
    · rw [if_neg hl] at q1
      exact q1.elim
  · rw [hks]
    have hq := h (s2.heap.objs.size + 1) s2.heap.objs.size (I1.hok.fresh (Nat.le_succ _)) (I1.hok.fresh (Nat.le_refl _)) (Nat.ne_of_lt (Nat.lt_succ_self _))
    have I2 := Inv.made (C := He.ga X.K x) I1
    have r2 : Vals (V.ref (s2.heap.objs.size + 1) :: permL idx vs) (Value.ref (s2.heap.objs.size + 1) :: permL idx ws) := .cons rfl (vals_perm rv idx)
    refine wpAny_call (make_map (f := f) I1.kIn M.makes M.init (beq_iff_eq.mp M.fn) (codeAny_mono (Fg.run _ X.stack _ _ ⟨Value.ref (s2.heap.objs.size + 1) :: [], ks.zip ws⟩ (Value.ref (s2.heap.objs.size + 1) :: permL idx ws) _ _ E (fun z => make_guards (hgd z)) (hr.make (He.ga X.K x) [] (ks.zip ws))
      (I2.env0.make (He.ga X.K x) [] (ks.zip ws)) (hb _ _ ws I2.kIn (by rw [← rv.length]; exact hl)) r2 hq) fun r s' hq' => ?_))
    cases r with
    | error e => exact hx pins σ _ _ e s' I2 hq'
    | ok fl =>
      cases fl with
      | ret u =>
        obtain ⟨v, H', I3, rv, ev, q3⟩ := I2.after hq'
        subst ev
        exact ⟨rv, ⟨V.ref (s2.heap.objs.size + 1), H', I3, rfl, q3⟩⟩
      | next => exact False.elim hq'
      | brk => exact False.elim hq'
      | cont => exact False.elim hq'
end
end DL
set_option maxHeartbeats 2000000
/-! DL21: methods of lists (count, index), {}, comprehensions with two clauses. -/
namespace DL
open PySem PySem.Spec PyProof.Rows L2
section
variable {C : Ct} {W : WX} {X : Cx} {σ : L2.St} {H F H' F' : Hp} {s : S} {fa fb fe : M D} {a b e o : Expr} {es : List Expr} {fs : M (List D)} {fr : M RV} {pos p apos kpos : Pos} {K : PySem.W.Frag} {x m : Str} {fi fi1 : M (List D)} {tg iter tg1 iter1 elt : Expr}
/-! ### methods of lists -/
def rCountD (K : PySem.W.Frag) : V → List V → Hp → VK → Prop := fun x xs H Q => ∃ (a : Addr) (y : V) (d : PyData) (ds : List PyData), x = V.ref a ∧ xs = [y] ∧ Dp K H (V.ref a) (.list ds) ∧ Dp K H y d ∧
  SeqAt.shaped (.list ds) = true ∧ SeqAt.shaped d = true ∧ Q (.int ((ds.countP fun z => PyData.eqv z d : Nat) : Int)) H
theorem mt_countD (hu : X.A.units + 65 < cLine) : MtR X "list.count" (rCountD X.K) := by
  intro pins s σ H x xs v us Q I rx rxs h
  obtain ⟨a, y, d, ds, rfl, rfl, hl, hy, sl, sd, q⟩ := h
  cases rx
  cases rxs with
  | cons ry rt =>
    rename_i uy ut
    cases rt
    obtain ⟨bs, r1⟩ := Dp.reads I d y uy hy ry
    have hxs : PyData.canLayAll0 ds = true := SeqAt.canLay_of_shaped sl
    have hroom : X.A.units + 1 + min (PyData.depthAll ds) d.depth < cLine := room_in_shaped sd hu
    cases hl with
    | lst hs ha =>
      obtain ⟨its, rv, ⟨⟨cls, dd, data, sls⟩, n, ho, hc, hdn, hdt⟩, hlen⟩ := I.list hs
      simp only at hc hdt
      subst hc hdt
      obtain ⟨as, h4⟩ := Dp.readsAll I ds _ its ha rv
      have hmap : its.map (SeqAt.readOf s.heap) = ds := SeqAt.readsAll_map ds its as hxs h4
      refine call_meets PySem.F.slot_list_count ⟨_, ho, rfl⟩ PySem.F.entry_list_count (PySem.F.args_list_count_2 _ _)
        (SeqAt.list_countAt a its.toArray n dd sls uy (fun u => PyData.eqv (SeqAt.readOf s.heap u) d)) ⟨ho, SeqAt.items_eqAt (vs := its.toArray) (show ReadsAll s.heap its.toArray.toList ds as from h4) r1 hxs (SeqAt.canLay_of_shaped sd) hroom, ?_⟩
      have e : its.toArray.toList.countP (fun u => PyData.eqv (SeqAt.readOf s.heap u) d) = ds.countP fun z => PyData.eqv z d := by
        rw [← hmap, List.countP_map]
        rfl
      rw [e]
      exact ⟨.int _, H, I.tok _, ⟨_, rfl⟩, q⟩
def OpL (K : PySem.W.Frag) (r : RM) (g : List D → List D → Option D) : Prop :=
  ∀ (H F : Hp) (a : Addr) (xs : List V) (dl : List D) (vs : List V) (ds : List D) (d' : D), Sub F H → Rd F a (.lst xs) → IsAll K F xs dl → IsAll K F vs ds → g dl ds = some d' → ∀ Q : VK, (∀ v H' F', Ext H F H' F' → Is K F' v d' → Q v H') → r (.ref a) vs H Q
structure MetL (X : Cx) (bid : String) (name : Str) (g : List D → List D → Option D) : Prop where
  pa : PlainAttrs "list"
  slot : PySem.Slot "list" name bid
  hty : typeOf (.builtin bid) = pure (.type "method_descriptor")
  ov : ∃ r, MtR X bid r ∧ OpL X.K r g
def lstD : D → Option (List D)
  | .lst xs => some xs
  | _ => none
def metL (g : List D → List D → Option D) (fo : M D) (fs : M (List D)) : M D := mbind fo fun d => mbind (mopt (lstD d)) fun z => mbind fs fun ds => mopt (g z ds)
theorem d_metL {bid : String} {name : Str} {g : List D → List D → Option D} {o : Expr} {cpos : Pos} (hK : C.K = X.K) (m : MetL X bid name g) (ho : DE X C W o fa) (ha : DA X C W (e :: es) fs)
    (hbase : attributeBase o name X.env (eval o X.env) = eval o X.env := by rfl)
    (hfew : ((backTo cpos (starEach (e :: es) X.env)).all (fun x => !x.1) && (backToKw cpos (keywordEach [] X.env)).all (fun x => x.1.isSome)
      && decide ((e :: es).length + ([] : List Keyword).length + (if ([] : List Keyword).isEmpty then 0 else 1) < 30)) = true := by rfl)
    (hline : (apos.endLine == cpos.line) = true := by rfl) (hs : starEach (e :: es) X.env = (false, eval e X.env) :: starEach es X.env := by rfl) (hplain : (backTo cpos (starEach es X.env)).any (·.1) = false := by rfl) :
    DE X C W (.Call (.Attribute o name apos) (e :: es) [] cpos) (metL g fa fs) := by
  obtain ⟨r, hm, ov⟩ := m.ov
  refine pe_imp (pe_bm m.pa m.slot m.hty hm ho ha hbase hfew hline hs hplain) fun σ H Q ⟨F, s, rr, q⟩ => ⟨F, s, rr, (Post.bind q).mono fun d s1 H1 F1 r1 u1 q1 v iv => ?_⟩
  obtain ⟨z, e0, q1'⟩ := post_optB (Post.bind q1) r1
  have q1'' := q1' H1 F1 (Ext.refl r1.sub)
  cases iv with
  | lst h1 h2 =>
    cases e0
    refine ⟨.inl ⟨rfl, _, .inl (r1.sub.rd h1)⟩, F1, s1, r1, (Post.bind q1'').mono fun ds s2 H2 F2 r2 u2 q2 vs ivs => ?_⟩
    obtain ⟨d', e1, q4⟩ := post_val q2 r2
    rw [hK] at ivs h2
    have q4 : ∀ H' F', Ext H2 F2 H' F' → ∀ v, Is X.K F' v d' → Q v H' := by rw [← hK]; exact q4
    exact ov H2 F2 _ _ _ vs ds d' r2.sub (u2.rd h1) (h2.up u2) ivs e1 Q fun v H' F' ex iv => q4 H' F' ex v iv
  | _ => cases e0
def cntL (dl : List D) : List D → Option D
  | [d] => if (d.ok 10 && (D.lst dl).ok 10) = true then some (.int ((dl.countP fun z => PyData.eqv z.py d.py : Nat) : Int)) else none
  | _ => none
theorem m_count (hu : X.A.units + 65 < cLine) : MetL X "list.count" "count" cntL := by
  refine ⟨PySem.F.plainAttrs_list, PySem.F.slot_list_count, PySem.F.type_list_count, _, mt_countD hu, ?_⟩
  intro H F a xs dl vs ds d' su h1 h2 h3 hg Q q
  cases h3 with
  | nil => cases hg
  | cons h3 h4 =>
    cases h4 with
    | cons _ _ => cases hg
    | nil =>
      rename_i y d
      obtain ⟨hl, rfl⟩ := ifb_some (show (if (d.ok 10 && (D.lst dl).ok 10) = true then some (D.int ((dl.countP fun z => PyData.eqv z.py d.py : Nat) : Int)) else none) = some d' from hg)
      rw [Bool.and_eq_true] at hl
      have z := dp_up su ((Is.lst h1 h2).dp 10 hl.2)
      rw [D.py] at z
      have sh := ok_shaped hl.2 (by decide)
      rw [D.py] at sh
      refine ⟨a, y, d.py, _, rfl, rfl, z, dp_up su (h3.dp 10 hl.1), sh, ok_shaped hl.1 (by decide), ?_⟩
      rw [pys_map, List.countP_map]
      exact q _ H F (Ext.refl su) (.int _)
def idxL (dl : List D) : List D → Option D
  | [d] => if (d.ok 10 && (D.lst dl).ok 10) = true then (dl.findIdx? fun z => PyData.eqv z.py d.py).map fun j => .int (j : Nat) else none
  | _ => none
theorem m_index (hu : X.A.units + 65 < cLine) : MetL X "list.index" "index" idxL := by
  refine ⟨PySem.F.plainAttrs_list, PySem.F.slot_list_index, PySem.F.type_list_index, _, mt_indexD hu, ?_⟩
  intro H F a xs dl vs ds d' su h1 h2 h3 hg Q q
  cases h3 with
  | nil => cases hg
  | cons h3 h4 =>
    cases h4 with
    | cons _ _ => cases hg
    | nil =>
      rename_i y d
      have hg : (if (d.ok 10 && (D.lst dl).ok 10) = true then (dl.findIdx? fun z => PyData.eqv z.py d.py).map fun j => D.int (j : Nat) else none) = some d' := hg
      by_cases hl : (d.ok 10 && (D.lst dl).ok 10) = true
      · rw [if_pos hl] at hg
        obtain ⟨j, hj, rfl⟩ := Option.map_eq_some_iff.mp hg
        rw [Bool.and_eq_true] at hl
        have z := dp_up su ((Is.lst h1 h2).dp 10 hl.2)
        rw [D.py] at z
        have sh := ok_shaped hl.2 (by decide)
        rw [D.py] at sh
        obtain ⟨k1, k2, k3⟩ := List.findIdx?_eq_some_iff_getElem.mp hj
        refine ⟨a, y, d.py, _, j, dl[j].py, rfl, rfl, z, dp_up su (h3.dp 10 hl.1), sh, ok_shaped hl.1 (by decide), ?_, k2, fun m z' hm hz' => ?_, q _ H F (Ext.refl su) (.int _)⟩
        · rw [pys_map, List.getElem?_map, List.getElem?_eq_getElem k1]; rfl
        · rw [pys_map, List.getElem?_map, List.getElem?_eq_getElem (by omega)] at hz'
          cases hz'
          have := k3 m hm
          simpa using this
      · rw [if_neg hl] at hg; cases hg
/-! ### {} -/
theorem d_dict0 : DE X C W (.Dict [] [] pos) (mret (.dic [])) := pe_imp pe_dnewK fun σ H Q ⟨F, s, r, q⟩ p n => by
  have q : ∀ H' F', Rel C σ H' F' s → Sub F F' → ∀ v, Is C.K F' v (.dic []) → Q v H' := q
  exact q _ _ (r.ext (ext_new r.sub n)) (ext_new r.sub n).f _ (.dic upd_same .nil)
/-! ### [elt for pt in iter if test for pt1 in iter1 if test1] -/
end
end DL
set_option maxHeartbeats 2000000
/-! DL23: t[::-1], t a tuple. -/
namespace DL
open PySem PySem.Spec PyProof.Rows L2
section
variable {prog : Program} {w : World} {A : Around} {E : Value → Shared → Prop} {s : Shared}
theorem adj_rev (n : Nat) : Builtin.Slice.sliceAdjust none none (-1) (n : Int) = ((n : Int) - 1, -1) := rfl
theorem plc_rev (n : Nat) : Builtin.Slice.slicePlaces ((n : Int) - 1) (-1) (-1) = n := by
  unfold Builtin.Slice.slicePlaces
  have h1 : ¬ ((-1 : Int) > 0) := by omega
  simp only [h1, if_false]
  have e : (-(-1 : Int)) = 1 := by omega
  rw [e, Int.ediv_one]
  split <;> omega
theorem applied_rev {sl : Addr} {t : Tok} {n : Nat} {Q : Int × Int × Nat → Shared → Prop} (hs : s.heap.IsSliceOf sl .none .none (.int (-1) t)) (h : Q ((n : Int) - 1, -1, n) s) :
    wpAny (model prog w) A (Builtin.Slice.sliceApplied (.ref sl) (pure (n : Int))) Q E s := by
  obtain ⟨os, hos, hcs, hds⟩ := id hs
  unfold Builtin.Slice.sliceApplied Builtin.Slice.sliceFields
  refine wpAny_bind (wpAny_bind (wpAny_field hos hds (x := .none) rfl (wpAny_bind (wpAny_field hos hds (x := .none) rfl (wpAny_bind (wpAny_field hos hds (x := .int (-1) t) rfl (wpAny_pure ?_)))))))
  refine wpAny_bind (HT.slicePart_ (.int (-1) t) ?_)
  show wpAny _ _ (if ((-1 : Int) == 0) = true then _ else _) _ _ s
  rw [if_neg (by decide)]
  refine wpAny_bind (HT.slicePart_ .none (wpAny_bind (HT.slicePart_ .none (wpAny_bind (wpAny_pure ?_)))))
  show wpAny _ _ (match Builtin.Slice.sliceAdjust none none (-1) (n : Int) with | (lo, hi) => pure (lo, (-1 : Int), Builtin.Slice.slicePlaces lo hi (-1))) _ _ s
  rw [adj_rev n]
  show wpAny _ _ (pure ((n : Int) - 1, (-1 : Int), Builtin.Slice.slicePlaces ((n : Int) - 1) (-1) (-1))) _ _ s
  rw [plc_rev]
  exact wpAny_pure h
theorem pick_rev (xs : Array Value) : ((List.range xs.size).filterMap fun (m : Nat) => xs[((xs.size : Int) - 1 + (m : Int) * (-1)).toNat]?).toArray = xs.toList.reverse.toArray := by
  congr 1
  apply List.ext_getElem?
  intro i
  by_cases hi : i < xs.size
  · have e1 : ∀ k, k ≤ xs.size → ((List.range k).filterMap fun (m : Nat) => xs[((xs.size : Int) - 1 + (m : Int) * (-1)).toNat]?) = (xs.toList.reverse).take k := by
      intro k
      induction k with
      | zero => intro _; simp
      | succ k ih =>
        intro hk
        rw [List.range_succ, List.filterMap_append, ih (by omega)]
        have e2 : ((xs.size : Int) - 1 + (k : Int) * (-1)).toNat = xs.size - 1 - k := by omega
        have h3 : xs.size - 1 - k < xs.size := by omega
        have h4 : k < xs.toList.reverse.length := by simp; omega
        rw [List.take_add_one, List.getElem?_eq_getElem h4]
        simp only [List.filterMap_cons, e2, Array.getElem?_eq_getElem h3, List.filterMap_nil, List.getElem_reverse, Array.length_toList, Array.getElem_toList, Option.toList]
    rw [e1 xs.size (Nat.le_refl _), List.take_of_length_le (by simp)]
  · have h1 : ((List.range xs.size).filterMap fun (m : Nat) => xs[((xs.size : Int) - 1 + (m : Int) * (-1)).toNat]?).length ≤ xs.size := by
      have := List.length_filterMap_le (fun (m : Nat) => xs[((xs.size : Int) - 1 + (m : Int) * (-1)).toNat]?) (List.range xs.size)
      simpa using this
    rw [List.getElem?_eq_none (by omega), List.getElem?_eq_none (by simp; omega)]
theorem getItem_rev {t sl : Addr} {tk : Tok} {items : Array Value} {Q : Value → Shared → Prop} (ht : IsTup s.heap t items) (hs : s.heap.IsSliceOf sl .none .none (.int (-1) tk))
    (h : Q (.ref s.heap.objs.size) { s with heap := s.heap.push { cls := .type "tuple", data := .seq items.toList.reverse.toArray } })
    (hsz : items.size ≤ sizeLine) : wpAny (model prog w) A (getItem (.ref t) (.ref sl)) Q E s := by
  have htake : sizeOk (.seq items.toList.reverse.toArray) := by
    show items.toList.reverse.toArray.size ≤ sizeLine
    rw [List.size_toArray, List.length_reverse, Array.length_toList]
    exact hsz
  obtain ⟨os, hos, hcs, hds⟩ := id hs
  have hTs : s.TypeIs (.ref sl) "slice" := ⟨os, hos, hcs⟩
  unfold getItem
  try with_reducible refine wpAny_holding ?_
  first | refine wpAny_bind (wpAny_pure ?_) | skip
  refine wpAny_bind (wpAny_sequenceKey ht.typeIs (by decide) ?_)
  refine wpAny_bind (wpAny_callSpecial?_slot (name := Str.ofString "__getitem__") ht.typeIs PyProof.Rows.slot_tuple_getitem
    (wpAny_call_entry PyProof.Rows.slot_tuple_getitem ht.typeIs entry_tuple_getitem ?_ (args_tuple_getitem _ _)))
  show wpAny _ _ (Builtin.Tuple.tupleItemsOf (.ref t) >>= _) _ _ s
  refine wpAny_bind (tupleItemsOf_ ht ?_)
  refine wpAny_bind (wpAny_typeOf hTs ?_)
  rw [if_pos (by decide)]
  refine wpAny_bind (applied_rev (n := items.size) hs ?_)
  have hno : ¬ ((((items.size : Int) - 1) == 0 && (-1 : Int) == 1 && items.size == items.size) = true) := by
    intro q
    rw [Bool.and_eq_true, Bool.and_eq_true] at q
    exact absurd q.1.2 (by decide)
  show wpAny _ _ (if (((items.size : Int) - 1) == 0 && (-1 : Int) == 1 && items.size == items.size) = true then _ else _) _ _ s
  rw [if_neg hno, pick_rev]
  first
    | exact wpAny_bind (m := Builtin.Tuple.tupleExact _) (wpAny_newObj_type (wpAny_pure ⟨_, rfl, wpAny_pure h⟩) htake)
    | exact wpAny_bind (m := Builtin.Tuple.tupleExact _) (wpAny_newObj_type (wpAny_bind (wpAny_pure (wpAny_pure ⟨_, rfl, wpAny_pure h⟩))) htake)
    | exact wpAny_bind (wpAny_bind (m := Builtin.Tuple.tupleExact _) (wpAny_newObj_type (wpAny_pure (wpAny_pure ⟨_, rfl, wpAny_pure h⟩)) htake))
    | exact wpAny_bind (wpAny_bind (m := Builtin.Tuple.tupleExact _) (wpAny_newObj_type (wpAny_pure ⟨_, rfl, wpAny_pure h⟩) htake))
end
section
variable {X : Cx} {e : Expr} {te : TE} {pos p2 p3 p4 : Pos}
def rRev (K : PySem.W.Frag) : V → Hp → VK → Prop := fun x H Q => ∃ a xs, x = .ref a ∧ SqT K H a xs ∧ ∀ p, H p = none → Q (.ref p) (upd H p (.tup xs.reverse))
theorem vals_rev {vs : List V} {us : List Value} (r : Vals vs us) : Vals vs.reverse us.reverse := by
  induction r with
  | nil => exact .nil
  | cons h t ih =>
    rw [List.reverse_cons, List.reverse_cons]
    exact Vals.append ih (.cons h .nil)
theorem pe_rev (he : PE X e te) : PE X (.Subscript e (.Slice none none (some (.UnaryOp .USub (.Constant (.int 1) 0 p4) p3)) p2) pos) (tUn (rRev X.K) te) := by
  refine ⟨fun pins s σ H Q I h => ?_⟩
  refine Subscript_ (thn (he.run pins s σ H _ I h) fun v s1 ⟨x, H1, I1, r1, q1⟩ => ?_)
  refine wpAny_Slice ?_
  rw [evalPart_none, evalPart_some]
  refine wpAny_pure (wpAny_pure ?_)
  have hm : PE X (.UnaryOp .USub (.Constant (.int 1) 0 p4) p3) (tUn (rU fun i => .int (-i)) (tC (.int 1))) := pe_un un_neg pe_int
  refine thn (hm.run pins s1 σ H1 (fun y H2 => y = .int (-1) ∧ H2 = H1) I1 ⟨1, rfl, rfl, rfl⟩) fun vt s2 ⟨y, H2, I2, r2, q2⟩ => ?_
  obtain ⟨rfl, rfl⟩ := q2
  obtain ⟨tk, rfl⟩ := r2
  obtain ⟨a, xs, rfl, hx, q⟩ := q1
  cases r1
  have I4 : Inv X pins σ H2 { s2 with heap := s2.heap.push { cls := .type "slice", data := .fields #[.none, .none, .int (-1) tk] } } := I2.kept (t' := s2.toks) fun b ob q => Heap.get?_push_of_some _ q
  obtain ⟨its, r, ht, hz⟩ := I4.tuple hx
  have hlen : its.toArray.size = xs.length := by rw [List.size_toArray]; exact r.length.symm
  have hg : wpAny (model X.prog X.w) X.A (getItem (.ref a) (.ref s2.heap.objs.size)) (EP X pins σ Q) X.xe { s2 with heap := s2.heap.push { cls := .type "slice", data := .fields #[.none, .none, .int (-1) tk] } } := by
    refine getItem_rev ht (Heap.IsSliceOf.new ..) ?_ (by rw [hlen]; exact hz)
    refine ⟨.ref _, _, I4.laid (t' := s2.toks) (o := .tup xs.reverse) (fun b ob q => Heap.get?_push_of_some _ q) (Nat.le_refl _) ?_, rfl, q _ (I4.hok.fresh (Nat.le_refl _))⟩
    exact ⟨by rw [List.length_reverse]; exact hz, _, vals_rev r, IsTup.new _ _⟩
  exact tail_any (ops := [.ref a, .ref s2.heap.objs.size]) ht.typeIs PyProof.Rows.slot_tuple_getitem.lookup hg (by with_unfolding_all rfl)
end
section
variable {X : Cx} {C : Ct} {W : WX} {e : Expr} {fa : M D} {pos p2 p3 p4 : Pos}
def revD : D → Option D
  | .tup xs => some (.tup xs.reverse)
  | _ => none
theorem IsAll.snoc {K : PySem.W.Frag} {F : Hp} {vs : List V} {ds : List D} {v : V} {d : D} (h : IsAll K F vs ds) (hv : Is K F v d) : IsAll K F (vs ++ [v]) (ds ++ [d]) := by
  induction vs generalizing ds with
  | nil => cases h; exact .cons hv .nil
  | cons w vs ih =>
    cases h with
    | cons a b => exact .cons a (ih b)
theorem IsAll.back {K : PySem.W.Frag} {F : Hp} : {vs : List V} → {ds : List D} → IsAll K F vs ds → IsAll K F vs.reverse ds.reverse
  | _, _, .nil => .nil
  | _, _, .cons a b => by
    rw [List.reverse_cons, List.reverse_cons]
    exact (IsAll.back b).snoc a
theorem d_rev (hK : C.K = X.K) (he : DE X C W e fa) : DE X C W (.Subscript e (.Slice none none (some (.UnaryOp .USub (.Constant (.int 1) 0 p4) p3)) p2) pos) (un revD fa) := by
  refine pe_imp (pe_rev he) (t_un ?_)
  intro H F x d d' su hx hg Q q
  rw [hK] at hx q
  cases hx with
  | tup h1 h2 =>
    cases hg
    exact ⟨_, _, rfl, su.t h1, fun p n => q _ _ _ (ext_new su n) (new_tup su n h2.back)⟩
  | _ => cases hg
end
end DL
set_option maxHeartbeats 2000000
/-! DL24: C.m(..), m a classmethod. -/
namespace DL
open PySem PySem.Spec PyProof.Rows L2
end DL
set_option maxHeartbeats 2000000
/-! DL25: cls(..), cls a name of the def that holds an own class. -/
namespace DL
open PySem PySem.Spec PyProof.Rows L2
end DL
set_option maxHeartbeats 2000000
/-! DL26: C.m(k = v, ..), m a classmethod. -/
namespace DL
open PySem PySem.Spec PyProof.Rows L2
section
variable {X : Cx} {C : Ct} {W : WX} {a b c : Expr} {g g' : D → D → Option D} {fa fb fc : M D} {pos : Pos}
theorem dt_chain {op op' : CmpOp} (hK : C.K = X.K) (ho : OpD X (compareOp op) g) (ho' : OpD X (compareOp op') g') (ha : DE X C W a fa) (hb : DE X C W b fb) (hc : DE X C W c fc)
    (hm : lastMarks [op, op'] [b, c] = false := by with_unfolding_all rfl) : DT X C W (.Compare a [op, op'] [b, c] pos) (asB (chain g g' fa fb fc)) := by
  obtain ⟨r, o1, o2⟩ := ho
  obtain ⟨r', o1', o2'⟩ := ho'
  exact pt_imp (pt_chain o1 o1' ha hb hc hm) (t_test _ _ (t_chain (by rw [hK]; exact o2) (by rw [hK]; exact o2')))
end
end DL
set_option maxHeartbeats 2000000
/-! DL27: slots forgotten; while; op= by values; xs += ys; starred items of a display. -/
namespace DL
open PySem PySem.Spec PyProof.Rows L2
section
variable {C : Ct} {W : WX} {X : Cx} {σ : L2.St} {H F : Hp} {s : S} {fa fb fc fe : M D} {a b c e : Expr} {es : List Expr} {fs : M (List D)} {pos p apos : Pos} {K : PySem.W.Frag} {x : Str} {st : Stmt} {body : List Stmt} {f : S → Out} {tg iter elt : Expr} {fi : M (List D)}
/-! ### forgetting -/
theorem Rel.forget (r : Rel C σ H F s) (vs : List Nat) : Rel C σ H F (s.wipe vs) where
  sub := r.sub
  keep := r.keep
  f0 := r.f0
  len := by show (wipeL vs 0 s.sl).length = _; rw [wipeL_len]; exact r.len
  slot := fun i x e => by
    have e : (wipeL vs 0 s.sl)[i]? = some x := e
    rw [wipeL_get, Nat.zero_add] at e
    obtain ⟨y, e1, rfl⟩ := Option.map_eq_some_iff.mp e
    by_cases m : vs.contains i
    · rw [if_pos m]; trivial
    · rw [if_neg m]
      exact r.slot i y e1
  iol := r.iol
  io := r.io
  ap := fun i j a ⟨e1, c1, h1⟩ ⟨e2, c2, h2⟩ => by
    have key : ∀ {i : Nat} {c : Cell}, (wipeL vs 0 s.sl)[i]? = some (.own c) → s.sl[i]? = some (.own c) := fun {i c} e => by
      rw [wipeL_get, Nat.zero_add] at e
      obtain ⟨y, e1, e2⟩ := Option.map_eq_some_iff.mp e
      by_cases m : vs.contains i
      · rw [if_pos m] at e2; cases e2
      · rw [if_neg m] at e2; rw [e1, e2]
    exact r.ap i j a ⟨e1, c1, key h1⟩ ⟨e2, c2, key h2⟩
  inn := r.inn
  nd := r.nd
  s0 := r.s0
  tabs := r.tabs
def wipeO (vs : List Nat) (f : S → Out) : S → Out := fun s => match f s with
  | .nx s' => .nx (s'.wipe vs)
  | .ct s' => .ct (s'.wipe vs)
  | .bk s' => .bk (s'.wipe vs)
  | .rt v s' => .rt v s'
  | .exc c fs s' => .exc c fs s'
  | .bad => .bad
theorem PostS.wipe {vs : List Nat} {o : Out} {nx : L2.St → Hp → Prop} {rt : VK} {bk ct : L2.St → Hp → Prop}
    (q : PostS C W F (match o with
      | .nx s' => .nx (s'.wipe vs)
      | .ct s' => .ct (s'.wipe vs)
      | .bk s' => .bk (s'.wipe vs)
      | .rt v s' => .rt v s'
      | .exc c fs s' => .exc c fs s'
      | .bad => .bad) nx rt bk ct) : PostS C W F o nx rt bk ct := by
  cases o with
  | nx s' => exact fun σ' H' F' r u => q σ' H' F' (r.forget vs) u
  | ct s' => exact fun σ' H' F' r u => q σ' H' F' (r.forget vs) u
  | bk s' => exact fun σ' H' F' r u => q σ' H' F' (r.forget vs) u
  | rt v s' => exact q
  | exc c fs s' => exact q
  | bad => exact q
theorem db_wipe {body : List Stmt} (vs : List Nat) (h : DB X C W body f) : DB X C W body (wipeO vs f) :=
  pss_imp h fun E σ H ⟨F, s, r, q⟩ => ⟨F, s, r, PostS.wipe q⟩
def iWipe (vs : List Nat) (fi : M (List D)) : M (List D) := mbind fi fun ds s => .ok ds (s.wipe vs)
theorem di_wipe (vs : List Nat) (h : DI X C W tg e fi) : DI X C W tg e (iWipe vs fi) := by
  refine pi_imp h fun σ H R ⟨F, s, r, q⟩ => ⟨F, s, r, (Post.bind q).mono fun ds s1 H1 F1 r1 u1 q1 => ?_⟩
  exact q1 H1 F1 (r1.forget vs) (Sub.refl _)
/-- for, with what is forgotten at each turn's end -/
def sForW (vs : List Nat) (fi : M (List D)) (p : Pat) (f : S → Out) : S → Out := sFor (iWipe vs fi) p (wipeO vs f)
theorem ds_forW {pt : Pat} (vs : List Nat) (hK : C.K = X.K) (hp : PassesOwn (model X.prog X.w) X.A X.env X.xe) (hc : X.calm = true) (hi : DI X C W tg iter fi) (hg : PG X tg (pt.g X.K)) (hb : DB X C W body f)
    (hs : ∀ x, foldedSetIterable iter X.env x = pure x := by intro _; rfl) : DS X C W (.For tg iter body [] pos) (sForW vs fi pt f) :=
  ds_for hK hp hc (di_wipe vs hi) hg (db_wipe vs hb) hs
/-! ### while -/
/-! ### name op= e, by values -/
def sAugV (i : Nat) (g : D → D → Option D) (fe : M D) : S → Out := fun s => match s.sl[i]? with
  | some (.val a) => sOf fe (fun y s => match g a y with
    | some d => .nx (s.put i (.val d))
    | none => .bad) s
  | _ => .bad
/-! ### xs += ys -/
/-! ### starred -/
def itemsT : D → Option (List D)
  | .lst xs => some xs
  | .tup xs => some xs
  | _ => none
def aStar (fa : M D) (fs : M (List D)) : M (List D) := mbind fa fun d => mbind (mopt (itemsT d)) fun xs => mbind fs fun ds => mret (xs ++ ds)
end
end DL
set_option maxHeartbeats 2000000
/-! DL28: sorted of tuples of ints of any length, of ints, of texts. -/
namespace DL
end DL
namespace SrtO
open PySem PyProof.Rows Srt
section
variable {prog : Program} {w : World} {A : Around} {E : Value → Shared → Prop} {s : Shared}
/-- what is sorted: tuples of ints, none empty -/
def TupsL (h : Heap) (vs : List Value) : Prop := ∀ v, v ∈ vs → ∃ ns, TS.TupInts h v ns ∧ ns ≠ []
theorem TupsL.keeps {h h' : Heap} {vs : List Value} (x : TupsL h vs) (k : ∀ b o, h.get? b = some o → o.cls = .type "tuple" → h'.get? b = some o) : TupsL h' vs := fun v hv =>
  let ⟨ns, t, r⟩ := x v hv; ⟨ns, t.keeps k, r⟩
end
end SrtO
namespace DL
open PySem PySem.Spec PyProof.Rows L2
section
variable {X : Cx} {K : PySem.W.Frag} {F H : Hp}
/-! ### over data -/
theorem IsAll.perm {ys xs : List V} (p : ys.Perm xs) : ∀ {ds : List D}, IsAll K F xs ds → ∃ es, es.Perm ds ∧ IsAll K F ys es := by
  induction p with
  | nil => intro ds h; exact ⟨ds, .refl _, h⟩
  | cons x p ih =>
    intro ds h
    cases h with
    | cons h r =>
      obtain ⟨es, e1, e2⟩ := ih r
      exact ⟨_, e1.cons _, .cons h e2⟩
  | swap x y l =>
    intro ds h
    cases h with
    | cons h r =>
      cases r with
      | cons h2 r => exact ⟨_, .swap _ _ _, .cons h2 (.cons h r)⟩
  | trans p1 p2 ih1 ih2 =>
    intro ds h
    obtain ⟨es, e1, e2⟩ := ih2 h
    obtain ⟨fs, f1, f2⟩ := ih1 e2
    exact ⟨fs, f1.trans e1, f2⟩
/-! ### ints, texts -/
end
end DL
set_option maxHeartbeats 2000000
/-! DL29: dict(zip(xs, ys)) over tuples. -/
namespace DZ
open PySem PySem.Spec PyProof.Rows RZ
section
variable {prog : Program} {w : World} {A : Around} {E : Value → Shared → Prop} {s : Shared} {z TI TO T i1 i2 l1 l2 : Addr} {k : Nat} {xs ys : Array Value} {f : Bool} {oT : Obj}
/-- both iterators stand at k -/
structure At2 (h : Heap) (TI i1 i2 l1 l2 : Addr) (xs ys : Array Value) (k : Nat) : Prop where
  ti : IsPair h TI (.ref i1) (.ref i2)
  a : h.IsTupleIter i1 l1 k
  b : h.IsTupleIter i2 l2 k
  x : h.IsTuple l1 xs
  y : h.IsTuple l2 ys
theorem At2.keep {h h' : Heap} (t : At2 h TI i1 i2 l1 l2 xs ys k) (kk : ∀ b o, b = TI ∨ b = i1 ∨ b = i2 ∨ b = l1 ∨ b = l2 → h.get? b = some o → h'.get? b = some o) : At2 h' TI i1 i2 l1 l2 xs ys k :=
  ⟨kk _ _ (by simp) t.ti, t.a.at fun o e => kk _ o (by simp) e, t.b.at fun o e => kk _ o (by simp) e, t.x.at fun o e => kk _ o (by simp) e, t.y.at fun o e => kk _ o (by simp) e⟩
theorem next_held {Q : Value → Shared → Prop} {x y : Value} (D : ZipApart z TI TO i1 i2 l1 l2) (hz : IsZipHeld s.heap z TI TO T f) (hT : s.heap.get? T = some oT) (t : At2 s.heap TI i1 i2 l1 l2 xs ys k)
    (ex : xs[k]? = some x) (ey : ys[k]? = some y)
    (hQ : ∀ h', IsZipHeld h' z TI TO T true → h'.IsTupleIter i1 l1 (k + 1) → h'.IsTupleIter i2 l2 (k + 1) → IsPair h' s.heap.objs.size x y →
      (∀ c o, c ≠ z → c ≠ i1 → c ≠ i2 → s.heap.get? c = some o → h'.get? c = some o) → Q (.ref s.heap.objs.size) { s with heap := h' }) :
    wpAny (model prog w) A (Builtin.«zip.__next__» ⟨[.ref z], []⟩) (fun fin s' => ∃ v, fin = .done (.ret v) ∧ Q v s') E s := by
  show wpAny _ _ (field (.ref z) 2 >>= _) _ _ _
  refine wpAny_bind (wpAny_field hz rfl (x := .bool false) rfl (show wpAny _ _ (field (.ref z) 3 >>= _) _ _ _ from wpAny_bind (wpAny_field hz rfl (x := .ref TI) rfl (wpAny_bind (wpAny_seqItems t.ti rfl ?_)))))
  refine (show wpAny _ _ (Builtin.SmallTypes.ownedTupleIsFree (.ref z) >>= _) _ _ _ from wpAny_bind (wpAny_tupleHeld_zip hz hT fun h1 z1 s1 => ?_))
  simp only [Bool.false_eq_true, if_false]
  refine wpAny_bind ?_
  rw [← Array.forIn_toList]
  simp only [List.forIn_cons, List.forIn_nil]
  refine wpAny_bind (wpAny_bind (wpAny_holding (show wpAny _ _ (Builtin.SmallTypes.nextOf (.ref i1) >>= _) _ _ _ from wpAny_bind ?_)))
  refine nextOf_tuple_item (s := { s with heap := h1 }) (t.a.extBut s1.extBut D.i1z) (t.x.extBut s1.extBut D.l1z) ex fun h2 a2 s2 => wpAny_pure (wpAny_pure ?_)
  refine wpAny_bind (wpAny_bind (wpAny_holding (show wpAny _ _ (Builtin.SmallTypes.nextOf (.ref i2) >>= _) _ _ _ from wpAny_bind ?_)))
  refine nextOf_tuple_item (s := { s with heap := h2 }) ((t.b.extBut s1.extBut D.i2z).extBut s2.extBut D.i12.symm) ((t.y.extBut s1.extBut D.l2z).extBut s2.extBut D.l2i1) ey fun h3 b3 s3 => wpAny_pure (wpAny_pure (wpAny_pure ?_))
  refine (show wpAny _ _ (newTuple [x, y] >>= _) _ _ _ from wpAny_bind (wpAny_newTuple ?_))
  have sz : h3.objs.size = s.heap.objs.size := by rw [s3.1, s2.1, s1.1]
  have up : ∀ c o, h3.get? c = some o → (h3.push { cls := .type "tuple", data := .seq #[x, y] }).get? c = some o := fun c o e => Heap.get?_push_of_some _ e
  refine wpAny_pure ⟨_, rfl, (show Q (.ref h3.objs.size) _ from ?_)⟩
  have hp : IsPair (h3.push { cls := .type "tuple", data := .seq #[x, y] }) h3.objs.size x y := Heap.get?_push_size _ rfl
  rw [sz] at hp ⊢
  exact hQ _ (up _ _ (s3.extBut _ _ D.i2z.symm (s2.extBut _ _ D.i1z.symm z1))) ((a2.extBut s3.extBut D.i12).at (up _)) (b3.at (up _)) hp fun c o c1 c2 c3 e => up _ _ (s3.extBut _ _ c3 (s2.extBut _ _ c2 (s1.extBut _ _ c1 e)))
theorem stop_held {Q : Fin → Shared → Prop} (hh : A.handled = none) (D : ZipApart z TI TO i1 i2 l1 l2) (hz : IsZipHeld s.heap z TI TO T f) (hT : s.heap.get? T = some oT) (t : At2 s.heap TI i1 i2 l1 l2 xs ys k)
    (hend : xs[k]? = none ∨ ys[k]? = none)
    (hE : ∀ h' e, (∀ c o, c ≠ z → c ≠ i1 → c ≠ i2 → s.heap.get? c = some o → h'.get? c = some o) → (∃ o, h'.get? e = some o ∧ o.cls = .type "StopIteration") → E (.ref e) { s with heap := h' }) :
    wpAny (model prog w) A (Builtin.«zip.__next__» ⟨[.ref z], []⟩) Q E s := by
  show wpAny _ _ (field (.ref z) 2 >>= _) _ _ _
  refine wpAny_bind (wpAny_field hz rfl (x := .bool false) rfl (show wpAny _ _ (field (.ref z) 3 >>= _) _ _ _ from wpAny_bind (wpAny_field hz rfl (x := .ref TI) rfl (wpAny_bind (wpAny_seqItems t.ti rfl ?_)))))
  refine (show wpAny _ _ (Builtin.SmallTypes.ownedTupleIsFree (.ref z) >>= _) _ _ _ from wpAny_bind (wpAny_tupleHeld_zip hz hT fun h1 z1 s1 => ?_))
  simp only [Bool.false_eq_true, if_false]
  refine wpAny_bind ?_
  rw [← Array.forIn_toList]
  simp only [List.forIn_cons, List.forIn_nil]
  refine wpAny_bind (wpAny_bind (wpAny_holding (show wpAny _ _ (Builtin.SmallTypes.nextOf (.ref i1) >>= _) _ _ _ from wpAny_bind ?_)))
  have a1 := t.a.extBut s1.extBut D.i1z
  have x1 := t.x.extBut s1.extBut D.l1z
  cases ex : xs[k]? with
  | none => exact nextOf_tuple_end (s := { s with heap := h1 }) hh a1 x1 ex fun h2 e s2 he => hE h2 e (fun c o c1 c2 _ q => s2 _ _ c2 (s1.extBut _ _ c1 q)) he
  | some x =>
    have ey : ys[k]? = none := hend.resolve_left (by rw [ex]; exact fun q => nomatch q)
    refine nextOf_tuple_item (s := { s with heap := h1 }) a1 x1 ex fun h2 a2 s2 => wpAny_pure (wpAny_pure ?_)
    refine wpAny_bind (wpAny_bind (wpAny_holding (show wpAny _ _ (Builtin.SmallTypes.nextOf (.ref i2) >>= _) _ _ _ from wpAny_bind ?_)))
    exact nextOf_tuple_end (s := { s with heap := h2 }) hh ((t.b.extBut s1.extBut D.i2z).extBut s2.extBut D.i12.symm) ((t.y.extBut s1.extBut D.l2z).extBut s2.extBut D.l2i1) ey fun h3 e s3 he =>
      hE h3 e (fun c o c1 c2 c3 q => s3 _ _ c3 (s2.extBut _ _ c2 (s1.extBut _ _ c1 q))) he
theorem pyNext_held {Q : Option Value → Shared → Prop} {x y : Value} (D : ZipApart z TI TO i1 i2 l1 l2) (hz : IsZipHeld s.heap z TI TO T f) (hT : s.heap.get? T = some oT) (t : At2 s.heap TI i1 i2 l1 l2 xs ys k)
    (ex : xs[k]? = some x) (ey : ys[k]? = some y)
    (hQ : ∀ h', IsZipHeld h' z TI TO T true → h'.IsTupleIter i1 l1 (k + 1) → h'.IsTupleIter i2 l2 (k + 1) → IsPair h' s.heap.objs.size x y →
      (∀ c o, c ≠ z → c ≠ i1 → c ≠ i2 → s.heap.get? c = some o → h'.get? c = some o) → Q (some (.ref s.heap.objs.size)) { s with heap := h' }) :
    wpAny (model prog w) A (pyNext (.ref z)) Q E s := by
  have ty : s.TypeIs (.ref z) "zip" := ⟨_, hz, rfl⟩
  unfold pyNext
  refine wpAny_bind (wpAny_attempt (wpAny_callSpecial?_slot (name := Str.ofString "__next__") ty F.slot_zip_next (wpAny_call_entry F.slot_zip_next ty F.entry_zip_next ?_ (F.args_zip_next_1 _))))
  exact next_held D hz hT t ex ey fun h' b1 b2 b3 b4 b5 => wpAny_pure (hQ h' b1 b2 b3 b4 b5)
theorem pyStop_held {Q : Option Value → Shared → Prop} (hh : A.handled = none) (D : ZipApart z TI TO i1 i2 l1 l2) (hz : IsZipHeld s.heap z TI TO T f) (hT : s.heap.get? T = some oT) (t : At2 s.heap TI i1 i2 l1 l2 xs ys k)
    (hend : xs[k]? = none ∨ ys[k]? = none) (hQ : ∀ h', (∀ c o, c ≠ z → c ≠ i1 → c ≠ i2 → s.heap.get? c = some o → h'.get? c = some o) → Q none { s with heap := h' }) :
    wpAny (model prog w) A (pyNext (.ref z)) Q E s := by
  have ty : s.TypeIs (.ref z) "zip" := ⟨_, hz, rfl⟩
  unfold pyNext
  refine wpAny_bind (wpAny_attempt (wpAny_callSpecial?_slot (name := Str.ofString "__next__") ty F.slot_zip_next (wpAny_call_entry F.slot_zip_next ty F.entry_zip_next ?_ (F.args_zip_next_1 _))))
  refine stop_held hh D hz hT t hend fun h' e kk ⟨o, ho, hc⟩ => ?_
  exact wpAny_bind (wpAny_isInstance (T := "StopIteration") (b := true) ⟨o, ho, hc⟩ isSubtype_stop (wpAny_pure (hQ _ kk)))
end
section
variable {prog : Program} {w : World}
/-- what stands while the pairs are stored -/
def Mid (z TI TO i1 i2 l1 l2 d : Addr) (xs ys : Array Value) (i : Nat) (h : Heap) : Prop :=
  At2 h TI i1 i2 l1 l2 xs ys i ∧ ((IsZip h z TI TO .none ∧ ∃ a b, IsPair h TO a b) ∨ ∃ T f oT, IsZipHeld h z TI TO T f ∧ h.get? T = some oT ∧ T ≠ z ∧ T ≠ i1 ∧ T ≠ i2 ∧ T ≠ d)
theorem src (z TI TO i1 i2 l1 l2 d : Addr) (D : ZipApart z TI TO i1 i2 l1 l2) (xs ys : Array Value) (A : Around) (hA : A.handled = none)
    (nd : d ≠ z ∧ d ≠ TI ∧ d ≠ TO ∧ d ≠ i1 ∧ d ≠ i2 ∧ d ≠ l1 ∧ d ≠ l2) :
    PairSrc prog w A z d [z, TO, i1, i2] (min xs.size ys.size) (fun i k v => xs[i]? = some k ∧ ys[i]? = some v) (Mid z TI TO i1 i2 l1 l2 d xs ys) := by
  obtain ⟨nz, nTI, nTO, n1, n2, nl1, nl2⟩ := nd
  have w4 : ∀ {c : Addr}, c ∉ [z, TO, i1, i2] → c ≠ z ∧ c ≠ TO ∧ c ≠ i1 ∧ c ≠ i2 := fun h => by
    simp only [List.mem_cons, List.not_mem_nil, or_false, not_or] at h
    exact h
  constructor
  · simp only [List.mem_cons, List.not_mem_nil, or_false, not_or]
    exact ⟨nz, nTO, n1, n2⟩
  · rintro i h h' ⟨t, q⟩ kk
    refine ⟨t.keep fun b o hb e => kk b o (fun q => by subst q; rcases hb with h | h | h | h | h <;> first | exact nTI h | exact n1 h | exact n2 h | exact nl1 h | exact nl2 h) e, ?_⟩
    rcases q with ⟨q, a, b, q2⟩ | ⟨T, f, oT, q, q2, q3⟩
    · exact .inl ⟨kk _ _ (Ne.symm nz) q, a, b, kk _ _ (Ne.symm nTO) q2⟩
    · exact .inr ⟨T, f, oT, kk _ _ (Ne.symm nz) q, kk _ _ q3.2.2.2 q2, q3⟩
  · rintro i s Q E' hi ⟨t, q⟩ hd hQ
    have ex := Array.getElem?_eq_getElem (xs := xs) (i := i) (Nat.lt_of_lt_of_le hi (Nat.min_le_left ..))
    have ey := Array.getElem?_eq_getElem (xs := ys) (i := i) (Nat.lt_of_lt_of_le hi (Nat.min_le_right ..))
    have ne : ∀ {c o}, s.heap.get? c = some o → s.heap.objs.size ≠ c := fun e => Nat.ne_of_gt (Heap.lt_size e)
    have m1 : s.heap.objs.size ≠ i1 := let ⟨_, e, _⟩ := t.a; ne e
    have m2 : s.heap.objs.size ≠ i2 := let ⟨_, e, _⟩ := t.b; ne e
    rcases q with ⟨q, a, b, q2⟩ | ⟨T, f, oT, q, q2, r1, r2, r3, r4⟩
    · refine pyNext_zipT_item D q t.ti q2 t.a t.b t.x t.y ex ey fun h' b1 b2 b3 b4 b5 b6 kk => ?_
      have u : ∀ {c o}, c ≠ z → c ≠ TO → c ≠ i1 → c ≠ i2 → s.heap.get? c = some o → h'.get? c = some o := fun p1 p2 p3 p4 e => kk _ _ p1 p2 p3 p4 e
      refine hQ s.heap.objs.size _ _ h' s.toks ⟨ex, ey⟩ (.inl ⟨_, b5, rfl, _, rfl⟩) ⟨⟨u D.TIz D.TITO D.TIi1 D.TIi2 t.ti, b3, b4, t.x.at fun o e => u D.l1z D.l1TO D.l1i1 D.l1i2 e, t.y.at fun o e => u D.l2z D.l2TO D.l2i1 D.l2i2 e⟩,
        .inr ⟨s.heap.objs.size, false, _, b1, b5, ne q, m1, m2, Nat.ne_of_gt hd⟩⟩ fun c o hc e => let ⟨p1, p2, p3, p4⟩ := w4 hc; u p1 p2 p3 p4 e
    · refine pyNext_held D q q2 t ex ey fun h' b1 b3 b4 b5 kk => ?_
      refine hQ s.heap.objs.size _ _ h' s.toks ⟨ex, ey⟩ (.inl ⟨_, b5, rfl, _, rfl⟩) ⟨⟨kk _ _ D.TIz D.TIi1 D.TIi2 t.ti, b3, b4, t.x.at fun o e => kk _ o D.l1z D.l1i1 D.l1i2 e, t.y.at fun o e => kk _ o D.l2z D.l2i1 D.l2i2 e⟩,
        .inr ⟨T, true, oT, b1, kk _ _ r1 r2 r3 q2, r1, r2, r3, r4⟩⟩ fun c o hc e => let ⟨p1, _, p3, p4⟩ := w4 hc; kk c o p1 p3 p4 e
  · rintro s Q E' ⟨t, q⟩ hQ
    have he : xs[min xs.size ys.size]? = none ∨ ys[min xs.size ys.size]? = none := by
      rcases Nat.le_total xs.size ys.size with h | h
      · exact .inl (Array.getElem?_eq_none (by rw [Nat.min_eq_left h]; exact Nat.le_refl _))
      · exact .inr (Array.getElem?_eq_none (by rw [Nat.min_eq_right h]; exact Nat.le_refl _))
    rcases q with ⟨q, a, b, q2⟩ | ⟨T, f, oT, q, q2, _⟩
    · exact pyNext_zipT_end hA D q t.ti q2 t.a t.b t.x t.y he fun h' kk => hQ h' s.toks fun c o hc e => let ⟨p1, p2, p3, p4⟩ := w4 hc; kk c o p1 p2 p3 p4 e
    · exact pyStop_held hA D q q2 t he fun h' kk => hQ h' s.toks fun c o hc e => let ⟨p1, _, p3, p4⟩ := w4 hc; kk c o p1 p3 p4 e
theorem arg (z TI TO i1 i2 l1 l2 : Addr) (D : ZipApart z TI TO i1 i2 l1 l2) (xs ys : Array Value) :
    PairArg prog w "zip" z [z, TI, TO, i1, i2, l1, l2] [z, TO, i1, i2] (min xs.size ys.size) (fun i k v => xs[i]? = some k ∧ ys[i]? = some v)
      (fun h => At2 h TI i1 i2 l1 l2 xs ys 0 ∧ IsZip h z TI TO .none ∧ ∃ a b, IsPair h TO a b) where
  type := fun s ok => ⟨_, ok.2.1, rfl⟩
  notDict := by decide
  keep := fun h h' ⟨t, q, a, b, q2⟩ kk => ⟨t.keep fun b o _ e => kk b o e, kk _ _ q, a, b, kk _ _ q2⟩
  there := fun h ⟨⟨q1, ⟨o1, h1, _⟩, ⟨o2, h2, _⟩, ⟨o3, h3, _⟩, ⟨o4, h4, _⟩⟩, q, a, b, q2⟩ c hc => by
    simp only [List.mem_cons, List.not_mem_nil, or_false] at hc
    rcases hc with rfl | rfl | rfl | rfl | rfl | rfl | rfl <;> first | exact ⟨_, q⟩ | exact ⟨_, q1⟩ | exact ⟨_, q2⟩ | exact ⟨_, h1⟩ | exact ⟨_, h2⟩ | exact ⟨_, h3⟩ | exact ⟨_, h4⟩
  sub := fun b hb => by
    simp only [List.mem_cons, List.not_mem_nil, or_false] at hb ⊢
    rcases hb with h | h | h | h <;> simp [h]
  noKeys := fun A s Q E hA ok h => getAttrOr_miss_zip ok.2.1 rfl rfl rfl zip_no_keys (by decide +kernel) hA h
  iter := fun A s d Q E hA ⟨t, q, a, b, q2⟩ hd hdf h => by
    simp only [List.mem_cons, List.not_mem_nil, or_false, not_or] at hdf
    exact wpAny_pyIter_zip q (h z [z, TO, i1, i2] _ s.heap s.toks (src z TI TO i1 i2 l1 l2 d D xs ys A hA hdf) ⟨t, .inl ⟨q, a, b, q2⟩⟩ (fun _ _ e => e) fun b hb => .inl hb)
end
end DZ
set_option maxHeartbeats 2000000
/-! DL30: dicts with keys ints and texts, over data. -/
namespace DL
open PySem PySem.Spec PyProof.Rows L2
/-! ### dict(zip(xs, ys)), two tuples -/
/-! ### keys over data -/
def keyOf : D → Option Key
  | .int i => some (.inl i)
  | .str x => some (.inr x)
  | _ => none
def sameK : D → D → Bool
  | .int i, .int j => decide (i = j)
  | .str x, .str y => decide (x = y)
  | _, _ => false
def getKv (k : D) : List (D × D) → Option D
  | [] => none
  | (k', d) :: r => if sameK k' k = true then some d else getKv k r
def hasKv (k : D) : List (D × D) → Bool
  | [] => false
  | (k', d) :: r => sameK k' k || hasKv k r
def replKv (k d : D) : List (D × D) → List (D × D)
  | [] => []
  | (k', d') :: r => (if sameK k' k = true then (k', d) else (k', d')) :: replKv k d r
def putKv (kvs : List (D × D)) (k d : D) : List (D × D) := if hasKv k kvs = true then replKv k d kvs else kvs ++ [(k, d)]
section
variable {K : PySem.W.Frag} {F H : Hp}
theorem same_of {a b : D} {k l : Key} (h1 : keyOf a = some k) (h2 : keyOf b = some l) : sameK a b = decide (k = l) := by
  cases a <;> cases h1 <;> cases b <;> cases h2 <;> simp [sameK]
/-- entries by keys -/
theorem IsKv.cons {k : Key} {v : V} {vs : List (Key × V)} {dk d : D} {ds : List (D × D)} (hk : keyOf dk = some k) (h : Is K F v d) (r : IsKv K F vs ds) : IsKv K F ((k, v) :: vs) ((dk, d) :: ds) := by
  cases dk <;> cases hk <;> first | exact .int h r | exact .str h r
theorem IsKv.inv {ks : List (Key × V)} {ds : List (D × D)} (h : IsKv K F ks ds) : (ks = [] ∧ ds = []) ∨ ∃ k v vs dk d es, ks = (k, v) :: vs ∧ ds = (dk, d) :: es ∧ keyOf dk = some k ∧ Is K F v d ∧ IsKv K F vs es := by
  cases h with
  | nil => exact .inl ⟨rfl, rfl⟩
  | int h r => exact .inr ⟨_, _, _, _, _, _, rfl, rfl, rfl, h, r⟩
  | str h r => exact .inr ⟨_, _, _, _, _, _, rfl, rfl, rfl, h, r⟩
theorem IsKv.val {dk : D} {k : Key} (hk : keyOf dk = some k) : ∀ {ks : List (Key × V)} {ds : List (D × D)}, IsKv K F ks ds → (∀ d, getKv dk ds = some d → ∃ v, valV ks k = some v ∧ Is K F v d) ∧ (valV ks k).isSome = hasKv dk ds := by
  intro ks
  induction ks with
  | nil =>
    intro ds h
    cases h
    exact ⟨fun d e => by simp [getKv] at e, rfl⟩
  | cons p ks ih =>
    intro ds h
    rcases h.inv with ⟨e, _⟩ | ⟨k', v, vs, dk', d', es, e, rfl, hk', hv, r⟩
    · cases e
    · cases e
      obtain ⟨i1, i2⟩ := ih r
      have hs := same_of hk' hk
      by_cases q : k' = k
      · subst q
        rw [valV_pos rfl]
        simp only [getKv, hasKv, hs, decide_true, if_true, Bool.true_or, Option.isSome_some]
        exact ⟨fun d e => ⟨v, rfl, by cases e; exact hv⟩, trivial⟩
      · rw [valV_neg q]
        simp only [getKv, hasKv, hs, decide_eq_false q, Bool.false_eq_true, if_false, Bool.false_or]
        exact ⟨i1, i2⟩
theorem IsKv.repl {dk d : D} {k : Key} {v : V} (hk : keyOf dk = some k) (hv : Is K F v d) : ∀ {ks : List (Key × V)} {ds : List (D × D)}, IsKv K F ks ds → IsKv K F (ks.map fun kv => if kv.1 = k then (kv.1, v) else kv) (replKv dk d ds) := by
  intro ks
  induction ks with
  | nil => intro ds h; cases h; exact .nil
  | cons p ks ih =>
    intro ds h
    rcases h.inv with ⟨e, _⟩ | ⟨k', v', vs, dk', d', es, e, rfl, hk', hv', r⟩
    · cases e
    · cases e
      have hs := same_of hk' hk
      rw [List.map_cons, replKv, hs]
      by_cases q : k' = k
      · simp only [q, decide_true, if_true]
        subst q
        exact .cons hk' hv (ih r)
      · simp only [q, decide_false, if_false, Bool.false_eq_true]
        exact .cons hk' hv' (ih r)
theorem IsKv.app : ∀ {ks ls : List (Key × V)} {ds es : List (D × D)}, IsKv K F ks ds → IsKv K F ls es → IsKv K F (ks ++ ls) (ds ++ es)
  | _, _, _, _, .nil, h => h
  | _, _, _, _, .int h r, s => .int h (IsKv.app r s)
  | _, _, _, _, .str h r, s => .str h (IsKv.app r s)
theorem IsKv.put {dk d : D} {k : Key} {v : V} (hk : keyOf dk = some k) (hv : Is K F v d) {ks : List (Key × V)} {ds : List (D × D)} (h : IsKv K F ks ds) : IsKv K F (putK ks k v) (putKv ds dk d) := by
  unfold putK putKv
  rw [valV_any, (h.val hk).2]
  split
  · exact h.repl hk hv
  · exact h.app (.cons hk hv .nil)
theorem IsKv.len : ∀ {ks : List (Key × V)} {ds : List (D × D)}, IsKv K F ks ds → ks.length = ds.length
  | _, _, .nil => rfl
  | _, _, .int _ r => by rw [List.length_cons, List.length_cons, IsKv.len r]
  | _, _, .str _ r => by rw [List.length_cons, List.length_cons, IsKv.len r]
end
section
variable {C : Ct} {W : WX} {X : Cx} {σ : L2.St} {H F : Hp} {s : S} {fa fb fc fe : M D} {a b c e : Expr} {es : List Expr} {fs : M (List D)} {pos p apos : Pos} {K : PySem.W.Frag} {x : Str} {st : Stmt} {body : List Stmt} {f : S → Out}
/-! ### d[k], k in d -/
def dgetD : D → D → Option D
  | .dic kvs, k => getKv k kvs
  | _, _ => none
end
end DL
set_option maxHeartbeats 2000000
/-! DL31: C(e, .., k = v, ..) of an __init__ with defaults. -/
namespace DL
open PySem PySem.Spec PyProof.Rows L2
def mMakeN (n m np : Nat) (cn : Str) (r : Fn) (idx : List Nat) (dds : List D) (fs gs : M (List AV)) : M RV := mbind fs fun as => mbind gs fun bs =>
  if as.length = n ∧ bs.length = m ∧ (permL idx (as ++ (bs ++ dds.map .val))).length + 1 = np then runMake cn r [] (permL idx (as ++ (bs ++ dds.map .val))) else fun _ => .bad
section
variable {C : Ct} {W : WX} {X : Cx} {σ : L2.St} {H F H' F' : Hp} {s : S} {fa fb : M D} {a b e o : Expr} {es : List Expr} {kws : List Keyword} {fs gs : M (List AV)} {fr : M RV} {pos p apos kpos : Pos} {K : PySem.W.Frag} {x : Str} {nm : Option Str}
theorem AvAll.app : ∀ {vs us : List V} {as bs : List AV}, AvAll K σ F vs as → AvAll K σ F us bs → AvAll K σ F (vs ++ us) (as ++ bs)
  | _, _, _, _, .nil, h => h
  | _, _, _, _, .val h r, s => .val h (AvAll.app r s)
  | _, _, _, _, .sl h r, s => .sl h (AvAll.app r s)
end
end DL
set_option maxHeartbeats 2000000
/-! DL32: {k: v, ..} written; sorted as a thing of one's own. -/
namespace DL
open PySem PySem.Spec PyProof.Rows L2
end DL
set_option maxHeartbeats 2000000
/-! DLX: what the head is asked about own errors and about defs that make lambdas (definitions alone). -/
namespace DL
open PySem PySem.Spec PyProof.Rows L2
/-- the __init__ of one field -/
def xiBody (f : Str) : List Stmt → Bool
  | [.Expr (.Call (.Attribute (.Call (.Name a _) [] [] _) b p) [] [] q) _, .Assign [.Attribute (.Name c _) d _] (.Name e _) _] =>
    a == "super" && b == "__init__" && c == "self" && d == f && e == f && p.endLine == q.line
  | _ => false
/-! ### the own classes of errors -/
def xRight : List Str := ["InvalidText", "InvalidPart", "InvalidNumber", "InvalidSite", "InvalidChoice", "InvalidName", "InvalidWish", "InvalidClaim", "InvalidPlace", "NotAProgram", "NotARule", "InvalidFunctions", "InvalidRules", "InvalidSeen", "InvalidChanges"]
def xThere : List Str := ["UnknownName", "InUse", "NotOpen"]
def xCan : List Str := ["TooMany", "OverBudget", "NothingToUndo", "Broken"]
/-- the base under which a class stands, and the built-in one -/
def xOver (c : Str) : Option (Str × String) :=
  if xRight.contains c then some ("NotRight", "ValueError") else if xThere.contains c then some ("NotThere", "LookupError") else if xCan.contains c then some ("CannotBe", "ArithmeticError") else none
def xsub (c n : Str) : Bool := n == c || (xOver c).any fun p => p.1 == n
def xsubT (c : Str) (t : String) : Bool := (xOver c).any fun p => p.2 == t
def xFld : List Str := ["given", "index", "most", "shown"]
/-- what K must tell of a class whose instances are caught -/
def xcB (K : PySem.W.Frag) (c : Str) : Bool :=
  (PySem.W.clsIn K (He.ga K c)).isSome && He.eqO (PySem.W.findIn K (.ref (He.ga K c)) "__getattribute__") (some (some (.builtin "BaseException.__getattribute__"))) && He.eqO (PySem.W.findIn K (.ref (He.ga K c)) "__getattr__") (some none) &&
  decide (PySem.W.subIn K (.ref (He.ga K c)) (.type "BaseException") = some true) && He.eqO (PySem.W.findIn K (.ref (He.ga K c)) "__class__") (some (some (.builtin "object.__class__"))) &&
  He.eqO (PySem.W.specialIn K (.builtin "object.__class__") "__get__") (some (some (.builtin "getset_descriptor.__get__"))) && decide (PySem.W.takesIn K (.builtin "object.__class__") = some true) &&
  decide (PySem.W.mroIn K (He.ga K c) (.type "object") = some true) && PySem.W.hasDictIn K (He.ga K c) && xFld.all fun f => He.eqO (PySem.W.findIn K (.ref (He.ga K c)) f) (some none)
def xsB (K : PySem.W.Frag) (cs ns : List Str) (ts : List String) : Bool := cs.all fun c => xcB K c && (ns.all fun n => kOne K (.ref (He.ga K c)) (.ref (He.ga K n)) (xsub c n)) && ts.all fun t => kOne K (.ref (He.ga K c)) (.type t) (xsubT c t)
/-- each of these classes is caught by the three bases -/
def xmB (K : PySem.W.Frag) (cs : List Str) : Bool := cs.all fun c => decide (PySem.W.exmAny K (.ref (He.ga K c)) [.ref (He.ga K "NotRight"), .ref (He.ga K "NotThere"), .ref (He.ga K "CannotBe")] = some true)
def xFile (K : PySem.W.Frag) (file : Str) : Value → Bool
  | .ref cda => (match K.lookup cda with
      | some ⟨_, _, .fields vs, _⟩ => (match (vs[2]? : Option Value) with
          | some (.str fl _) => fl == file
          | _ => false)
      | _ => false)
  | _ => false
def xCell (K : PySem.W.Frag) (Ca : Addr) : List (Str × Addr) → Bool
  | [(n, cc)] => n == "__class__" && (match K.lookup cc with
      | some ⟨_, _, .cell (some (.ref D)), _⟩ => D == Ca
      | _ => false)
  | _ => false
def xPar (f : Str) : Arguments → Bool
  | ⟨[], [⟨a, _, _⟩, ⟨b, _, _⟩], none, [], [], none, []⟩ => a == "self" && b == f
  | _ => false
def xScope (f : Str) (sc : Scope) : Bool :=
  decide (sc.kind = .function) && !sc.isCoroutine && !sc.isGenerator && (sc.names.all fun x => !decide (x.2 = .cell)) && decide (sc.names.lookup ("super" : Str) = some .globalImplicit) && decide (sc.names.lookup ("__class__" : Str) = some .free) &&
  decide (sc.names.lookup ("self" : Str) = some .local) && decide (sc.names.lookup f = some .local)
def xFn (K : PySem.W.Frag) (Ca : Addr) (f file : Str) : Option Obj → Bool
  | some ⟨_, _, .func fd, _⟩ => fd.name == "__init__" && decide (fd.globals = mainGlobals) && decide (fd.builtins = builtinsNs) && (match fd.body with
      | .stmts b => xiBody f b
      | _ => false) && xCell K Ca fd.closure && PySem.W.codeIn K fd.code fd.qualname && xFile K file fd.code && xPar f fd.params && (match fd.defaults with
      | .none => true
      | _ => false) && xScope f fd.scope
  | _ => false
def xNames : String → Option (String × String × String × List Value)
  | "ValueError" => some ("ValueError", "ValueError.__new__", "ValueError.__init__", [.type "ValueError", .type "Exception", .type "BaseException", .type "object"])
  | "LookupError" => some ("LookupError", "LookupError.__new__", "LookupError.__init__", [.type "LookupError", .type "Exception", .type "BaseException", .type "object"])
  | "ArithmeticError" => some ("ArithmeticError", "ArithmeticError.__new__", "ArithmeticError.__init__", [.type "ArithmeticError", .type "Exception", .type "BaseException", .type "object"])
  | _ => none
/-- an own class of errors, made with one field -/
def xnB (K : PySem.W.Frag) (c f file : Str) (B : String) : Bool := (match xNames B with
  | some (B, newId, i, bmB) => PySem.W.excInitIn K (He.ga K c) bmB newId && PySem.W.excOver K (He.ga K c) bmB && decide (PySem.W.subIn K (.ref (He.ga K c)) (.type B) = some true) && He.eqO (PySem.W.ks_superIn K (He.ga K c) (He.ga K c) "__init__") (some (some (.builtin i)))
  | none => false) && He.eqO (PySem.W.findIn K (.ref (He.ga K c)) "__init__") (some (some (.ref (He.ma K (He.ga K c) "__init__")))) && decide (PySem.W.typeIn K (.ref (He.ma K (He.ga K c) "__init__")) = some (.type "function")) &&
  He.eqO (PySem.W.findIn K (.ref (He.ga K c)) "__setattr__") (some (some (.builtin "object.__setattr__"))) && He.eqO (PySem.W.takerIn K (He.ga K c) f) (some none) && PySem.W.hasDictIn K (He.ga K c) &&
  decide (PySem.W.subIn K (.ref (He.ga K c)) (.type "BaseException") = some true) && decide (PySem.W.typeIn K (.ref (He.ga K c)) = some (.type "type")) && PySem.W.keepIn K (.ref (He.ga K c)) && decide (PySem.W.mroIn K (He.ga K c) (.ref (He.ga K c)) = some true) &&
  He.eqO (PySem.W.nsIn K mainGlobals "super") (some none) && He.eqO (PySem.W.nsIn K cStatics "thirdparty.any") (some none) && (f == ("given" : Str) || f == ("index" : Str) || f == ("most" : Str)) && (PySem.W.clsIn K (He.ga K c)).isSome &&
  xFn K (He.ga K c) f file (K.lookup (He.ma K (He.ga K c) "__init__"))
/-- the table of a def that makes lambdas -/
def lamB (K : PySem.W.Frag) (x q : Str) : Bool := match K.lookup (He.ga K x) with
  | some ⟨_, _, .func fd, _⟩ => (match fd.code with
      | .ref c => (tbC K).any fun p => p.1 == c && (tbOf K).contains (p.2, q) && (tbOf K).all fun t => t.1 != p.2 || t.2 == q
      | _ => false)
  | _ => false
end DL
set_option maxHeartbeats 2000000
/-! DL22: the head: what is observed behind the top; a law's end. -/
namespace DL
open PySem PySem.Spec PyProof.Rows L2
/-! ### a part of the heap without lists -/
def isLst (o : Obj) : Bool := match o.cls with
  | .type n => decide (n = "list")
  | _ => false
/-- tables of code objects stand without a class -/
def isTb (o : Obj) : Bool := match o.cls, o.data with
  | .none, .fields _ => true
  | _, _ => false
def frL (g : Addr → Option Obj) (as : List Addr) : PySem.W.Frag := (He.frG g as).filter fun q => !isLst q.2 && !isTb q.2
theorem frL_mem {g : Addr → Option Obj} {as : List Addr} {a : Addr} {o : Obj} (h : (frL g as).lookup a = some o) : g a = some o ∧ isLst o = false ∧ isTb o = false := by
  obtain ⟨h1, h2⟩ := List.mem_filter.mp (He.lookup_mem h)
  exact ⟨He.frG_mem h1, by simpa using h2⟩
theorem frL_in {as : List Addr} {h : Heap} : (frL h.get? as).In h := fun _ _ e => (frL_mem e).1
/-! ### defs by places -/
inductive At where
  | fn (x : Str) | me (c m : Str) | pr (c f : Str) | cm (c m : Str)
def prA (K : PySem.W.Frag) (c f : Str) : Addr := match PySem.W.recIn K (He.ma K (He.ga K c) f) "property" with
  | some (.ref g :: _) => g
  | _ => 0
def At.ad (K : PySem.W.Frag) : At → Addr
  | .fn x => He.ga K x
  | .me c m => He.ma K (He.ga K c) m
  | .pr c f => prA K c f
  | .cm c m => He5.wf K (He.ga K c) "classmethod" m
def fnA (K : PySem.W.Frag) (p : At) : He.FnW := match K.lookup (p.ad K) with
  | some ⟨_, _, .func fd, _⟩ => some (fd.name, fd.qualname, fd.params, fd.body, fd.scope, fd.globals, fd.closure, fd.builtins)
  | _ => none
structure DefA where
  at_ : At
  name : Str
  qual : Str
  params : Arguments
  body : List Stmt
  scope : Scope
  dfl : List He.Dv := []
def DefA.val (d : DefA) : He.FnW := some (d.name, d.qual, d.params, .stmts d.body, d.scope, mainGlobals, [], builtinsNs)
def DefA.dvs (K : PySem.W.Frag) (d : DefA) : List V := d.dfl.map (He.Dv.v K)
def DefA.ok (K : PySem.W.Frag) (d : DefA) : Bool := PySem.W.keepIn K (.ref (d.at_.ad K)) && (match K.lookup (d.at_.ad K) with
  | some ⟨_, _, .func fd, _⟩ => PySem.W.codeIn K fd.code d.qual && He.dflB K fd.defaults (d.dvs K)
  | _ => false)
theorem DefA.funD {K : PySem.W.Frag} {d : DefA} (e : fnA K d.at_ = d.val) (c : d.ok K = true) : ∃ fd, FunD K d.name d.qual d.params d.body d.scope (d.dvs K) [] (d.at_.ad K) fd := by
  obtain ⟨kp, c2⟩ := He.ba c
  unfold fnA at e
  cases q : K.lookup (d.at_.ad K) with
  | none =>
    rw [q] at c2
    cases c2
  | some o =>
    obtain ⟨oc, od, dt, osl⟩ := o
    rw [q] at c2 e
    cases dt with
    | func fd =>
      obtain ⟨n1, n2, n3, n4, n5, n6, n7, n8, n9, n10, n11, n12, n13, n14, n15⟩ := fd
      have e2 : (some (n1, n2, n3, n4, n5, n6, n7, n15) : He.FnW) = some (d.name, d.qual, d.params, .stmts d.body, d.scope, mainGlobals, [], builtinsNs) := e
      simp only [Option.some.injEq, Prod.mk.injEq] at e2
      obtain ⟨h1, h2, h3, h4, h5, h6, h7, h8⟩ := e2
      subst h1 h2 h3 h4 h5 h6 h7 h8
      have c3 : (PySem.W.codeIn K n13 d.qual && He.dflB K n8 (d.dvs K)) = true := c2
      obtain ⟨k1, k2⟩ := He.ba c3
      exact ⟨_, ⟨oc, od, n8, n9, n10, n11, n12, n13, n14, osl, rfl, q, k1, He.dflB_ok k2, .inl rfl⟩, kp⟩
    | _ => cases c2
/-! ### facts -/
inductive Fb where
  | fa (f : He.Fa) | pro (c f : Str) | tup (x : Str) (vs : List He.Dv) | isi (cls : List Str) | pr (cls : List Str) (cn : Str) | cmf (c m : Str) | exn (c f file : Str) (B : String) | exs (cs ns : List Str) (ts : List String) | exm (cs : List Str) | lam (x q : Str) | sysm
def Fb.ok (K : PySem.W.Frag) : Fb → Bool
  | .fa f => f.ok K
  | .pro c f => (He.eqO (PySem.W.findIn K (.ref (He.ga K c)) f) (some (some (.ref (He.ma K (He.ga K c) f)))) && He.eqO (PySem.W.specialIn K (.ref (He.ma K (He.ga K c) f)) "__get__") (some (some (.builtin "property.__get__")))) &&
      (decide (PySem.W.takesIn K (.ref (He.ma K (He.ga K c) f)) = some true) && (match PySem.W.recIn K (He.ma K (He.ga K c) f) "property" with
        | some (.ref _ :: _) => true
        | _ => false))
  | .tup x vs => (He.Fa.glo x).ok K && He.tupB K x vs
  | .isi cls => isiB K cls
  | .pr cls cn => eqB K cls cn && isiB K cls && cls.contains cn
  | .cmf c m => He5.wrapB K (He.ga K c) "classmethod" "classmethod.__get__" m && PySem.W.fnIn K (He5.wf K (He.ga K c) "classmethod" m) && PySem.W.readsIn K (He.ga K c) (.type "type")
  | .exn c f file B => xnB K c f file B
  | .exs cs ns ts => xsB K cs ns ts
  | .exm cs => xmB K cs
  | .lam x q => lamB K x q
  | .sysm => (K.lookup sysModules).isSome
section
variable {K : PySem.W.Frag} {h : Heap} {mg : Str → Option Value}
theorem pro_ok {c f : Str} (e : (Fb.pro c f).ok K = true) : PropOf K (He.ga K c) f (He.ma K (He.ga K c) f) (At.ad K (.pr c f)) := by
  obtain ⟨e1, e2⟩ := He.ba e
  obtain ⟨e3, e4⟩ := He.ba e1
  obtain ⟨e5, e6⟩ := He.ba e2
  refine ⟨He.eqO_ok e3, He.eqO_ok e4, of_decide_eq_true e5, ?_⟩
  show ∃ rest, PySem.W.recIn K (He.ma K (He.ga K c) f) "property" = some (.ref (prA K c f) :: rest)
  unfold prA
  cases q : PySem.W.recIn K (He.ma K (He.ga K c) f) "property" with
  | none => rw [q] at e6; cases e6
  | some l =>
    rw [q] at e6
    cases l with
    | nil => cases e6
    | cons v r =>
      cases v with
      | ref g => exact ⟨r, rfl⟩
      | _ => cases e6
theorem int_cst (X : K.In h) (G : h.Ns mainGlobals mg) {x : Str} {i : Int} (c : (He.Fa.int x i).ok K = true) : Cst K mg x (.int i) := by
  obtain ⟨t, e⟩ := He.int_ok X G c
  exact ⟨_, .int i, e, ⟨t, rfl⟩, fun F => .int i⟩
theorem str_cst (X : K.In h) (G : h.Ns mainGlobals mg) {x z : Str} (c : (He.Fa.str x z).ok K = true) : Cst K mg x (.str z) := by
  obtain ⟨t, e⟩ := He.str_ok X G c
  exact ⟨_, .str z, e, ⟨t, rfl⟩, fun F => .str z⟩
end
/-! ### the hook -/
abbrev AlA : Type := Bool × List He.FnW
def obsA (fb : List Fb) (fn : List DefA) (K : PySem.W.Frag) : AlA := ((fb.all fun f => f.ok K) && fn.all fun d => d.ok K, fn.map fun d => fnA K d.at_)
def valA (fn : List DefA) : AlA := (true, fn.map DefA.val)
def SaysA (fb : List Fb) (fn : List DefA) (K : PySem.W.Frag) : Prop := obsA fb fn K = valA fn
/-- a code object at c with an empty table at P -/
def codeB (c P : Addr) (o : Obj) : Bool := decide (c ≠ P) && (match o.cls with
  | .type n => n == "code"
  | _ => false) && (match o.data with
  | .fields vs => (match (vs[11]? : Option Value) with
      | some (.ref p) => p == P
      | _ => false) && (match vs.getD 11 .none with
      | .ref p => p == P
      | _ => false) && (match vs.getD 18 .none, vs.getD 7 .none, vs.getD 9 .none, vs.getD 10 .none with
      | .str _ _, .int _ _, .bool _, .int _ _ => true
      | _, _, _, _ => false)
  | _ => false)
def tabB (o : Obj) : Bool := match o with
  | ⟨.none, .none, .fields vs, sl⟩ => vs.isEmpty && sl.isEmpty
  | _ => false
def tbsB (g : Addr → Option Obj) (K : PySem.W.Frag) : Bool := (tbC K).all fun p => (match g p.1 with
  | some o => codeB p.1 p.2 o
  | none => false) && (match g p.2 with
  | some o => tabB o
  | none => false)
/-- the tables are empty, their code objects stand -/
def TbsOk (K : PySem.W.Frag) (h : Heap) : Prop := ∀ p ∈ tbC K, h.get? p.2 = some { cls := .none, data := .fields #[] } ∧ PySem.W.CodeHd h p.1 p.2
theorem tabB_ok {o : Obj} (h : tabB o = true) : o = { cls := .none, data := .fields #[] } := by
  unfold tabB at h
  split at h
  · rename_i vs sl
    rw [Bool.and_eq_true, Array.isEmpty_iff, Array.isEmpty_iff] at h
    rw [h.1, h.2]
  · cases h
theorem codeB_ok {c P : Addr} {o : Obj} {h : Heap} (e : h.get? c = some o) (hb : codeB c P o = true) : PySem.W.CodeHd h c P := by
  unfold codeB at hb
  rw [Bool.and_eq_true, Bool.and_eq_true] at hb
  obtain ⟨⟨h1, h2⟩, h3⟩ := hb
  have h1 := of_decide_eq_true h1
  obtain ⟨oc, od, dt, osl⟩ := o
  cases dt with
  | fields vs =>
    have h3 : (((match (vs[11]? : Option Value) with
      | some (.ref p) => p == P
      | _ => false) && (match vs.getD 11 .none with
      | .ref p => p == P
      | _ => false)) && (match vs.getD 18 .none, vs.getD 7 .none, vs.getD 9 .none, vs.getD 10 .none with
      | .str _ _, .int _ _, .bool _, .int _ _ => true
      | _, _, _, _ => false)) = true := h3
    rw [Bool.and_eq_true, Bool.and_eq_true] at h3
    obtain ⟨⟨k1, k2⟩, k3⟩ := h3
    have c1 : ∀ oc : Value, (match oc with
        | .type n => n == "code"
        | _ => false) = true → oc = .type "code" := fun oc h2 => by
      cases oc with
      | type n => rw [beq_iff_eq.mp (show (n == "code") = true from h2)]
      | _ => cases h2
    have c1 := c1 oc h2
    subst c1
    have e1 : (vs[11]? : Option Value) = some (.ref P) := by
      split at k1
      · rename_i p q
        rw [q, beq_iff_eq.mp k1]
      · cases k1
    have e2 : vs.getD 11 .none = .ref P := by
      split at k2
      · rename_i p q
        rw [q, beq_iff_eq.mp k2]
      · cases k2
    split at k3
    · rename_i a b c d e' f g a1 a2 a3 a4
      exact ⟨_, vs, _, _, _, _, _, _, _, e, rfl, rfl, e1, e2, a1, a2, a3, a4, h1⟩
    · cases k3
  | _ => cases h3
theorem tbsB_ok {K : PySem.W.Frag} {h : Heap} (e : tbsB h.get? K = true) : TbsOk K h := fun p hp => by
  unfold tbsB at e
  have z := List.all_eq_true.mp e p hp
  rw [Bool.and_eq_true] at z
  obtain ⟨z1, z2⟩ := z
  constructor
  · split at z2
    · rename_i o q
      rw [q, tabB_ok z2]
    · cases z2
  · split at z1
    · rename_i o q
      exact codeB_ok q z1
    · cases z1
def obsT (fb : List Fb) (fn : List DefA) (g : Addr → Option Obj) (K : PySem.W.Frag) : AlA := ((obsA fb fn K).1 && tbsB g K, (obsA fb fn K).2)
theorem obsT_ok {fb : List Fb} {fn : List DefA} {g : Addr → Option Obj} {K : PySem.W.Frag} (e : obsT fb fn g K = valA fn) : SaysA fb fn K ∧ tbsB g K = true := by
  have e1 : ((obsA fb fn K).1 && tbsB g K) = true := congrArg (fun z : AlA => z.1) e
  have e2 : (obsA fb fn K).2 = fn.map DefA.val := congrArg (fun z : AlA => z.2) e
  rw [Bool.and_eq_true] at e1
  exact ⟨Prod.ext e1.1 e2, e1.2⟩
section
variable {fb : List Fb} {fn : List DefA} {K : PySem.W.Frag}
theorem SaysA.fact (c : SaysA fb fn K) (i : Nat) {f : Fb} (h : fb[i]? = some f := by rfl) : f.ok K = true := by
  have c1 := (He.ba (show ((fb.all fun f => f.ok K) && fn.all fun d => d.ok K) = true from congrArg (fun z : AlA => z.1) c)).1
  exact List.all_eq_true.mp c1 f (List.mem_of_getElem? h)
theorem SaysA.def_ (c : SaysA fb fn K) (i : Nat) {d : DefA} (h : fn[i]? = some d := by rfl) : ∃ fd, FunD K d.name d.qual d.params d.body d.scope (d.dvs K) [] (d.at_.ad K) fd := by
  have c2 := (He.ba (show ((fb.all fun f => f.ok K) && fn.all fun d => d.ok K) = true from congrArg (fun z : AlA => z.1) c)).2
  have e : fn.map (fun d => fnA K d.at_) = fn.map DefA.val := congrArg (fun z : AlA => z.2) c
  have e2 : (fn.map fun d => fnA K d.at_)[i]? = (fn.map DefA.val)[i]? := by rw [e]
  rw [List.getElem?_map, List.getElem?_map, h] at e2
  exact DefA.funD (Option.some.inj e2) (List.all_eq_true.mp c2 d (List.mem_of_getElem? h))
end
/-! ### the law's end -/
theorem law_callG {P : Program} {w : World} {K : PySem.W.Frag} {mg mb : Str → Option Value} {CX : CXT} {k : Nat} {fa a : Addr} {fd : FuncData} {x : Str} {sp : Sp} {s₁ : Shared} {vs : List Value} {ns : List Int}
    (KX : K.In s₁.heap) (hnl : ∀ a o, K.lookup a = some o → isLst o = false ∧ isTb o = false) (hns : s₁.heap.Ns mainGlobals mg) (hb : s₁.heap.Ns builtinsNs mb) (hbb : ∀ x : Str, x ≠ "__name__" → mb x = bootBuiltins x) (hlim : s₁.heap.NoLimit) (hg : s₁.gens = #[])
    (hT : TbsOk K s₁.heap) (hbm : ∃ (bm : Addr) (ob : Obj), mg "__builtins__" = some (.ref bm) ∧ bm ≠ builtinsNs ∧ s₁.heap.get? bm = some ob ∧ ob.cls = .type "module" ∧ ob.dict = some builtinsNs ∧ ob.data = .plain)
    (ha : s₁.heap.get? a = some { cls := .type "list", data := .seq vs.toArray }) (hi : IntsAre vs ns) (hl : ns.length ≤ sizeLine) (hr : Room k callerA)
    (F : ∀ base : Heap, K.In base → base.Ns mainGlobals mg → (∀ p ∈ tbC K, LamX.TabB base mg p.1 p.2) → FnG true P w K mg base CX k fa fd [x] sp) (hbind : ∀ (s : Shared) (u : Value), BindsTo s fd ⟨[u], []⟩ [(x, u)])
    (hsp : ∀ (H : Hp) (o : Obj), (∀ p ∈ tbC K, H p.2 = some (.tbl #[])) → H a = some (.frz o (.lst (ns.map V.int))) → sp [.ref a] H (fun v _ => v = .bl true) fun _ _ _ => False)
    (hCX : ∀ H e s', CX [] H s₁ (fun _ _ _ => False) e s' → False) :
    codeAny (model P w) callerA (.call (.ref fa) ⟨[.ref a], []⟩) (fun r s' => r = .ok (.ret (.bool true)) ∧ OldK s₁.heap s'.heap ∧ s'.os = s₁.os ∧ AllBare s'.gens) s₁ := by
  have rv := vals_ints hi
  have lenV := hi.length
  have inT : ∀ b : Addr, b ∈ (tbC K).map (·.2) → s₁.heap.get? b = some { cls := .none, data := .fields #[] } := fun b m => by
    obtain ⟨p, hp, e⟩ := List.mem_map.mp m
    exact e ▸ (hT p hp).1
  have aT : a ∉ (tbC K).map (·.2) := fun m => by
    have q := inT a m
    rw [ha] at q
    cases congrArg Obj.data (Option.some.inj q)
  have noT : ∀ b : Addr, b ∈ (tbC K).map (·.2) → K.lookup b = none := fun b m => by
    cases q : K.lookup b with
    | none => rfl
    | some o =>
      have e := KX b o q
      rw [inT b m] at e
      cases e
      exact absurd (hnl b _ q).2 (by simp [isTb])
  have noAt : K.lookup a = none := by
    cases q : K.lookup a with
    | none => rfl
    | some o =>
      have e := KX a o q
      rw [ha] at e
      cases e
      exact absurd (hnl a _ q).1 (by simp [isLst])
  -- what is tracked: the script and the tables
  obtain ⟨H, hH⟩ : ∃ H : Hp, H = fun b => if b = a then some (.frz { cls := .type "list", data := .seq vs.toArray } (.lst (ns.map V.int))) else if b ∈ (tbC K).map (·.2) then some (.tbl #[]) else none := ⟨_, rfl⟩
  have Ha : H a = some (.frz { cls := .type "list", data := .seq vs.toArray } (.lst (ns.map V.int))) := by rw [hH]; exact if_pos rfl
  have HT : ∀ b, b ∈ (tbC K).map (·.2) → H b = some (.tbl #[]) := fun b m => by
    rw [hH]
    exact (if_neg fun z : b = a => aT (by rw [← z]; exact m)).trans (if_pos m)
  have HO : ∀ b, b ≠ a → b ∉ (tbC K).map (·.2) → H b = none := fun b n m => by
    rw [hH]
    exact (if_neg n).trans (if_neg m)
  have hok : HOk P w H s₁.heap := fun b u z => by
    by_cases e : b = a
    · rw [e, Ha] at z
      cases z
      rw [e]
      exact ⟨ha, by rw [List.length_map]; exact hl, vs, _, rv, ha⟩
    · by_cases m : b ∈ (tbC K).map (·.2)
      · rw [HT b m] at z
        cases z
        exact inT b m
      · rw [HO b e m] at z
        cases z
  have base_of : ∀ {b : Addr} {o : Obj}, s₁.heap.get? b = some o → H b = none → (hidT s₁.heap H).get? b = some o := fun e n => hidT_get e n
  have free : ∀ {b : Addr} {o : Obj}, s₁.heap.get? b = some o → (∀ vs n, o.data ≠ .seq vs n) → o.data ≠ .fields #[] → H b = none := fun {b o} e h1 h2 => by
    refine HO b (fun z => ?_) fun m => ?_
    · rw [z, ha] at e
      cases e
      exact h1 _ _ rfl
    · rw [inT b m] at e
      cases e
      exact h2 rfl
  have freeD : ∀ {b : Addr} {o : Obj} {es : Array DictEntry} {ep : Nat}, s₁.heap.get? b = some o → o.data = .dict es ep → H b = none := fun {b o es ep} e d => free e (fun vs n z => by rw [d] at z; cases z) fun z => by rw [d] at z; cases z
  have nsK : ∀ {b : Addr} {m : Str → Option Value}, s₁.heap.Ns b m → (hidT s₁.heap H).Ns b m := fun {b m} ⟨o, es, ep, e, d, r⟩ => ⟨o, es, ep, base_of e (freeD e d), d, r⟩
  have hKb : K.In (hidT s₁.heap H) := fun b o e => base_of (KX b o e) (HO b (fun z => by rw [z, noAt] at e; cases e) fun m => by rw [noT b m] at e; cases e)
  have hM : Mod K mg (hidT s₁.heap H) := ⟨hKb, nsK hns, ⟨mb, nsK hb, hbb⟩, let ⟨mc, h1, h2⟩ := hlim; ⟨mc, nsK h1, h2⟩⟩
  have TB : ∀ p ∈ tbC K, LamX.TabB (hidT s₁.heap H) mg p.1 p.2 := fun p hp => by
    obtain ⟨hTp, o, us, file, tf, flags, tg, inF, text, tt, e1, r1, r2, r3, rest⟩ := hT p hp
    have mP : p.2 ∈ (tbC K).map (·.2) := List.mem_map.mpr ⟨p, hp, rfl⟩
    refine ⟨?_, ?_, fun z => ?_⟩
    · refine ⟨o, us, file, tf, flags, tg, inF, text, tt, base_of e1 (free e1 (fun vs n z => ?_) fun z => ?_), r1, r2, r3, rest⟩
      · rw [r2] at z
        cases z
      · rw [r2] at z
        cases z
        simp at r3
    · obtain ⟨bm, ob, b1, b2, b3, b4, b5, b6⟩ := hbm
      refine ⟨bm, ob, b1, b2, fun q => ?_, fun q => ?_, base_of b3 (free b3 (fun vs n z => ?_) fun z => ?_), b4, b5, b6⟩
      · obtain ⟨o, es, ep, e, hd, _⟩ := hns
        rw [q, e] at b3
        cases b3
        rw [hd] at b6
        cases b6
      · rw [q, hTp] at b3
        cases b3
        cases b6
      · rw [b6] at z
        cases z
      · rw [b6] at z
        cases z
    · obtain ⟨o, es, ep, e, hd, _⟩ := hns
      rw [z, hTp] at e
      cases e
      cases hd
  have e0 : Env0 P w K mg (hidT s₁.heap H) callerA [] s₁ H := ⟨rfl, hM, fun b o e => of_hidT e, Nat.le_of_eq (hidT_size _ _), trivial, fun b hb => absurd (show b ∈ ([] : List Addr) from hb) (by simp), hok, .of_eq hg⟩
  refine codeAny_mono ((F _ hKb (nsK hns) TB).run callerA [] s₁ H ⟨[.ref a], []⟩ [.ref a] [.ref a] _ _ (fun _ => rfl) hr e0 (hbind s₁ (.ref a)) (.cons rfl .nil) (hsp H _ (fun p hp => HT _ (List.mem_map.mpr ⟨p, hp, rfl⟩)) Ha)) fun r s' h => ?_
  cases r with
  | error e => exact (hCX H e s' h).elim
  | ok fl =>
    cases fl with
    | next => exact False.elim h
    | brk => exact False.elim h
    | cont => exact False.elim h
    | ret u =>
      obtain ⟨v, H', os, bare, un, hok', r', q⟩ := h
      have q' : v = .bl true := q
      subst q'
      obtain rfl : u = Value.bool true := r'
      have key : ∀ b o, b ∉ (tbC K).map (·.2) → s₁.heap.get? b = some o → s'.heap.get? b = some o := fun b o nb e => by
        by_cases z : b = a
        · rw [z] at e ⊢
          obtain ⟨e1, _⟩ := hok' a _ (un.frzs a _ _ Ha)
          rw [ha] at e
          cases e
          exact e1
        · exact un.keep b o e (HO b z nb) (by intro z; exact absurd (show b ∈ ([] : List Addr) from z) (by simp)) (by simp)
      have grown : ∀ b, b ∈ (tbC K).map (·.2) → ∃ more : Array Value, s'.heap.get? b = some { cls := .none, data := .fields more } := fun b m => by
        obtain ⟨more, z⟩ := un.tbls b #[] (HT b m)
        exact ⟨_, hok' b _ z⟩
      refine ⟨rfl, ⟨fun b o e => ?_, fun b o e => ?_⟩, os, bare⟩
      · by_cases m : b ∈ (tbC K).map (·.2)
        · obtain ⟨more, hm⟩ := grown b m
          obtain ⟨p, hp, ep⟩ := List.mem_map.mp m
          rw [inT b m] at e
          cases e
          subst ep
          exact .inr (.inl ⟨((hT p hp).2.tab (hT p hp).1).isCodeTable, rfl, #[], more, rfl, by rw [Array.empty_append]; exact hm⟩)
        · exact .inl (key b o m e)
      · by_cases m : b ∈ (tbC K).map (·.2)
        · obtain ⟨more, hm⟩ := grown b m
          exact ⟨_, hm⟩
        · exact ⟨o, key b o m e⟩
/-- a law by its raw meaning -/
theorem law_sp {K : PySem.W.Frag} {r : Fn} {a : Addr} {ns : List Int} {io : List Cell} (h : r [.val (.lst (ns.map .int))] [] = .rt (.val (.bl true)) io) (H : Hp) (o : Obj) (hT : ∀ p ∈ tbC K, H p.2 = some (.tbl #[])) (hH : H a = some (.frz o (.lst (ns.map V.int)))) :
    spD K 1 r [.ref a] H (fun v _ => v = .bl true) fun _ _ _ => False := by
  obtain ⟨F, hF⟩ : ∃ F : Hp, F = fun b => if b = a then H b else none := ⟨_, rfl⟩
  have all : ∀ ns : List Int, IsAll K F (ns.map V.int) (ns.map D.int) := fun ns => by
    induction ns with
    | nil => exact .nil
    | cons n r ih => exact .cons (.int n) ih
  have Fa : F a = some (.frz o (.lst (ns.map V.int))) := by rw [hF, ← hH]; exact if_pos rfl
  have Fs : Sub F H := fun b u e => by
    rw [hF] at e
    by_cases z : b = a
    · exact (if_pos z).symm.trans e
    · cases (if_neg z).symm.trans e
  refine ⟨F, [], [.val (.lst (ns.map .int))], [], ⟨Fs, by simp, fun _ z => by simp at z, rfl, fun j a c e => by simp at e, rfl, fun i x e => ?_, fun p hp => ?_, fun p hp => ?_⟩, rfl, ?_⟩
  · cases i with
    | zero => simp at e; subst e; exact ⟨.ref a, rfl, .lst (.inr ⟨o, Fa⟩) (all ns)⟩
    | succ i => simp at e
  · obtain ⟨c, hc⟩ := tbOf_C hp
    exact ⟨#[], hT _ hc, trivial, fun pos cv hc => by simp [codeAmong] at hc⟩
  · obtain ⟨c, hc⟩ := tbOf_C hp
    rw [hF]
    exact if_neg fun z => by
      have q := hT _ hc
      rw [show (c, p.1).2 = a from z, hH] at q
      cases q
  · rw [h]
    intro v H' F' _ ret
    cases ret
    rfl
theorem walk_G {l : PySem.W.OpenLaw} {n k : Nat} {q : Program} {loose : List Str} {XP : (Str → Option Value) → Heap → Prop} {YP : World → Heap → Prop} {d : DefRec} {x : Str} {r : Fn}
    (hn : l.most = some n) (hn2 : n ≤ sizeLine) (hdf : d.params.defaults = []) (hr : Room k callerA)
    (F : ∀ (w : World) (mg : Str → Option Value) (fa : Addr) (h : Heap), YP w h → h.Ns mainGlobals mg → mg d.name = some (.ref fa) →
      ∃ (K : PySem.W.Frag) (fd : FuncData), K.In h ∧ (∀ a o, K.lookup a = some o → isLst o = false ∧ isTb o = false) ∧ TbsOk K h ∧ (∀ (s : Shared) (u : Value), BindsTo s fd ⟨[u], []⟩ [(x, u)]) ∧
        ∀ base : Heap, K.In base → base.Ns mainGlobals mg → (∀ p ∈ tbC K, LamX.TabB base mg p.1 p.2) → FnG true l.prog w K mg base (L2.CX l.prog w) k fa fd [x] (spD K 1 r))
    (hlaw : ∀ ns : List Int, ns.length ≤ n → ∃ io, r [.val (.lst (ns.map .int))] [] = .rt (.val (.bl true)) io) :
    PySem.W.WalkO q loose XP YP l.row.toRowW d [] (fun f vs => PySem.call f vs) := by
  refine Att.attach_call hn hdf fun w s₀ s₁ mg mb fa o pm cd doc a vs ns G Y ho hd hcd hmg hobj hints hlen hg => ?_
  obtain ⟨K, fd, KX, hnl, hT, hb, hF⟩ := F w mg fa _ Y G.T.g hmg
  obtain ⟨io, hio⟩ := hlaw ns hlen
  refine law_callG KX hnl G.T.g G.T.b G.T.builtins G.T.nolimit hg hT G.T.bmain hobj hints (Nat.le_trans hlen hn2) hr hF hb (fun H o hT hH => law_sp hio H o hT hH) fun H e s' h => ?_
  obtain ⟨_, _, _, _, _, _, _, _, _, _, _, _, z⟩ := h
  exact z.elim
end DL
namespace DL
open PySem PySem.Spec PyProof.Rows L2
theorem kb1 {K : PySem.W.Frag} {x qual : Str} {params : Arguments} {body : List Stmt} {scope : Scope} {f : Addr} {fd : FuncData} {ps ks : List Str} {idx : List Nat} (F : FunD K x qual params body scope [] [] f fd)
    (h : ∀ (kV doc pm : Value) (an : Option Addr) (cdv ct u : Value) (ws : List Value), ws.length = ks.length → bindArgs (PySem.W.fnOf x qual params body scope .none kV doc pm an cdv ct) ⟨[u], ks.zip ws⟩ = pure (ps.zip (u :: permL idx ws))) (s : Shared) (u : Value) (ws : List Value) (_ : K.In s.heap) (hl : ws.length = ks.length) : BindsTo s fd ⟨[u], ks.zip ws⟩ (ps.zip (u :: permL idx ws)) := by
  obtain ⟨oc, od, dV, kV, doc, pm, an, cdv, ct, osl, rfl, lk, hcd, hD, hK⟩ := F.ex
  rcases hD with ⟨_, rfl⟩ | ⟨e, _⟩
  · exact .of_eq (h kV doc pm an cdv ct u ws hl)
  · exact absurd rfl e
end DL
set_option maxHeartbeats 400000
/-! The head's hook over a row of addresses (in place of what hangs together): far less to reckon. -/
namespace DL
open PySem PySem.Spec PyProof.Rows L2
def obsRG (as : List Addr) (fb : List Fb) (fn : List DefA) (g : Addr → Option Obj) : AlA := obsT fb fn g (frL g as)
def hookR (as : List Addr) (fb : List Fb) (fn : List DefA) : PySem.W.Hook where
  α := AlA
  obs := fun s => obsRG as fb fn s.heap.get?
  val := fun _ => valA fn
  says := fun _ h => ∃ K : PySem.W.Frag, K.In h ∧ (∀ a o, K.lookup a = some o → isLst o = false ∧ isTb o = false) ∧ SaysA fb fn K ∧ TbsOk K h
  of := fun _ _ e => ⟨_, frL_in, fun a o q => (frL_mem q).2, (obsT_ok e).1, tbsB_ok (obsT_ok e).2⟩
  keeps := fun _ _ _ ⟨K, hK, hl, c, t⟩ k => ⟨K, PySem.W.Frag.In.keeps hK k, hl, c, fun p hp => ⟨k _ _ (t p hp).1, (t p hp).2.keeps k⟩⟩
theorem obsRG_eq {as : List Addr} {fb : List Fb} {fn : List DefA} {g : Addr → Option Obj} {s : Shared} (h : ∀ a, g a = s.heap.get? a) : obsRG as fb fn g = (hookR as fb fn).obs s := by
  have e : g = s.heap.get? := funext h
  rw [e]
  rfl
end DL
set_option maxHeartbeats 0
namespace Wk
open PySem PySem.Spec PyProof.Rows L2 DL
/-! the head's run, with the facts that are wanted of it -/
def clsR : List PySem.Str := ["Program"]
def topR (i : Nat) : Stmt := PySem.Challenge.pw_budgetfolds_k03_functions_refused.main.body.getD i (.Pass ⟨0, 0, 0, 0⟩)
def d0 : DefA := ⟨(.fn "_law_ladle"), "_law_ladle", "_law_ladle", defArgs (topR 51), defBody (topR 51), defScope (topR 51), []⟩
def d1 : DefA := ⟨(.fn "_law_words"), "_law_words", "_law_words", defArgs (topR 52), defBody (topR 52), defScope (topR 52), []⟩
def d2 : DefA := ⟨(.fn "_law_table"), "_law_table", "_law_table", defArgs (topR 53), defBody (topR 53), defScope (topR 53), []⟩
def d3 : DefA := ⟨(.fn "_law_odd"), "_law_odd", "_law_odd", defArgs (topR 56), defBody (topR 56), defScope (topR 56), []⟩
def d4 : DefA := ⟨(.fn "_law_bent"), "_law_bent", "_law_bent", defArgs (topR 61), defBody (topR 61), defScope (topR 61), []⟩
def d5 : DefA := ⟨(.fn "_law_bases"), "_law_bases", "_law_bases", defArgs (topR 57), defBody (topR 57), defScope (topR 57), []⟩
def d6 : DefA := ⟨(.fn "_law_class"), "_law_class", "_law_class", defArgs (topR 58), defBody (topR 58), defScope (topR 58), []⟩
def d7 : DefA := ⟨(.fn "_law_told"), "_law_told", "_law_told", defArgs (topR 59), defBody (topR 59), defScope (topR 59), []⟩
def d8 : DefA := ⟨(.fn "_law_is_name"), "_law_is_name", "_law_is_name", defArgs (topR 55), defBody (topR 55), defScope (topR 55), []⟩
def d9 : DefA := ⟨(.fn "_law_within"), "_law_within", "_law_within", defArgs (topR 54), defBody (topR 54), defScope (topR 54), []⟩
def d10 : DefA := ⟨(.fn "_law_wrong"), "_law_wrong", "_law_wrong", defArgs (topR 60), defBody (topR 60), defScope (topR 60), []⟩
def d11 : DefA := ⟨(.pr "Program" "functions"), "functions", "Program.functions", defArgs (inClass (topR 48) 2), defBody (inClass (topR 48) 2), defScope (inClass (topR 48) 2), []⟩
def d12 : DefA := ⟨(.fn "is_name"), "is_name", "is_name", defArgs (topR 35), defBody (topR 35), defScope (topR 35), []⟩
def d13 : DefA := ⟨(.fn "is_integer"), "is_integer", "is_integer", defArgs (topR 33), defBody (topR 33), defScope (topR 33), []⟩
def d14 : DefA := ⟨(.fn "is_between"), "is_between", "is_between", defArgs (topR 34), defBody (topR 34), defScope (topR 34), []⟩
def d15 : DefA := ⟨(.fn "is_call"), "is_call", "is_call", defArgs (topR 38), defBody (topR 38), defScope (topR 38), []⟩
def d16 : DefA := ⟨(.fn "is_function"), "is_function", "is_function", defArgs (topR 39), defBody (topR 39), defScope (topR 39), []⟩
def d17 : DefA := ⟨(.fn "names_in"), "names_in", "names_in", defArgs (topR 40), defBody (topR 40), defScope (topR 40), []⟩
def d18 : DefA := ⟨(.fn "wrong_function"), "wrong_function", "wrong_function", defArgs (topR 41), defBody (topR 41), defScope (topR 41), []⟩
def d19 : DefA := ⟨(.fn "check_functions"), "check_functions", "check_functions", defArgs (topR 42), defBody (topR 42), defScope (topR 42), []⟩
def d20 : DefA := ⟨(.me "Program" "__init__"), "__init__", "Program.__init__", defArgs (inClass (topR 48) 0), defBody (inClass (topR 48) 0), defScope (inClass (topR 48) 0), []⟩
def d21 : DefA := ⟨(.fn "_law_right"), "_law_right", "_law_right", defArgs (topR 62), defBody (topR 62), defScope (topR 62), []⟩
def d22 : DefA := ⟨(.fn "_law_vat"), "_law_vat", "_law_vat", defArgs (topR 50), defBody (topR 50), defScope (topR 50), []⟩
def d23 : DefA := ⟨(.fn "law"), "law", "law", defArgs (topR 63), defBody (topR 63), defScope (topR 63), []⟩
def fn : List DefA := [d0, d1, d2, d3, d4, d5, d6, d7, d8, d9, d10, d11, d12, d13, d14, d15, d16, d17, d18, d19, d20, d21, d22, d23]
def fb : List Fb := [.fa (.free "ArithmeticError"), .fa (.free "LookupError"), .fa (.free "ValueError"), .fa (.free "abs"), .fa (.free "all"), .fa (.free "bool"), .fa (.free "divmod"), .fa (.free "enumerate"), .fa (.free "int"), .fa (.free "isinstance"), .fa (.free "len"), .fa (.free "list"), .fa (.free "max"), .fa (.free "min"), .fa (.free "range"), .fa (.free "repr"), .fa (.free "str"), .fa (.free "tuple"), .fa (.str "LETTERS" "abcdefghijklmnopqrstuvwxyz"), .fa (.int "MOST_CALLS" (4)), .fa (.int "MOST_FUNCTIONS" (6)), .fa (.int "MOST_SIZE" (50)), .fa (.int "MOST_TIMES" (9)), .fa (.cls "Program"), .fa (.glo "Program"), .fa (.glo "Broken"), .fa (.glo "CannotBe"), .fa (.glo "InUse"), .fa (.glo "InvalidChanges"), .fa (.glo "InvalidChoice"), .fa (.glo "InvalidClaim"), .fa (.glo "InvalidFunctions"), .fa (.glo "InvalidName"), .fa (.glo "InvalidNumber"), .fa (.glo "InvalidPart"), .fa (.glo "InvalidPlace"), .fa (.glo "InvalidRules"), .fa (.glo "InvalidSeen"), .fa (.glo "InvalidSite"), .fa (.glo "InvalidText"), .fa (.glo "InvalidWish"), .fa (.glo "NotAProgram"), .fa (.glo "NotARule"), .fa (.glo "NotOpen"), .fa (.glo "NotRight"), .fa (.glo "NotThere"), .fa (.glo "NothingToUndo"), .fa (.glo "OverBudget"), .fa (.glo "TooMany"), .fa (.glo "UnknownName"), .exn "InvalidFunctions" "index" "/claim/cut.py" "ValueError", .exs ["InvalidFunctions"] ["Broken", "CannotBe", "InUse", "InvalidChanges", "InvalidChoice", "InvalidClaim", "InvalidFunctions", "InvalidName", "InvalidNumber", "InvalidPart", "InvalidPlace", "InvalidRules", "InvalidSeen", "InvalidSite", "InvalidText", "InvalidWish", "NotAProgram", "NotARule", "NotOpen", "NotRight", "NotThere", "NothingToUndo", "OverBudget", "TooMany", "UnknownName"] ["ArithmeticError", "LookupError", "ValueError"], .exm ["InvalidFunctions"], .fa (.noat "Program" "bodies"), .sysm, .isi clsR, .fa (.glo "_law_ladle"), .fa (.glo "_law_words"), .fa (.glo "_law_table"), .fa (.glo "_law_odd"), .fa (.glo "_law_bent"), .fa (.glo "_law_bases"), .fa (.glo "_law_class"), .fa (.glo "_law_told"), .fa (.glo "_law_is_name"), .fa (.glo "_law_within"), .fa (.glo "_law_wrong"), .pro "Program" "functions", .fa (.glo "is_name"), .fa (.glo "is_integer"), .fa (.glo "is_between"), .fa (.glo "is_call"), .fa (.glo "is_function"), .fa (.glo "names_in"), .fa (.glo "wrong_function"), .fa (.glo "check_functions"), .fa (.mkr "Program"), .lam "_law_right" "_law_right.<locals>.<lambda>", .fa (.glo "_law_right"), .fa (.glo "_law_vat"), .fa (.glo "law")]
def ls0 : List PySem.Str := ["_wall", "NotRight", "InvalidText", "InvalidPart", "InvalidNumber", "InvalidSite", "InvalidChoice", "InvalidName", "InvalidWish", "InvalidClaim", "InvalidPlace", "NotAProgram", "NotARule", "InvalidFunctions", "InvalidRules", "InvalidSeen", "InvalidChanges", "NotThere", "UnknownName", "InUse", "NotOpen", "CannotBe", "TooMany", "OverBudget", "NothingToUndo", "Broken", "MOST_FUNCTIONS", "MOST_SIZE", "MOST_CALLS", "MOST_TIMES"]
def ls1 : List PySem.Str := ["LETTERS", "is_integer", "is_between", "is_name", "DIGITS", "is_call", "is_function", "names_in", "wrong_function", "check_functions", "number_in", "call_in", "function_in", "call_text", "line_of", "Program", "_law_vat", "_law_ladle", "_law_words", "_law_table", "_law_within", "_law_is_name", "_law_odd", "_law_bases", "_law_class", "_law_told", "_law_wrong", "_law_bent", "_law_right"]
def ls : List PySem.Str := ls0 ++ ls1
abbrev R : PySem.W.OpenRow := PySem.W.OpenLaw.row PySem.Challenge.rw_budgetfolds_k03_functions_refused
def asl : List Addr := [1, 2, 3, 30, 31, 53, 74, 95, 116, 137, 158, 179, 200, 221, 242, 263, 269, 280, 281, 283, 284, 305, 326, 347, 359, 381, 402, 423, 435, 457, 478, 490, 511, 519, 520, 526, 527, 531, 532, 538, 539, 543, 544, 548, 549, 553, 554, 560, 561, 603, 604, 618, 619, 620, 684, 685, 695, 696, 702, 703, 707, 708, 714, 715, 721, 722, 726, 727, 733, 734, 740, 741, 747, 748, 754, 755, 759, 760, 766, 767, 771, 772, 778, 779]
abbrev hk : PySem.W.Hook := hookR asl fb fn
def ob (s : PySem.W.SharedT) : AlA := obsRG asl fb fn (HandSHeadRun.getT s)
theorem ob_eq (s : PySem.W.SharedT) : ob s = hk.obs s.abs := obsRG_eq (HandSHeadRun.getT_eq s)
theorem run (w : World) : HandSHeadRun.RunEq R (PySem.W.view R.prog [63]) hk ob 40000 ls w := by
  intro os
  kernel_rfl
end Wk
set_option maxHeartbeats 2000000
/-! DL33: {**d, k: v}. -/
namespace DL
open PySem PySem.Spec PyProof.Rows L2
/-! ### over data -/
end DL
set_option maxHeartbeats 2000000
/-! DL34: what is a slot's own stands from now on. -/
namespace DL
open PySem PySem.Spec PyProof.Rows L2
section
variable {C : Ct} {W : WX} {X : Cx} {σ : L2.St} {H F : Hp} {s : S} {st : Stmt} {f : S → Out}
def S.frz (s : S) (i : Nat) : S := match s.sl[i]? with
  | some (.own c) => s.put i (.val c.d)
  | _ => s
theorem Rel.frz (r : Rel C σ H F s) (i : Nat) : ∃ F', Sub F F' ∧ Rel C σ H F' (s.frz i) := by
  unfold S.frz
  split
  · rename_i c h
    obtain ⟨a, F', _, u, _, r'⟩ := r.freeze h
    exact ⟨F', u, r'⟩
  · exact ⟨F, Sub.refl _, r⟩
def frzO (i : Nat) (f : S → Out) : S → Out := fun s => match f s with
  | .nx s' => .nx (s'.frz i)
  | o => o
theorem ds_frz (i : Nat) (h : DS X C W st f) : DS X C W st (frzO i f) := by
  refine ps_imp h fun E σ H ⟨F, s, r, q⟩ => ⟨F, s, r, ?_⟩
  unfold frzO at q
  cases e : f s with
  | nx s' =>
    rw [e] at q
    intro σ' H' F' r' u
    obtain ⟨F2, u2, r2⟩ := r'.frz i
    exact q σ' H' F2 r2 (u.trans u2)
  | _ => rw [e] at q; exact q
end
end DL
set_option maxHeartbeats 2000000
/-! DL36: < of ints, of tuples of ints. -/
namespace DL
open PySem PySem.Spec PyProof.Rows L2
end DL
set_option maxHeartbeats 2000000
/-! DL37: a comprehension over a slot's own list that stays the slot's own (what is made holds no list). -/
namespace DL
open PySem PySem.Spec PyProof.Rows L2
mutual
def D.lf : D → Bool
  | .non => true
  | .bl _ => true
  | .int _ => true
  | .str _ => true
  | .ty _ => true
  | .glo _ => true
  | .tup xs => D.lfs xs
  | _ => false
def D.lfs : List D → Bool
  | [] => true
  | x :: xs => D.lf x && D.lfs xs
end
def lessA (F : Hp) (a : Addr) : Hp := fun b => if b = a then none else F b
section
variable {K : PySem.W.Frag} {F : Hp} {a : Addr} {zs : List V}
theorem lessA_ne {b : Addr} (h : b ≠ a) : lessA F a b = F b := if_neg h
theorem lessA_rd {b : Addr} {u : HO} (ha : F a = some (.lst zs)) (hu : ∀ z, u ≠ .lst z) (h : Rd F b u) : Rd (lessA F a) b u := by
  have ne : b ≠ a := fun e => by
    subst e
    rcases h with h | ⟨o, h⟩
    · rw [ha] at h; cases h; exact hu _ rfl
    · rw [ha] at h; cases h
  rcases h with h | ⟨o, h⟩
  · exact .inl (by rw [lessA_ne ne]; exact h)
  · exact .inr ⟨o, by rw [lessA_ne ne]; exact h⟩
theorem lessA_sq {b : Addr} {xs : List V} (ha : F a = some (.lst zs)) (h : SqT K F b xs) : SqT K (lessA F a) b xs := by
  rcases h with h | h
  · exact .inl (lessA_rd ha (fun z e => nomatch e) h)
  · exact .inr h
mutual
theorem Is.less (ha : F a = some (.lst zs)) : ∀ {v : V} {d : D}, d.lf = true → Is K F v d → Is K (lessA F a) v d
  | _, _, _, .non => .non
  | _, _, _, .bl b => .bl b
  | _, _, _, .int i => .int i
  | _, _, _, .str x => .str x
  | _, _, _, .ty n => .ty n
  | _, _, _, .glo x => .glo x
  | _, _, l, .tup h r => .tup (lessA_sq ha h) (IsAll.less ha (by simpa only [D.lf] using l) r)
  | _, _, l, .lst h r => by simp [D.lf] at l
  | _, _, l, .ins h r => by simp [D.lf] at l
  | _, _, l, .dic h r => by simp [D.lf] at l
  | _, _, l, .tdc h r n m => by simp [D.lf] at l
  | _, _, l, .exn _ _ _ _ _ _ => by simp [D.lf] at l
  | _, _, l, .exn0 _ _ _ _ => by simp [D.lf] at l
theorem IsAll.less (ha : F a = some (.lst zs)) : ∀ {vs : List V} {ds : List D}, D.lfs ds = true → IsAll K F vs ds → IsAll K (lessA F a) vs ds
  | _, _, _, .nil => .nil
  | _, _, l, .cons h r => by
    simp only [D.lfs, Bool.and_eq_true] at l
    exact .cons (Is.less ha l.1 h) (IsAll.less ha l.2 r)
end
end
def onlyO (i : Nat) : Nat → List Sl → Bool
  | _, [] => true
  | k, x :: r => (k == i || (match x with
    | .own _ => false
    | _ => true)) && onlyO i (k + 1) r
theorem onlyO_eq {i : Nat} : (sl : List Sl) → (k : Nat) → onlyO i k sl = true → ∀ j c, sl[j]? = some (.own c) → k + j = i
  | [], k, _, j, c, e => by simp at e
  | x :: r, k, h, 0, c, e => by
    simp only [List.getElem?_cons_zero, Option.some.injEq] at e
    subst e
    simp [onlyO] at h
    exact h.1
  | x :: r, k, h, j + 1, c, e => by
    simp only [onlyO, Bool.and_eq_true] at h
    have := onlyO_eq r (k + 1) h.2 j c (by simpa using e)
    omega
section
variable {C : Ct} {W : WX} {X : Cx} {σ : L2.St} {H F H' F' : Hp} {s : S}
theorem iof_frz {i : Nat} (s : S) : iOf (eVar i) s = iOf (eVar i) (s.frz i) := by
  obtain ⟨sl, io⟩ := s
  unfold S.frz
  cases h : sl[i]? with
  | none => simp [h]
  | some x =>
    cases x with
    | own c =>
      have hi : i < sl.length := (List.getElem?_eq_some_iff.mp h).1
      have e : eVar i ⟨sl, io⟩ = .ok c.d ⟨sl.set i (.val c.d), io⟩ := by simp [eVar, h, S.put]
      have e2 : eVar i ⟨sl.set i (.val c.d), io⟩ = .ok c.d ⟨sl.set i (.val c.d), io⟩ := by simp [eVar, hi]
      simp only [S.put, h, iOf, mbind, e, e2]
    | _ => simp [h]
theorem eLc_frz {i : Nat} {vs : List Nat} {p : Pat} {t : M Bool} {fe : M D} (s : S) : eLcL vs (iOf (eVar i)) p t fe s = eLcL vs (iOf (eVar i)) p t fe (s.frz i) := by
  simp only [eLcL, mbind]
  rw [← iof_frz]
end
end DL
set_option maxHeartbeats 2000000
/-! DL38: x, y = a, b where a target is caught by a comprehension (no stores are swapped): by way of the tuple. -/
namespace DL
open PySem PySem.Spec PyProof.Rows L2
section
variable {C : Ct} {W : WX} {X : Cx} {σ : L2.St} {H F H' F' : Hp} {s : S} {es : List Expr} {fs : M (List RV)} {K : PySem.W.Frag}
theorem RvAll.ext (e : Ext H F H' F') : ∀ {sl : List Sl} {vs : List V} {rs : List RV} {A : List Addr}, RvAll C σ F H sl vs rs A → RvAll C σ F' H' sl vs rs A
  | _, _, _, _, .nil => .nil
  | _, _, _, _, .val h r => .val (h.up e.f) (RvAll.ext e r)
  | _, _, _, _, .own h1 h2 h3 h4 h5 r => by
    obtain ⟨o, ho⟩ := h3.there
    exact .own (by rw [e.o _ (by rw [ho]; exact fun z => nomatch z)]; exact h1) h2 (h3.up e.f (e.h _)) h4 h5 (RvAll.ext e r)
end
end DL
set_option maxHeartbeats 2000000
/-! DL39: min, max of a list of ints. -/
namespace DL
open PySem PySem.Spec PyProof.Rows L2
end DL
set_option maxHeartbeats 2000000
/-! DL40: list(range(a, b)), list(range(a)). -/
namespace DL
open PySem PySem.Spec PyProof.Rows L2
end DL
set_option maxHeartbeats 4000000
/-! DL41: tuple * 1. -/
namespace L2
open PySem PySem.Spec PyProof.Rows
theorem tuple_mul1 (l : Addr) (items : Array Value) (n : Nat) (dd : Option Addr) (sl : Array (Option Value)) (u : Tok) :
    Meets (Builtin.«tuple.__mul__» ⟨[.ref l, .int 1 u], []⟩) (fun _ R s => s.heap.get? l = some { cls := .type "tuple", dict := dd, data := .seq items n, slots := sl } ∧
      R (.ok (.ret (Value.ref l))) s) :=
  .of_wp fun prog w A R s h => by
    obtain ⟨hp, g, d, tk, os⟩ := s
    obtain ⟨hl, h⟩ := h
    have f1 := AutoSeq1.idx_int
    wp_walk using wpAny_loadPart' hl
    exact ⟨_, rfl, h⟩
theorem tuple_mul0 (l : Addr) (items : Array Value) (n : Nat) (dd : Option Addr) (sl : Array (Option Value)) (u : Tok) (hne : items.isEmpty = false) :
    Meets (Builtin.«tuple.__mul__» ⟨[.ref l, .int 0 u], []⟩) (fun _ R s => s.heap.get? l = some { cls := .type "tuple", dict := dd, data := .seq items n, slots := sl } ∧
      R (.ok (.ret (Value.ref s.heap.objs.size))) { s with heap := s.heap.push { cls := Value.type "tuple", data := Data.seq #[] }, toks := s.toks }) :=
  .of_wp fun prog w A R s h => by
    obtain ⟨hp, g, d, tk, os⟩ := s
    obtain ⟨hl, h⟩ := h
    have f1 := AutoSeq1.idx_int
    wp_walk using wpAny_loadPart' hl
    exact ⟨_, rfl, h⟩
def rRep0 (K : PySem.W.Frag) : R2 := fun x y H Q => ∃ l xs, x = .ref l ∧ y = .int 0 ∧ SqT K H l xs ∧ xs ≠ [] ∧ ∀ p, H p = none → Q (.ref p) (upd H p (.tup []))
def rRep1 (K : PySem.W.Frag) : R2 := fun x y H Q => ∃ l xs, x = .ref l ∧ y = .int 1 ∧ SqT K H l xs ∧ Q (.ref l) H
section
variable {X : Cx}
theorem op_rep1 : OpR X (binaryOp .Mult) (rRep1 X.K) := by
  intro pins s σ H x y v u Q I rx ry h
  obtain ⟨l, xs, rfl, rfl, hT, q⟩ := h
  cases rx
  obtain ⟨t, rfl⟩ := ry
  obtain ⟨its, r, ⟨⟨cls, dd, data, sl⟩, ho, hc, n, hd⟩, hs⟩ := I.tuple hT
  simp only at hc hd
  subst hc hd
  refine wpAny_binaryOp_repeat_ref (T := "tuple") (U := "int") (by decide) ⟨_, ho, rfl⟩ (fun s' => typeIs_int s' 1 t) noFill_tuple_mul F.fills_int_mul F.slot_int_rmul repeat_tuple F.slot_int_index.lookup
    (call_meets F.slot_int_rmul (typeIs_int s 1 t) F.entry_int_rmul (F.args_int_rmul_2 _ _) (int_rmul_tuple 1 t l its.toArray n dd sl)
      ⟨ho, rfl, ⟨_, ho, rfl⟩, call_meets F.slot_tuple_mul ⟨_, ho, rfl⟩ F.entry_tuple_mul (F.args_tuple_mul_2 _ _) (tuple_mul1 l its.toArray n dd sl t) ⟨ho, ?_⟩⟩)
  exact ⟨.ref l, H, I, rfl, q⟩
theorem op_rep0 : OpR X (binaryOp .Mult) (rRep0 X.K) := by
  intro pins s σ H x y v u Q I rx ry h
  obtain ⟨l, xs, rfl, rfl, hT, hne, q⟩ := h
  cases rx
  obtain ⟨t, rfl⟩ := ry
  obtain ⟨its, r, ⟨⟨cls, dd, data, sl⟩, ho, hc, n, hd⟩, hs⟩ := I.tuple hT
  simp only at hc hd
  subst hc hd
  have hi : its.toArray.isEmpty = false := by
    cases its with
    | nil =>
      have hle := r.length.symm
      exact absurd (List.eq_nil_of_length_eq_zero hle.symm) hne
    | cons a b => rfl
  refine wpAny_binaryOp_repeat_ref (T := "tuple") (U := "int") (by decide) ⟨_, ho, rfl⟩ (fun s' => typeIs_int s' 0 t) noFill_tuple_mul F.fills_int_mul F.slot_int_rmul repeat_tuple F.slot_int_index.lookup
    (call_meets F.slot_int_rmul (typeIs_int s 0 t) F.entry_int_rmul (F.args_int_rmul_2 _ _) (int_rmul_tuple 0 t l its.toArray n dd sl)
      ⟨ho, rfl, ⟨_, ho, rfl⟩, call_meets F.slot_tuple_mul ⟨_, ho, rfl⟩ F.entry_tuple_mul (F.args_tuple_mul_2 _ _) (tuple_mul0 l its.toArray n dd sl t hi) ⟨ho, ?_⟩⟩)
  refine ⟨.ref s.heap.objs.size, _, I.laid (t' := s.toks) (o := .tup []) (fun b ob q => Heap.get?_push_of_some _ q) (Nat.le_refl _) ?_, rfl, q _ (I.hok.fresh (Nat.le_refl _))⟩
  exact ⟨by rw [sizeLine_eq]; simp, [], .nil, IsTup.new _ _⟩
end
end L2
namespace DL
open PySem PySem.Spec PyProof.Rows L2
/-- tuple * int, once and not at all, too -/
def mulT (d e : D) : Option D := match d, e with
  | .tup xs, .int k => if k = 1 then some (.tup xs) else if k = 0 then (if xs.isEmpty then none else some (.tup [])) else mulD (.tup xs) (.int k)
  | d, e => mulD d e
section
variable {X : Cx}
theorem o_mulT : OpD X (binaryOp .Mult) mulT := by
  obtain ⟨r, o1, o2⟩ := o_mul (X := X)
  refine ⟨_, (o1.or op_rep1).or op_rep0, ?_⟩
  intro H F x y d e d' su hx hy hg Q q
  unfold mulT at hg
  split at hg
  · rename_i xs k
    split at hg
    · rename_i hk
      subst hk
      cases hg
      cases hx with
      | tup h1 h2 =>
        cases hy
        exact .inl (.inr ⟨_, _, rfl, rfl, su.t h1, q _ H F (Ext.refl su) (.tup h1 h2)⟩)
    · split at hg
      · rename_i hk
        subst hk
        split at hg
        · cases hg
        · rename_i hx0
          cases hg
          cases hx with
          | tup h1 h2 =>
            cases hy
            refine .inr ⟨_, _, rfl, rfl, su.t h1, fun e => ?_, fun p hp => ?_⟩
            · subst e
              have := h2.len
              cases xs with
              | nil => exact hx0 rfl
              | cons a b => simp at this
            · exact q _ _ _ (ext_new su hp) (new_tup su hp .nil)
      · exact .inl (.inl (o2 H F x y _ _ d' su hx hy hg Q q))
  · exact .inl (.inl (o2 H F x y _ _ d' su hx hy hg Q q))
end
end DL
set_option maxHeartbeats 2000000
/-! DL42: x.insert(k, e), x a slot's own list. -/
namespace DL
open PySem PySem.Spec PyProof.Rows L2
def insL (ds : List D) (k : Int) (d : D) : List D := ds.take k.toNat ++ [d] ++ ds.drop k.toNat
def kIns (i : Nat) (kd : D × D) (s : S) : Out := match (s.cell i).bind lstOf, kd.1 with
  | some ds, .int k => if ds.length < LN ∧ 0 ≤ k ∧ k ≤ 1000000 then .nx (s.setCell i (.lst (insL ds k kd.2))) else .bad
  | _, _ => .bad
def sIns (i : Nat) (fk fe : M D) : S → Out := sOf (mbind (mhas i) fun _ => mbind (fun s => mopt ((s.cell i).bind lstOf) s) fun _ => mbind fk fun k => mbind fe fun d => mret (k, d)) (kIns i)
@[simp] theorem q_ins (i : Nat) (fk fe : M D) (s : S) : sIns i fk fe s = sOf (mbind (mhas i) fun _ => mbind (fun s => mopt ((s.cell i).bind lstOf) s) fun _ => mbind fk fun k => mbind fe fun d => mret (k, d)) (kIns i) s := rfl
end DL
set_option maxHeartbeats 2000000
/-! DL43: int(text). -/
namespace DL
open PySem PySem.Spec PyProof.Rows L2
end DL
/-! DL44: sorted(set(xs)) of a list of ints. -/
namespace DL
open PySem PySem.Spec PyProof.Rows L2
end DL
set_option maxHeartbeats 2000000
/-! DL45: x is True. -/
namespace DL
open PySem PySem.Spec PyProof.Rows L2
end DL
set_option maxHeartbeats 2000000
/-! DL46: a, b = a list. -/
namespace DL
open PySem PySem.Spec PyProof.Rows L2
end DL
set_option maxHeartbeats 2000000
/-! DL47: min of a list of alike data (tuples, lists, texts, to any depth). -/
namespace DL
open PySem PySem.Spec PyProof.Rows L2 PySem.W
end DL
set_option maxHeartbeats 2000000
/-! DL48: dicts whose keys are tuples of ints. -/
namespace DL
open PySem PySem.Spec PyProof.Rows L2
section
variable {K : PySem.W.Frag} {F : Hp}
def getT (k : List Int) (kvs : List (List Int × D)) : Option D := (kvs.find? fun kv => decide (kv.1 = k)).map (·.2)
def putT (kvs : List (List Int × D)) (k : List Int) (d : D) : List (List Int × D) := if (getT k kvs).isSome = true then kvs.map (fun kv => if kv.1 = k then (kv.1, d) else kv) else kvs ++ [(k, d)]
theorem IsTd.keys : ∀ {xs : List Te} {kvs : List (List Int × D)}, IsTd K F xs kvs → xs.map (·.1) = kvs.map (·.1)
  | _, _, .nil => rfl
  | _, _, .cons _ _ _ r => by rw [List.map_cons, List.map_cons, IsTd.keys r]
theorem IsTd.len {xs : List Te} {kvs : List (List Int × D)} (h : IsTd K F xs kvs) : xs.length = kvs.length := by
  have := congrArg List.length h.keys
  simpa using this
theorem IsTd.val (k : List Int) : ∀ {xs : List Te} {kvs : List (List Int × D)}, IsTd K F xs kvs → (∀ d, getT k kvs = some d → ∃ p v, atKey xs k = some p ∧ RelV v p.2 ∧ Is K F v d) ∧ (atKey xs k).isSome = (getT k kvs).isSome
  | _, _, .nil => ⟨fun d h => (nomatch (show (none : Option D) = some d from h)), rfl⟩
  | _, _, .cons (k := k') (b := bb) (v := vv) (u := uu) (d := d') b h q r => by
    obtain ⟨i1, i2⟩ := IsTd.val k r
    by_cases e : k' = k
    · refine ⟨fun d h' => ?_, ?_⟩
      · simp only [getT, List.find?_cons, e, decide_true, Option.map_some, Option.some.injEq] at h'
        subst h'
        exact ⟨(bb, uu), vv, by simp [atKey, List.find?_cons, e], q, h⟩
      · simp [atKey, getT, List.find?_cons, e]
    · simp only [atKey, getT, List.find?_cons, e, decide_false] at i1 i2 ⊢
      exact ⟨i1, i2⟩
theorem IsTd.repl {k : List Int} {v : V} {u : Value} {d : D} (hv : Is K F v d) (ru : RelV v u) : ∀ {xs : List Te} {kvs : List (List Int × D)}, IsTd K F xs kvs → IsTd K F (xs.map (putAt k u)) (kvs.map fun kv => if kv.1 = k then (kv.1, d) else kv)
  | _, _, .nil => .nil
  | _, _, .cons (k := k') b h q r => by
    rw [List.map_cons, List.map_cons]
    by_cases e : k' = k
    · simp only [putAt, e, if_true]
      exact .cons (by rw [← e]; exact b) hv ru (IsTd.repl hv ru r)
    · simp only [putAt, e, if_false]
      exact .cons b h q (IsTd.repl hv ru r)
theorem IsTd.app : ∀ {xs ys : List Te} {kvs ls : List (List Int × D)}, IsTd K F xs kvs → IsTd K F ys ls → IsTd K F (xs ++ ys) (kvs ++ ls)
  | _, _, _, _, .nil, s => s
  | _, _, _, _, .cons b h q r, s => .cons b h q (IsTd.app r s)
theorem IsTd.put {k : List Int} {b : Addr} {v : V} {u : Value} {d : D} (hb : SqT K F b (k.map V.int)) (hv : Is K F v d) (ru : RelV v u) {xs : List Te} {kvs : List (List Int × D)} (h : IsTd K F xs kvs) : IsTd K F (storedH xs k b u) (putT kvs k d) := by
  unfold storedH putT
  rw [(h.val k).2]
  split
  · exact h.repl hv ru
  · exact h.app (.cons hb hv ru .nil)
end
end DL
set_option maxHeartbeats 2000000
/-! DL49: dicts with tuple keys gone through: for k in d, d.values(), sorted(d), list(d). -/
namespace DL
open PySem PySem.Spec PyProof.Rows L2
end DL
set_option maxHeartbeats 2000000
/-! DL50: sorted(d) of a dict with tuple keys. -/
namespace DL
open PySem PySem.Spec PyProof.Rows L2
end DL
set_option maxHeartbeats 2000000
/-! DL51: a slot's own dict that is read, lent, and stays the slot's own (what is made holds no dict); x["k"] = e. -/
namespace DL
open PySem PySem.Spec PyProof.Rows L2
end DL
set_option maxHeartbeats 2000000
/-! DL52: x["k"], x["l"] = a, b, x a dict of one's own. -/
namespace DL
open PySem PySem.Spec PyProof.Rows L2
end DL
set_option maxHeartbeats 2000000
/-! DL53: dict(d), a copy; tuple(range(n)). -/
namespace DL
open PySem PySem.Spec PyProof.Rows L2
end DL
set_option maxHeartbeats 2000000
/-! DL54: x.update([(k, v), ..]), x a slot's own dict with tuples of ints as keys. -/
namespace DL
open PySem PySem.Spec PyProof.Rows L2
/-! ### data -/
/-! ### the statement -/
end DL
set_option maxHeartbeats 2000000
/-! DL55: a slot's own dict with tuples as keys gone through, while another one is changed. -/
namespace DL
open PySem PySem.Spec PyProof.Rows L2
/-! ### the loop -/
end DL
set_option maxHeartbeats 2000000
/-! DL56: list(d), d a dict with tuples as keys. -/
namespace DL
open PySem PySem.Spec PyProof.Rows L2 PySem.W
end DL
set_option maxHeartbeats 2000000
/-! DL57: a slot's own dict lent while something is made that holds dicts with other keys. -/
namespace DL
open PySem PySem.Spec PyProof.Rows L2
end DL
set_option maxHeartbeats 2000000
/-! DL58: x[k], y[l] = a, b, x and y dicts of one's own whose keys are tuples. -/
namespace DL
open PySem PySem.Spec PyProof.Rows L2
end DL
set_option maxHeartbeats 2000000
/-! DL59: f(e, .., k = v, ..), a def's call with values by place, then by name. -/
namespace DL
open PySem PySem.Spec PyProof.Rows L2
end DL
set_option maxHeartbeats 2000000
/-! DL60: o.f = {}, then o.f[k] = e for k in a list: an instance's own dict, filled while the instance is made. -/
namespace DL
open PySem PySem.Spec PyProof.Rows L2
/-- what of F is no instance and no dict stands in G -/
def Strip (F G : Hp) : Prop := ∀ b o, F b = some o → (∃ xs, o = .lst xs) ∨ (∃ xs, o = .tup xs) ∨ (∃ p u, o = .frz p u) → G b = some o
section
variable {K : PySem.W.Frag} {F G : Hp}
theorem Strip.rl (S : Strip F G) {a : Addr} {xs : List V} (h : Rd F a (.lst xs)) : Rd G a (.lst xs) := by
  rcases h with h | ⟨o, h⟩
  · exact .inl (S _ _ h (.inl ⟨_, rfl⟩))
  · exact .inr ⟨o, S _ _ h (.inr (.inr ⟨_, _, rfl⟩))⟩
theorem Strip.rt (S : Strip F G) {a : Addr} {xs : List V} (h : SqT K F a xs) : SqT K G a xs := by
  rcases h with h | h
  · rcases h with h | ⟨o, h⟩
    · exact .inl (.inl (S _ _ h (.inr (.inl ⟨_, rfl⟩))))
    · exact .inl (.inr ⟨o, S _ _ h (.inr (.inr ⟨_, _, rfl⟩))⟩)
  · exact .inr h
end
theorem IsFs.app1 {K : PySem.W.Frag} {F : Hp} {f : Str} {v : V} {d : D} (q : Is K F v d) : ∀ {vs : List (Str × V)} {fs : List (Str × D)}, IsFs K F vs fs → IsFs K F (vs ++ [(f, v)]) (fs ++ [(f, d)])
  | _, _, .nil => .cons q .nil
  | _, _, .cons h r => .cons h (IsFs.app1 q r)
def Sl.nown : Sl → Bool
  | .own _ => false
  | _ => true
/-- the state in which the instance, its dict in it, is lent as a datum -/
def lendX (c f : Str) (fs : List (Str × D)) (kvs : List (List Int × D)) : Sl → Sl
  | .io _ => .val (.ins c (fs ++ [(f, .tdc kvs)]))
  | .own _ => .no
  | x => x
def S.lendN (s : S) (c f : Str) (fs : List (Str × D)) (kvs : List (List Int × D)) : S := ⟨s.sl.map (lendX c f fs kvs), []⟩
/-- what stands while the dict is filled -/
structure RelN (C : Ct) (σ : L2.St) (H F : Hp) (s : S) (i : Nat) (a b dx : Addr) (c f : Str) (vs : List (Str × V)) (fs : List (Str × D)) (ep : Nat) (xs : List Te) (kvs : List (List Int × D)) : Prop where
  A : C.A = [a]
  sub : Sub F H
  keep : ∀ x o, C.H0 x = some o → x ∉ C.A → Kept o (H x)
  f0 : ∀ x, C.H0 x ≠ none → F x = C.F0 x
  len : s.sl.length = σ.length
  slot : ∀ (k : Nat) (x : Sl), s.sl[k]? = some x → SlotOk C F H σ[k]? x
  own : s.sl.all Sl.nown = true
  hi : s.sl[i]? = some (.io 0)
  ha : H a = some (.ins (He.ga C.K c) dx (vs ++ [(f, .ref b)]))
  hb : H b = some (tdO b ep xs)
  ifs : IsFs C.K F vs fs
  itd : IsTd C.K F xs kvs
  nk : (kvs.map (·.1)).Nodup
  kl : kvs.length ≤ 100000
  fa : F a = none
  fb : F b = none
  h0b : C.H0 b = none
  inn : ∀ x ∈ C.A, C.H0 x ≠ none
  nd : C.A.Nodup
  s0 : S0 C
  tabs : TabsF C.K F H
section
variable {C : Ct} {W : WX} {σ : L2.St} {H F H' F' : Hp} {s : S} {i : Nat} {a b dx : Addr} {c f : Str} {vs : List (Str × V)} {fs : List (Str × D)} {ep : Nat} {xs : List Te} {kvs : List (List Int × D)}
def lessN (F : Hp) (a b : Addr) : Hp := fun x => if x = a ∨ x = b then none else F x
theorem lessN_ne {x : Addr} (h : x ≠ a) (k : x ≠ b) : lessN F a b x = F x := if_neg fun e => e.elim h k
theorem RelN.ne (r : RelN C σ H F s i a b dx c f vs fs ep xs kvs) : a ≠ b := fun e => by
  have h := r.ha
  rw [e, r.hb] at h
  exact nomatch (show HO.ext _ = HO.ins _ _ _ from Option.some.inj h)
theorem RelN.there (r : RelN C σ H F s i a b dx c f vs fs ep xs kvs) {x : Addr} (h : C.H0 x ≠ none) : H x ≠ none := by
  cases q : C.H0 x with
  | none => exact absurd q h
  | some o =>
    by_cases m : x ∈ C.A
    · rw [r.A] at m
      rw [List.mem_singleton.mp m, r.ha]
      exact fun z => nomatch z
    · exact (r.keep x o q m).ne
theorem RelN.lend (r : RelN C σ H F s i a b dx c f vs fs ep xs kvs) : ∃ F1, Rel ⟨C.K, H, F1, []⟩ σ H F1 (s.lendN c f fs kvs) ∧ Sub F F1 ∧ (∀ x, x ≠ a → x ≠ b → F1 x = F x) ∧ F1 b = some (tdO b ep xs) ∧ F1 a = some (.ins (He.ga C.K c) dx (vs ++ [(f, .ref b)])) := by
  have ne := r.ne
  let F1 : Hp := upd (upd F a (.ins (He.ga C.K c) dx (vs ++ [(f, .ref b)]))) b (tdO b ep xs)
  have e1 : F1 b = some (tdO b ep xs) := upd_same
  have e2 : F1 a = some (.ins (He.ga C.K c) dx (vs ++ [(f, .ref b)])) := by
    show upd _ b _ a = _
    rw [upd_ne ne, upd_same]
  have e3 : ∀ x, x ≠ a → x ≠ b → F1 x = F x := fun x h k => by
    show upd _ b _ x = _
    rw [upd_ne k, upd_ne h]
  have uf : Sub F F1 := fun x o e => by
    have h1 : x ≠ a := fun z => by rw [z, r.fa] at e; cases e
    have h2 : x ≠ b := fun z => by rw [z, r.fb] at e; cases e
    rw [e3 x h1 h2]; exact e
  have sf : Sub F1 H := fun x o e => by
    by_cases h1 : x = a
    · subst h1; rw [e2] at e; rw [r.ha]; exact e
    · by_cases h2 : x = b
      · subst h2; rw [e1] at e; rw [r.hb]; exact e
      · rw [e3 x h1 h2] at e; exact r.sub _ _ e
  have isa : Is C.K F1 (.ref a) (.ins c (fs ++ [(f, .tdc kvs)])) := .ins e2 (IsFs.app1 (.tdc e1 (r.itd.up uf) r.nk r.kl) (r.ifs.up uf))
  refine ⟨F1, ⟨sf, fun _ _ h _ => .inl h, fun _ _ => rfl, by show (s.sl.map _).length = _; rw [List.length_map]; exact r.len, fun k x e => ?_, rfl, fun j a c h => (nomatch h), fun k l p ⟨_, c', h⟩ => ?_, fun x h => (nomatch h), List.nodup_nil, ⟨sf, fun p hp => ?_⟩, r.tabs.up uf⟩, uf, e3, e1, e2⟩
  · have e : (s.sl.map (lendX c f fs kvs))[k]? = some x := e
    rw [List.getElem?_map] at e
    obtain ⟨y, ey, rfl⟩ := Option.map_eq_some_iff.mp e
    have q := r.slot k y ey
    cases y with
    | no => trivial
    | val d => obtain ⟨v, h1, h2⟩ := q; exact ⟨v, h1, h2.up uf⟩
    | own c => trivial
    | io m =>
      obtain ⟨p, h1, h2⟩ := q
      have hm : p = a := by
        rw [r.A] at h2
        cases m with
        | zero => exact (Option.some.inj h2).symm
        | succ m => cases h2
      subst hm
      exact ⟨.ref p, h1, isa⟩
  · have h : (s.sl.map (lendX c f fs kvs))[k]? = some (.own c') := h
    rw [List.getElem?_map] at h
    obtain ⟨y, ey, e⟩ := Option.map_eq_some_iff.mp h
    cases y <;> cases e
  · have hp : p ∈ tbOf C.K := hp
    obtain ⟨ps, h, _⟩ := r.tabs p hp
    have h1 : p.1 ≠ a := fun z => by rw [z, r.ha] at h; cases h
    have h2 : p.1 ≠ b := fun z => by rw [z, r.hb] at h; exact tdO_nt ps (Option.some.inj h)
    refine ⟨?_, by show H p.1 ≠ none; rw [h]; exact fun z => nomatch z⟩
    show F1 p.1 = none
    rw [e3 _ h1 h2, r.f0 p.1 (r.s0.2 p hp).2]
    exact (r.s0.2 p hp).1
/-- what was lent comes back -/
theorem RelN.back {F1 : Hp} {s2 : S} (r : RelN C σ H F s i a b dx c f vs fs ep xs kvs) (u1 : Sub F F1) (e3 : ∀ x, x ≠ a → x ≠ b → F1 x = F x) (eb : F1 b = some (tdO b ep xs)) (ea : F1 a = some (.ins (He.ga C.K c) dx (vs ++ [(f, .ref b)])))
    (r2 : Rel ⟨C.K, H, F1, []⟩ σ H' F' s2) (u2 : Sub F1 F') : RelN C σ H' (lessN F' a b) s i a b dx c f vs fs ep xs kvs ∧ Sub F (lessN F' a b) ∧ Strip F' (lessN F' a b) := by
  have uf : Sub F (lessN F' a b) := fun x o e => by
    have h1 : x ≠ a := fun z => by rw [z, r.fa] at e; cases e
    have h2 : x ≠ b := fun z => by rw [z, r.fb] at e; cases e
    rw [lessN_ne h1 h2]; exact u2 _ _ (u1 _ _ e)
  have kk : ∀ x o, H x = some o → Kept o (H' x) := fun x o h => r2.keep x o h fun z => nomatch z
  refine ⟨⟨r.A, fun x o e => ?_, fun x o h m => (r.keep x o h m).trans (kk x), fun x h => ?_, r.len, fun k x e => ?_, r.own, r.hi, (kk _ _ r.ha).nt (fun _ z => nomatch z), (kk _ _ r.hb).nt tdO_nt, r.ifs.up uf, r.itd.up uf, r.nk, r.kl, if_pos (.inl rfl), if_pos (.inr rfl), r.h0b, r.inn, r.nd, r.s0,
    r2.tabs.strip fun x q e => by
      rw [lessN_ne (fun z => by rw [z, u2 _ _ ea] at e; exact codeO_ins (Option.some.inj e).symm) (fun z => by rw [z, u2 _ _ eb] at e; exact codeO_tdO (Option.some.inj e).symm)]
      exact e⟩, uf, fun x o e k => ?_⟩
  · by_cases h : x = a ∨ x = b
    · rw [lessN, if_pos h] at e; cases e
    · rw [lessN, if_neg h] at e; exact r2.sub _ _ e
  · have hb : x ≠ b := fun z => h (by rw [z]; exact r.h0b)
    by_cases ha : x = a
    · subst ha
      rw [lessN, if_pos (.inl rfl), ← r.f0 x h, r.fa]
    · rw [lessN_ne ha hb, r2.f0 x (r.there h)]
      show F1 x = _
      rw [e3 x ha hb]; exact r.f0 x h
  · have q := r.slot k x e
    cases x with
    | no => trivial
    | val d => obtain ⟨v, h1, h2⟩ := q; exact ⟨v, h1, h2.up uf⟩
    | own c' =>
      have := List.all_eq_true.mp r.own _ (List.mem_of_getElem? e)
      cases this
    | io m => exact q
  · have h1 : x ≠ a := fun z => by
      subst z
      rw [u2 _ _ ea] at e
      cases e
      rcases k with ⟨_, k⟩ | ⟨_, k⟩ | ⟨_, _, k⟩ <;> cases k
    have h2 : x ≠ b := fun z => by
      subst z
      rw [u2 _ _ eb] at e
      cases e
      rcases k with ⟨_, k⟩ | ⟨_, k⟩ | ⟨_, _, k⟩ <;> exact nomatch k
    rw [lessN_ne h1 h2]; exact e
theorem RelN.put (r : RelN C σ H F s i a b dx c f vs fs ep xs kvs) {j : Nat} (hij : i ≠ j) {v : V} {d : D} (iv : Is C.K F v d) : RelN C (σ.set j (some v)) H F (s.put j (.val d)) i a b dx c f vs fs ep xs kvs := by
  refine ⟨r.A, r.sub, r.keep, r.f0, by show (s.sl.set j _).length = _; rw [List.length_set, List.length_set]; exact r.len, fun k x e => ?_, ?_, ?_, r.ha, r.hb, r.ifs, r.itd, r.nk, r.kl, r.fa, r.fb, r.h0b, r.inn, r.nd, r.s0, r.tabs⟩
  · rcases set_get (show (s.sl.set j (.val d))[k]? = some x from e) with ⟨rfl, rfl, hl⟩ | ⟨hj, e⟩
    · exact ⟨v, by rw [List.getElem?_set_self (by rw [← r.len]; exact hl)], iv⟩
    · rw [List.getElem?_set_ne fun z => hj z.symm]
      exact r.slot k x e
  · rw [List.all_eq_true]
    intro x hx
    obtain ⟨k, hk⟩ := List.getElem?_of_mem hx
    rcases set_get (show (s.sl.set j (.val d))[k]? = some x from hk) with ⟨rfl, rfl, hl⟩ | ⟨hj, e⟩
    · rfl
    · exact List.all_eq_true.mp r.own x (List.mem_of_getElem? e)
  · show (s.sl.set j _)[i]? = _
    rw [List.getElem?_set_ne fun z => hij z.symm]
    exact r.hi
/-- filled -/
theorem RelN.done (r : RelN C σ H F s i a b dx c f vs fs ep xs kvs) : ∃ F', Rel C σ H F' ⟨s.sl, [.ins c (fs ++ [(f, .tdc kvs)])]⟩ ∧ Sub F F' := by
  have ne := r.ne
  have uf : Sub F (upd F b (tdO b ep xs)) := fun x o e => by
    rw [upd_ne fun z => by rw [z, r.fb] at e; cases e]; exact e
  refine ⟨upd F b (tdO b ep xs), ⟨fun x o e => ?_, r.keep, fun x h => ?_, r.len, fun k x e => ?_, by rw [r.A]; rfl, fun k p c' h1 h2 => ?_, fun k l p ⟨_, c', h⟩ => ?_, r.inn, r.nd, r.s0, r.tabs.up uf⟩, uf⟩
  · by_cases h : x = b
    · subst h; rw [upd_same] at e; rw [r.hb]; exact e
    · rw [upd_ne h] at e; exact r.sub _ _ e
  · rw [upd_ne fun z => h (by rw [z]; exact r.h0b)]
    exact r.f0 x h
  · have q := r.slot k x e
    cases x with
    | no => trivial
    | val d => obtain ⟨v, h1, h2⟩ := q; exact ⟨v, h1, h2.up uf⟩
    | own c' =>
      have := List.all_eq_true.mp r.own _ (List.mem_of_getElem? e)
      cases this
    | io m => exact q
  · have hk : k = 0 ∧ p = a := by
      rw [r.A] at h1
      cases k with
      | zero => exact ⟨rfl, (Option.some.inj h1).symm⟩
      | succ k => cases h1
    obtain ⟨rfl, rfl⟩ := hk
    cases h2
    have ia : C.H0 p ≠ none := r.inn p (by rw [r.A]; exact List.mem_singleton.mpr rfl)
    exact ⟨by rw [← r.f0 p ia]; exact r.fa, dx, _, r.ha, IsFs.app1 (.tdc upd_same (r.itd.up uf) r.nk r.kl) (r.ifs.up uf)⟩
  · have h : s.sl[k]? = some (.own c') := h
    have := List.all_eq_true.mp r.own _ (List.mem_of_getElem? h)
    cases this
end
end DL
set_option maxHeartbeats 2000000
/-! DL61: sorted(e, key=f, reverse=True) of tuples, f a def that gives len. -/
namespace DL
open PySem PySem.Spec PyProof.Rows L2
end DL
set_option maxHeartbeats 2000000
/-! DL62: list(enumerate(xs)), list(zip(xs, ys)) of lists. -/
namespace DLI
open PySem PySem.Calls PyProof.Rows PySem.W
/-! ### enumerate of a list, zip of two lists -/
/-- the tuples so far: f tells their items -/
structure Tups (h0 : Heap) (own : List Addr) (S : Addr) (f : Nat → Value → Value → Prop) (i : Nat) (acc : List Value) (h : Heap) : Prop where
  len : acc.length = i
  at_ : ∀ j v, acc[j]? = some v → ∃ T x y, v = .ref T ∧ f j x y ∧ h.get? T = some { cls := .type "tuple", data := .seq #[x, y] } ∧ T ∉ own ∧ T ≠ S ∧ h0.get? T = none
  nd : acc.Nodup
  keep : ∀ b o, h0.get? b = some o → b ∉ own → b ≠ S → h.get? b = some o
theorem Tups.frame {h0 h h' : Heap} {own : List Addr} {S : Addr} {f : Nat → Value → Value → Prop} {i : Nat} {acc : List Value} (t : Tups h0 own S f i acc h) (k : ∀ b o, b ∉ own → b ≠ S → h.get? b = some o → h'.get? b = some o) : Tups h0 own S f i acc h' :=
  ⟨t.len, fun j v e => let ⟨T, x, y, h1, h2, h3, h4, h5, h6⟩ := t.at_ j v e; ⟨T, x, y, h1, h2, k _ _ h4 h5 h3, h4, h5, h6⟩, t.nd, fun b o e n m => k _ _ n m (t.keep b o e n m)⟩
theorem Tups.push {h0 h h' : Heap} {own : List Addr} {S T : Addr} {f : Nat → Value → Value → Prop} {i : Nat} {acc : List Value} {x y : Value} (t : Tups h0 own S f i acc h) (k : ∀ b o, b ∉ own → b ≠ S → h.get? b = some o → h'.get? b = some o)
    (hf : f i x y) (hT : h'.get? T = some { cls := .type "tuple", data := .seq #[x, y] }) (h1 : T ∉ own) (h2 : T ≠ S) (hn : h.get? T = none) : Tups h0 own S f (i + 1) (acc ++ [.ref T]) h' := by
  have t' := t.frame k
  have h6 : h0.get? T = none := by
    cases q : h0.get? T with
    | none => rfl
    | some o => rw [t.keep T o q h1 h2] at hn; cases hn
  refine ⟨by rw [List.length_append, List.length_singleton, t.len], fun j v e => ?_, ?_, t'.keep⟩
  rotate_left
  · rw [List.nodup_append]
    refine ⟨t.nd, by simp, fun v hv u hu e => ?_⟩
    obtain ⟨j, hj⟩ := List.getElem?_of_mem hv
    obtain ⟨T', x, y, e1, _, e2, _⟩ := t.at_ j v hj
    have hu : u = .ref T := by simpa using hu
    rw [← e, e1] at hu
    cases hu
    rw [e2] at hn; cases hn
  by_cases hj : j < acc.length
  · rw [List.getElem?_append_left hj] at e
    exact t'.at_ j v e
  · rw [List.getElem?_append_right (by omega)] at e
    have hj0 : j - acc.length = 0 := by
      by_cases z : j - acc.length = 0
      · exact z
      · rw [List.getElem?_eq_none (by simp; omega)] at e; cases e
    rw [hj0] at e
    cases e
    have : j = i := by have := t.len; omega
    subst this
    exact ⟨T, x, y, rfl, hf, hT, h1, h2, h6⟩
end DLI
namespace DL
open PySem PySem.Spec PyProof.Rows L2 PySem.W
/-! ### the list and its tuples, known -/
/-! ### as data -/
end DL
set_option maxHeartbeats 2000000
/-! DL63: x.extend(a new list); for .. in reversed(list). -/
namespace DL
open PySem PySem.Spec PyProof.Rows L2
end DL
set_option maxHeartbeats 2000000
/-! DL64: dict(zip(xs, ys)), two lists. -/
namespace DL
open PySem PySem.Spec PyProof.Rows L2
end DL
set_option maxHeartbeats 2000000
/-! DL65: raise C(v), C an own class of errors with super().__init__() and fields. -/
namespace DL
open PySem PySem.Spec PyProof.Rows L2
/-! ### the store of a first field, over any base -/
section
open Builtin Builtin.ObjectAttr
variable {prog : Program} {w : World} {A : Around} {E : Value → Shared → Prop} {R : Result → Shared → Prop} {hp : Heap} {g : Array GenState} {d : Drawn} {t : Nat} {os : OsState}
theorem xi_osa {K : PySem.W.Frag} {B : String} {bmB : List Value} {nm : Str} {tk : Tok} {v : Value} {x Ca : Addr} {fv : Array Value} (SF : PySem.StoreFacts B bmB "object.__setattr__" "object") (X : K.In hp) (hx : hp.get? x = some { cls := .ref Ca, data := .fields fv })
    (hv : PySem.W.excOver K Ca bmB = true) (ht : PySem.W.takerIn K Ca nm = some none) (hh : PySem.W.hasDictIn K Ca = true)
    (hq : ∀ h' tk' dx, (∀ b o, b ≠ x → hp.get? b = some o → h'.get? b = some o) → hp.objs.size ≤ dx → dx ≠ x → h'.get? x = some { cls := .ref Ca, dict := some dx, data := .fields fv } →
      h'.Ns1 dx (fun y => if y = nm then some v else none) → R (.ok (.ret .none)) ⟨h', g, d, tk', os⟩) :
    codeAny (model prog w) A (.call (.builtin "object.__setattr__") ⟨[.ref x, .str nm tk, v], []⟩) R ⟨hp, g, d, t, os⟩ := by
  have hxs : x ≠ hp.objs.size := Nat.ne_of_lt (Heap.lt_size hx)
  refine PySem.W.osa_openX (od := none) SF X ⟨hx, rfl, rfl, trivial⟩ hv ht fun b => ?_
  obtain ⟨cd, hc, hd⟩ := PySem.W.any_some hh
  have hcls : PySem.W.Looks (model prog w) hp (classData Ca) cd := PySem.W.looks_clsIn X hc
  obtain ⟨n1, bs, mro, ns, qn, hd1, sn, sb, ab, col, del⟩ := cd
  dsimp only at hd
  subst hd
  unfold storeInOwnDict ownDictForStores
  repeat (first | with_reducible refine HandSPX.store_in_new ?_ ?_ | with_reducible refine wpAny_loadPart_at hx ?_ | with_reducible refine hcls.at ?_ | wp_step)
  · exact ⟨_, #[], _, (Heap.get?_update_ne _ _ _ _ hxs.symm).trans (Heap.get?_push_at rfl rfl), rfl, fun e he => absurd he (by simp), fun _ => rfl⟩
  · intro h' tk' hn' hs
    have hx₁ : (hp.push { cls := .type "dict", data := .dict #[] }).get? x = some { cls := .ref Ca, data := .fields fv } := Heap.get?_push_of_some _ hx
    refine hq h' tk' hp.objs.size (fun b o hb ho => ?_) (Nat.le_refl _) hxs.symm ?_ hn'
    · exact (hs.2 b (Nat.ne_of_lt (Heap.lt_size ho))).trans ((Heap.get?_update_ne _ _ _ _ hb).trans (Heap.get?_push_of_some _ ho))
    · exact (hs.2 x hxs).trans (Heap.get?_update_self _ hx₁ rfl)
end
/-! ### what is told of such a class -/
structure XIn (K : PySem.W.Frag) (P : Program) (Ca : Addr) (f : Str) (fI : Addr) (B newId i : String) (bmB : List Value) : Prop where
  FB : ExcBaseFacts B newId i bmB
  KF : PySem.W.KxsFacts B i
  SF : StoreFacts B bmB "object.__setattr__" "object"
  init : PySem.W.excInitIn K Ca bmB newId = true
  over : PySem.W.excOver K Ca bmB = true
  hi : PySem.W.findIn K (.ref Ca) "__init__" = some (some (.ref fI))
  ty : PySem.W.typeIn K (.ref fI) = some (.type "function")
  hs : PySem.W.findIn K (.ref Ca) "__setattr__" = some (some (.builtin "object.__setattr__"))
  ht : PySem.W.takerIn K Ca f = some none
  hh : PySem.W.hasDictIn K Ca = true
  hB : PySem.W.subIn K (.ref Ca) (.type B) = some true
  exC : PySem.W.subIn K (.ref Ca) (.type "BaseException") = some true
  tyC : PySem.W.typeIn K (.ref Ca) = some (.type "type")
  kC : PySem.W.keepIn K (.ref Ca) = true
  sup : PySem.W.ks_superIn K Ca Ca "__init__" = some (some (.builtin i))
  sub : PySem.W.mroIn K Ca (.ref Ca) = some true
  nos : PySem.W.nsIn K mainGlobals "super" = some none
  opq : PySem.W.nsIn K cStatics "thirdparty.any" = some none
  fsf : (f == ("self" : Str)) = false
  fdb : (f == ("__debug__" : Str)) = false
  cl : ∃ cd, PySem.W.clsIn K Ca = some cd
  fn : ∃ (qual : Str) (params : Arguments) (body : List Stmt) (scope : Scope) (dV kV doc pm ct oc : Value) (an od : Option Addr) (osl : Array (Option Value)) (cda cc : Addr) (ar : Arg) (vs : Array Value) (file : Str) (tf : Tok) (ccl cl : Value) (cdd cld : Option Addr) (ccs csl : Array (Option Value)),
    K.lookup fI = some ⟨oc, od, .func (PySem.W.ksFn "__init__" qual params body scope dV kV doc pm an (.ref cda) ct cc), osl⟩ ∧ xiBody f body = true ∧ PySem.W.codeIn K (.ref cda) qual = true ∧
    (params.posonlyargs ++ params.args).head? = some ar ∧ ar.arg = "self" ∧ (∀ (e u : Value), bindArgs (PySem.W.ksFn "__init__" qual params body scope dV kV doc pm an (.ref cda) ct cc) ⟨[e, u], []⟩ = (pure [(("self" : Str), e), (f, u)] : Sem (List (Str × Value)))) ∧
    K.lookup cda = some ⟨ccl, cdd, .fields vs, ccs⟩ ∧ vs[2]? = some (.str file tf) ∧ ((P.main.file : Str) == file) = true ∧ K.lookup cc = some ⟨cl, cld, .cell (some (.ref Ca)), csl⟩ ∧
    scope.kind = .function ∧ scope.isCoroutine = false ∧ scope.isGenerator = false ∧ (∀ x ∈ scope.names, x.2 ≠ .cell) ∧ scope.names.lookup ("super" : Str) = some .globalImplicit ∧ scope.names.lookup ("__class__" : Str) = some .free ∧
    scope.names.lookup ("self" : Str) = some .local ∧ scope.names.lookup f = some .local
  top : (P.main.scope.names.lookup ("super" : Str)).isSome = false
theorem xi_eval {env : Env} {o : Expr} {nm : Str} {p2 p3 : Pos} (h : (p2.endLine == p3.line) = true) : eval (.Call (.Attribute o nm p2) [] [] p3) env = (do
      let ov ← attributeBase o nm env (eval o env)
      standAt p2.atName
      let (f, first) ← holding [ov] (getMethod ov nm (do return (← importBound o env).getD true))
      callWith p3 f first (backTo p3 (starEach [] env)) []) := by
  show (do
    let ov ← attributeBase o nm env (eval o env)
    standAt p2.atName
    methodCall o nm p2 p3 env ov 0 [] []) = _
  unfold methodCall methodCallPos
  simp only [h, Bool.or_true, if_true]
  rfl
theorem ns_keep {h h' : Heap} {a : Addr} {m : Str → Option Value} (x : h.Ns a m) (k : ∀ o, h.get? a = some o → h'.get? a = some o) : h'.Ns a m := let ⟨o, es, ep, e, r⟩ := x; ⟨o, es, ep, k _ e, r⟩
section
variable {prog : Program} {w : World} {A : Around} {K : PySem.W.Frag} {s : Shared} {R : Result → Shared → Prop} {f : Str} {Ca fI e t0 : Addr} {B newId i : String} {bmB : List Value} {u : Value} {mg mb : Str → Option Value}
/-- the method-wrapper called: the args are laid anew -/
theorem xi_mw {E : Value → Shared → Prop} {q t0 : Addr} {Q : Value → Shared → Prop} (T : XIn K prog Ca f fI B newId i bmB) (X : K.In s.heap) (hq : s.heap.get? q = some (PySem.W.kxs_mw i e)) (he : s.heap.get? e = some (HandSPX.excO Ca t0))
    (h : ∀ h', (∀ b o, b ≠ e → s.heap.get? b = some o → h'.get? b = some o) → h'.get? e = some (HandSPX.excO Ca s.heap.objs.size) → Q .none { s with heap := h' }) :
    wpAny (model prog w) A (call (.ref q) []) Q E s := by
  obtain ⟨nm, N', qn, bs, bm, hdct, sn, sub, ab, col, dd, k0, k1, k2, k3, k5, hC, hT⟩ := PySem.W.excInit_of X T.init
  obtain ⟨hh, g, d, tk, os⟩ := s
  refine wpAny_call (codeAny_of_tree ?_)
  show wpAny _ A.in1 (callAny (.ref q) ⟨[], []⟩) _ _ _
  simp only [callAny]
  refine wpAny_bind (wpAny_load hq ?_)
  simp only [PySem.W.kxs_mw, show (Value.type "method-wrapper" == Value.type "method" || Value.type "method-wrapper" == Value.type "builtin_function_or_method" || Value.type "method-wrapper" == Value.type "method-wrapper") = true by decide, if_true]
  refine PySem.W.KFB.if_so (by decide) ?_
  refine wpAny_bind (PySem.W.check_bound_init T.FB.toExcCallFacts hC he rfl ?_)
  refine wpAny_bind (wpAny_pure (wpAny_pure ?_))
  refine ⟨plainId_quiet T.FB.init.plain _, codeAny_builtin T.FB.initEntry ?_⟩
  exact PySem.W.exc_init_tree (cls := .ref Ca) (t0 := t0) (dv := none) (c2 := .none) (c3 := .none) (b4 := .bool false) he (Nat.zero_le _) fun h' k1 k2 k3 => h h' k1 k2
/-- C.__init__(e, u) -/
theorem xi_init (T : XIn K prog Ca f fI B newId i bmB) (hroom : A.depth < recursionLimit) (X : K.In s.heap) (hlim : s.heap.NoLimit) (hG : s.heap.Ns mainGlobals mg) (hB : s.heap.Ns builtinsNs mb) (hbb : ∀ x : Str, x ≠ "__name__" → mb x = bootBuiltins x)
    (he : s.heap.get? e = some (HandSPX.excO Ca t0)) (heK : K.lookup e = none)
    (hR : ∀ h' t1 dx tk, (∀ b o, b ≠ e → s.heap.get? b = some o → h'.get? b = some o) → h'.get? e = some ({ cls := .ref Ca, dict := some dx, data := .fields #[.ref t1, .none, .none, .none, .bool false, .none] } : Obj) → s.heap.objs.size ≤ dx → dx ≠ e →
      h'.Ns1 dx (fun y => if y = f then some u else none) → R (.ok (.ret .none)) { s with heap := h', toks := tk }) :
    codeAny (model prog w) A (.call (.ref fI) ⟨[.ref e, u], []⟩) R s := by
  obtain ⟨qual, params, body, scope, dV, kV, doc, pm, ct, oc, an, od, osl, cda, cc, ar, vs, file, tf, ccl, cl, cdd, cld, ccs, csl, lk, hbody, hcd, hpar, harg, hbind, lcode, hvs, hfile, lcell, sk, sco, sgen, scell, ssup, scls, sself, sf⟩ := T.fn
  obtain ⟨cdC, hcl⟩ := T.cl
  unfold xiBody at hbody
  split at hbody
  · rename_i a p0 p1 b p2 p3 p4 c p5 d p6 e' p7 p8
    simp only [Bool.and_eq_true, beq_iff_eq] at hbody
    obtain ⟨⟨⟨⟨⟨rfl, rfl⟩, rfl⟩, rfl⟩, rfl⟩, hline⟩ := hbody
    have hline : (p2.endLine == p3.line) = true := beq_iff_eq.mpr hline
    refine PySem.ks_codeAny_call_defAt (fd := PySem.W.ksFn "__init__" qual params _ scope dV kV doc pm an (.ref cda) ct cc) (binds := [(("self" : Str), .ref e), (e', u)]) hroom (X _ _ lk) rfl hlim (PySem.W.codeRec_of X hcd) rfl (.of_eq (hbind _ _)) scell (fun x hx => ?_) (fun h₁ hns hk₁ => ?_) sco sgen sk
    · simp only [List.mem_cons, List.not_mem_nil, or_false] at hx
      rcases hx with rfl | rfl
      · exact sself
      · exact sf
    · obtain ⟨hp, g, dr, tk, os⟩ := s
      have X1 : K.In h₁ := fun b o z => hk₁ _ _ (X _ _ z)
      have he1 := hk₁ _ _ he
      have hself : ([(("self" : Str), Value.ref e), (e', u)] : List (Str × Value)).reverse.lookup (("self" : Str)) = some (Value.ref e) := by
        have z : (("self" : Str) == e') = false := by rw [BEq.comm]; exact T.fsf
        simp [List.lookup, z]
      obtain ⟨oD, hD1, hD2⟩ : ∃ oD, h₁.get? Ca = some oD ∧ oD.data = .cls cdC := by
        unfold PySem.W.clsIn at hcl
        split at hcl
        · rename_i c d cd' sl ho
          cases hcl
          exact ⟨_, X1 _ _ ho, rfl⟩
        · cases hcl
      have hint : interactive (PySem.W.ksEnv qual scope hp.objs.size fI (.ref cda) cc) = false := by
        unfold interactive
        show (scope.kind == ScopeKind.module && _) = false
        rw [sk]
        rfl
      refine PySem.ks_wpAt_execs_cons (PySem.ks_wpAt_Expr_any (PySem.ks_wpAt_MethodCall (PySem.ks_wpAt_super_base (f := fI) (cc := cda) (env := PySem.W.ksEnv qual scope hp.objs.size fI (.ref cda) cc) ssup scls (by decide) rfl (X1 _ _ lk) rfl hpar rfl (X1 _ _ lcode) rfl hvs hfile T.top ?_) (xi_eval hline)) (hi := hint))
      refine PySem.W.ks_loadName_global sk ssup (Calls.loadGlobal_builtin (env := PySem.W.ksEnv qual scope hp.objs.size fI (.ref cda) cc) (ns_keep hG (hk₁ _)) (PySem.W.mg_none_of X hG T.nos) (ns_keep hB (hk₁ _)) ((hbb _ (by decide +kernel)).trans (show bootBuiltins "super" = some (.type "super") from by first | rfl | decide +kernel)) ⟨rfl, ?_⟩)
      refine wpAny_loadName_free sk scls rfl ⟨_, X1 _ _ lcell, rfl⟩ ?_
      refine wpAny_loadName_local sk (by rw [harg]; exact sself) hns (by rw [harg]; exact hself) ?_
      refine PySem.ks_wpAny_isType_cls hD1 hD2 ⟨rfl, ?_⟩
      refine PySem.ks_wpAny_call_super hD1 hD2 he1 rfl (fun c z => nomatch z) (PySem.W.looks_mroIn X1 T.sub) (fun h₂ e2 k2 => ?_)
      have X2 : K.In h₂ := fun b o z => k2 _ _ (X1 _ _ z)
      have hI : PySem.W.Looks (model prog w) h₂ (isInstance (.ref e) (.type B)) true := PySem.W.Looks.andThen (fun A Q E s k q => wpAny_typeOf_ref (k _ _ (k2 _ _ he1)) q) (PySem.W.looks_subIn X2 T.hB)
      have hxC : e ≠ Ca := fun z => by
        rw [z, hD1] at he1
        cases he1
        cases hD2
      have hsup := T.sup
      unfold PySem.W.ks_superIn at hsup
      rw [hcl] at hsup
      refine PySem.W.kxs_getMethod T.KF e2 (PySem.W.looks_opaque X2 T.opq) (l₀ := cdC.mro) (fun A Q E s k q => wpAny_bind ((PySem.W.looks_clsIn X2 hcl) A _ E s k (wpAny_pure q))) rfl X2 hsup hI hxC (by decide) ?_
      have hx3 : (h₂.push (PySem.W.kxs_mw i e)).get? h₂.objs.size = some (PySem.W.kxs_mw i e) := Heap.get?_push_size _ rfl
      refine PySem.W.kxs_callWith (i := i) (x := e) rfl (evalArgs_empty ⟨hx3, ?_⟩)
      have k3 : ∀ b o, h₁.get? b = some o → (h₂.push (PySem.W.kxs_mw i e)).get? b = some o := fun b o z => Heap.get?_push_of_some _ (k2 _ _ z)
      refine xi_mw (t0 := t0) T (fun b o z => k3 _ _ (X1 _ _ z)) hx3 (k3 _ _ he1) fun h₄ k4 e4 => ?_
      have hns4 : h₄.Ns hp.objs.size (fun x => ([(("self" : Str), Value.ref e), (e', u)] : List (Str × Value)).reverse.lookup x) := ns_keep hns fun o z => by
        refine k4 _ _ (fun y => ?_) (k3 _ _ z)
        have y2 := Heap.lt_size he
        rw [← y] at y2
        exact Nat.lt_irrefl _ y2
      have X4 : K.In h₄ := fun b o z => k4 _ _ (fun y => by rw [y, heK] at z; cases z) (k3 _ _ (X1 _ _ z))
      have e1 : ([(("self" : Str), Value.ref e), (e', u)] : List (Str × Value)).reverse.lookup e' = some u := by simp [List.lookup]
      refine PySem.ks_wpAt_execs_cons (PySem.ks_wpAt_Assign_Attr ?_)
      refine PySem.wpAt_of_wpAny (wpAny_Name ?_ T.fdb)
      refine wpAny_loadName_local (env := PySem.W.ksEnv qual scope hp.objs.size fI (.ref cda) cc) (m := fun x => ([(("self" : Str), Value.ref e), (e', u)] : List (Str × Value)).reverse.lookup x) (v := u) sk sf hns4 e1 ?_
      refine wpAny_Name ?_ (by decide)
      refine wpAny_loadName_local (env := PySem.W.ksEnv qual scope hp.objs.size fI (.ref cda) cc) (m := fun x => ([(("self" : Str), Value.ref e), (e', u)] : List (Str × Value)).reverse.lookup x) (v := .ref e) sk sself hns4 hself ?_
      refine PySem.W.set_plain (od := none) X4 ⟨e4, rfl, rfl, trivial⟩ T.hs (xi_osa T.SF X4 e4 T.over T.ht T.hh fun h₅ tk5 dx k5 dn dne e5 n5 => ?_)
      refine PySem.wpAt_of_wpAny (wpAny_execs_nil ?_)
      have k04 : ∀ b o, b ≠ e → hp.get? b = some o → h₄.get? b = some o := fun b o n z => k4 _ _ n (k3 _ _ (hk₁ _ _ z))
      obtain ⟨oL, esL, epL, eL, _⟩ := hns4
      exact hR h₅ _ dx tk5 (fun b o n z => k5 _ _ n (k04 _ _ n z)) e5 (Nat.le_trans (Nat.le_of_lt (Heap.lt_size eL)) dn) dne n5
  · cases hbody
end
/-! ### C(e) -/
def tMkX (Ca : Addr) (f : Str) (te : TE) : L2.St → Hp → XK → Prop := fun σ H Q => te σ H fun y H1 => ∀ d, H1 d = none → Q (.ref Ca) (some d) (upd H1 d (.xd [(f, y)]))
section
variable {X : Cx} {f x : Str} {Ca fI : Addr} {B newId i : String} {bmB : List Value} {p pos : Pos} {e : Expr} {te : TE} {k : Nat}
def mkXQ (Ca : Addr) (f : Str) (Q : XK) : List V → Hp → Prop := fun vs H1 => match vs with
  | [y] => ∀ d, H1 d = none → Q (.ref Ca) (some d) (upd H1 d (.xd [(f, y)]))
  | _ => False
theorem pmk_xi (T : XIn X.K X.prog Ca f fI B newId i bmB) (hr : Room (k + 1) X.A) (hg : Gl X x) (hm : X.mg x = some (.ref Ca)) (he : PE X e te)
    (hdb : (x == ("__debug__" : Str)) = false := by decide) (hse : starEach [e] X.env = (false, eval e X.env) :: starEach [] X.env := by rfl) (hpl : (backTo pos (starEach [] X.env)).any (·.1) = false := by rfl) :
    PMk X (.Call (.Name x p) [e] [] pos) (tMkX Ca f te) := by
  intro pins s σ H Q I h
  refine wpAny_Call_Name_kw (ld_glob I hg hm ?_ hdb)
  refine PySem.W.callWith_K (h₀ := X.base) I.ok.mod.kin T.kC (thn ((pa_cons he pa_nil hse).run pos pins s σ H (mkXQ Ca f Q) I h) fun us s1 ⟨vs, H1, I1, r1, q1⟩ => ⟨I1.kIn, ?_⟩) hse hpl
  match vs, r1, q1 with
  | [y], .cons (b := u) ry rn, q1 =>
      cases rn
      have q1 : ∀ d, H1 d = none → Q (.ref Ca) (some d) (upd H1 d (.xd [(f, y)])) := q1
      show wpAny _ _ (call (.ref Ca) [u]) _ _ _
      obtain ⟨hp, g, dr, tk, os⟩ := s1
      obtain ⟨nm, N', qn, bs, bm, hdct, sn, sub, ab, col, dd, k0, k1, k2, k3, k5, hC, hT⟩ := PySem.W.excInit_of I1.kIn T.init
      have kk : ∀ b o, hp.get? b = some o → ((hp.push (PySem.W.kdv_tup [u])).push (HandSPX.excO Ca hp.objs.size)).get? b = some o := fun b o z => Heap.get?_push_of_some _ (Heap.get?_push_of_some _ z)
      have hget : ((hp.push (PySem.W.kdv_tup [u])).push (HandSPX.excO Ca hp.objs.size)).get? (hp.objs.size + 1) = some (HandSPX.excO Ca hp.objs.size) := by heap_get
      have fresh : hp.get? (hp.objs.size + 1) = none := by
        cases z : hp.get? (hp.objs.size + 1) with
        | none => rfl
        | some o => exact absurd (Heap.lt_size z) (Nat.not_lt.mpr (Nat.le_succ _))
      have heK : X.K.lookup (hp.objs.size + 1) = none := by
        cases z : X.K.lookup (hp.objs.size + 1) with
        | none => rfl
        | some o => rw [I1.kIn _ _ z] at fresh; cases fresh
      obtain ⟨mb, nsb, bb⟩ := I1.mod.blt
      have bk := I1.bk
      refine wpAny_call (HandSPX.call_own T.FB hT hC (PySem.W.looks_findIn I1.kIn T.hi) (fun self => PySem.W.bind_fn I1.kIn self T.ty) (by show 1 ≤ sizeLine; rw [sizeLine_eq]; omega) ?_)
      refine xi_init (t0 := hp.objs.size) T (hr.make Ca [u] []).depth (fun b o z => kk _ _ (I1.kIn _ _ z)) (I1.nolimit.keeps kk) (ns_keep (I1.mod.glob) fun o z => kk _ _ (bk _ _ z)) (ns_keep nsb fun o z => kk _ _ (bk _ _ z)) bb hget heK fun h' t1 dx tk' kp he' hdx dne hns => ⟨rfl, ?_⟩
      have hdx0 : hp.objs.size ≤ dx := by
        have z : hp.objs.size ≤ ((hp.push (PySem.W.kdv_tup [u])).push (HandSPX.excO Ca hp.objs.size)).objs.size := by rw [Heap.size_push, Heap.size_push]; omega
        exact Nat.le_trans z hdx
      obtain ⟨G, g1, g2⟩ := restrict h' fun b => decide (b ≠ hp.objs.size + 1)
      have gk : ∀ b, b ≠ hp.objs.size + 1 → G.get? b = h'.get? b := fun b hb => g1 b (decide_eq_true hb)
      have ge : G.get? (hp.objs.size + 1) = none := g2 _ (by simp)
      have up : ∀ b o, hp.get? b = some o → G.get? b = some o := fun b o z => by
        have nb : b ≠ hp.objs.size + 1 := fun y => by rw [y, fresh] at z; cases z
        rw [gk b nb]
        exact kp b o nb (kk b o z)
      have nH1 : H1 (hp.objs.size + 1) = none := I1.hok.fresh (Nat.le_succ _)
      have J : Inv X pins σ (upd H1 dx (.xd [(f, y)])) ⟨G, g, dr, tk', os⟩ := I1.laid (t' := tk') up hdx0 ⟨_, hns.at fun o z => (gk _ dne).trans z, relO_put (fs := []) ry fun _ => True.intro⟩
      refine ⟨hp.objs.size + 1, _, _, ⟨G, g, dr, tk', os⟩, _, .ref Ca, some dx, rfl, J, fun b o z => ?_, ge, he', ⟨rfl, rfl⟩, rfl, rfl, ?_, rfl, I1.bare, raises_own T.exC T.tyC, q1 dx (I1.hok.fresh hdx0)⟩
      · have nb : b ≠ hp.objs.size + 1 := fun y => by rw [y, ge] at z; cases z
        rw [gk b nb] at z
        exact z
      · rw [upd_ne (Ne.symm dne)]
        exact nH1
end
/-! ### raise -/
def sRaise (c f : Str) (fa : M D) : S → Out := fun s => match fa s with
  | .ok d s' => .exc c [(f, d)] s'
  | .exc c fs s' => .exc c fs s'
  | .bad => .bad
section
variable {C : Ct} {W : WX} {X : Cx} {σ : L2.St} {H F : Hp} {s : S} {fa : M D} {e : Expr} {pos p rpos : Pos} {f x : Str} {fI : Addr} {B newId i : String} {bmB : List Value} {k : Nat}
theorem Rel.newXd (r : Rel C σ H F s) {d : Addr} (n : H d = none) (fs : List (Str × V)) : Rel C σ (upd H d (.xd fs)) F s :=
  r.ext ⟨fun a o e => by rw [upd_ne (ne_of_none e n)]; exact e, Sub.refl _, fun a o e => by rw [upd_ne (ne_of_none (r.sub _ _ e) n)]; exact r.sub _ _ e, fun _ _ => rfl⟩
theorem ds_raise (hK : C.K = X.K) (tk : Takes X W) (hc : X.calm = true) (T : XIn X.K X.prog (He.ga X.K x) f fI B newId i bmB) (hr : Room (k + 1) X.A) (hg : Gl X x) (hm : X.mg x = some (.ref (He.ga X.K x))) (ha : DE X C W e fa)
    (hdb : (x == ("__debug__" : Str)) = false := by decide) (hse : starEach [e] X.env = (false, eval e X.env) :: starEach [] X.env := by rfl) (hpl : (backTo pos (starEach [] X.env)).any (·.1) = false := by rfl) :
    DS X C W (.Raise (some (.Call (.Name x p) [e] [] pos)) none rpos) (sRaise x f fa) := by
  refine ps_imp (ps_raise hc tk (pmk_xi T hr hg hm ha hdb hse hpl)) fun E σ H ⟨F, s, r, q⟩ => ⟨F, s, r, ?_⟩
  unfold sRaise at q
  cases h : fa s with
  | ok d s' =>
    rw [h] at q
    intro H1 F1 r1 u1 y iy dx nd
    rw [← hK]
    exact q dx σ _ F1 (r1.newXd nd _) u1 ⟨_, upd_same, .cons iy .nil⟩
  | exc c fs s' =>
    rw [h] at q
    exact fun a H' F' r' u' x' => q a σ H' F' r' u' x'
  | bad => rw [h] at q; exact q.elim
end
end DL
set_option maxHeartbeats 4000000
/-! DL66: try: .. except (A, B, C) as n: .. -/
namespace DL
open PySem PySem.Spec PyProof.Rows L2
theorem flying_keeps {base h h' : Heap} {l : List Env} {e : Addr} {Z : Obj → Prop} (x : HandSPX.FlyingZ base l e Z h) (k : ∀ b o, h.get? b = some o → h'.get? b = some o) : HandSPX.FlyingZ base l e Z h' := by
  obtain ⟨k1, k2, k3, oe, vs, T, oT, ts, he, hz, hd, h1, hnT, hTe, hT, hdT, h3⟩ := x
  exact ⟨fun b o z => k _ _ (k1 b o z), k2, k3.of_keeps fun b o z _ => ⟨o, k _ _ z, rfl⟩, oe, vs, T, oT, ts, k _ _ he, hz, hd, h1, hnT, hTe, k _ _ hT, hdT, h3⟩
/-- what is wished of an exception of the body: it is one of the three -/
def wAs3 (K : PySem.W.Frag) (c1 c2 c3 : Value) (L i : Nat) (ts : Addr → Value → Option Addr → TS) (D : Ends) : WX := fun cls d σ H =>
  PySem.W.exmAny K cls [c1, c2, c3] = some true ∧ ∀ a, H a = none → σ.length = L → ts a cls d { nx := fun σ' H' => D.nx (σ'.set i none) H', rt := D.rt, bk := fun σ' H' => D.bk (σ'.set i none) H', ct := fun σ' H' => D.ct (σ'.set i none) H' } (σ.set i (some (.ref a))) H
section
variable {X : Cx} {x1 x2 x3 n : Str} {c1 c2 c3 : Value} {i : Nat} {body suite : List Stmt} {b₀ : Stmt} {np1 np2 np3 tpos pos pos' : Pos} {tb : WX → TS} {ts : Addr → Value → Option Addr → TS} {j : Nat}
theorem ps_try3 (hs : X.stack = X.env :: X.outer) (hf : X.env.frame = some X.env.locals) (hex : X.ex = []) (hN : X.N.Nodup) (hi : X.N[i]? = some n) (hln : X.env.kindOf n = some .local) (hc1 : Names X x1 c1) (hc2 : Names X x2 c2) (hc3 : Names X x3 c3)
    (hb : ∀ (W : WX) (pn : List (Addr × Obj)) (xe : Value → Shared → Prop), Takes (X.tr pn xe) W → PassesOwn (model X.prog X.w) X.A X.env xe → PSs (X.tr pn xe) body (tb W))
    (hsu : ∀ (a : Addr) (oe : Obj) (cls : Value) (d : Option Addr) (pn : List (Addr × Obj)), Zc cls d oe → (∃ vs, oe.data = .fields vs) → X.s_0.heap.get? a = none → (∀ q ∈ pn, q.1 ≠ a) → PSs (X.suite a ((a, oe) :: pn)) (b₀ :: suite) (ts a cls d)) :
    PS X (.Try body [.ExceptHandler (some (.Tuple [.Name x1 np1, .Name x2 np2, .Name x3 np3] j tpos)) (some n) (b₀ :: suite) pos'] [] [] pos) (fun D σ H => tb (wAs3 X.K c1 c2 c3 X.N.length i ts D) D σ H) := by
  refine ⟨fun pins s σ H D I h => ?_⟩
  have ok := I.ok
  have hfr : X.A.frames = some (X.env :: X.outer) := by rw [ok.frames, hs]
  have hloc : Loc X.env.scope n := .inl hln
  refine wpAny_Try_except ?_
  refine wpAny_mono ((hb (wAs3 X.K c1 c2 c3 X.N.length i ts D) (X.pn ++ pins) (fun e s₁ => wpAny (model X.prog X.w) X.A (noteFrame e X.env) (fun _ s₂ => wpAny (model X.prog X.w) X.A (setFlight e none) (fun _ s₃ =>
    wpAny (model X.prog X.w) X.A (handleBy e X.env [.ExceptHandler (some (.Tuple [.Name x1 np1, .Name x2 np2, .Name x3 np3] j tpos)) (some n) (b₀ :: suite) pos']) (SP X pins D) X.xe s₃) X.xe s₂) X.xe s₁) (fun u s' xx => ?_) PassesOwn.looking).run [] s σ H D (I.toTry _) h) (fun f s1 hsp => ?_) (fun e s1 he => he)
  · -- what the body let out
    obtain ⟨a, B, sI, pins', σ', H', cls, d, rfl, J', nb, up, sky, na, os, ag, hm, hyes⟩ := xx
    have J : Inv X pins σ' H' sI := J'.ofTry ok
    have sky' : Sky B (X.env :: X.outer) a (Zc cls d) X.env.locals s'.heap := by rw [← hs]; exact sky
    show wpAny (model X.prog X.w) X.A (noteFrame (.ref a) X.env) _ _ _
    refine Sky.land Zc.steady hfr hf sky' fun h3 fl3 up3 => ?_
    have J3 : Inv X pins σ' H' { s' with heap := h3 } := J.landed nb fl3.1 (up.trans up3) os ag
    obtain ⟨oe3, vs3, he3, hz3, hd3⟩ := fl3.there
    have notFr : ∀ {h : Heap} {o : Obj} {vs : Array Value}, h.FunFrames B (X.env :: X.outer) → h.get? a = some o → o.data = .fields vs → a ∉ frs (X.env :: X.outer) := fun {h o vs} ff e dd m => by
      obtain ⟨_, o', e', hnf⟩ := ff.mem m
      rw [e] at e'
      cases e'
      exact hnf _ dd
    have nfr := notFr fl3.2.2.1 he3 hd3
    have nL : a ≠ X.env.locals := fun z => nfr (List.mem_filterMap.mpr ⟨X.env, List.mem_cons_self, by rw [hf, z]⟩)
    have nF : a ∉ X.fs := fun m => by
      obtain ⟨e, he, q⟩ := List.mem_filterMap.mp m
      exact nfr (List.mem_filterMap.mpr ⟨e, List.mem_cons_of_mem _ he, q⟩)
    have S3 := J3.suite he3 hd3 na nL nF
    have nst : a ∉ frs X.stack := by rw [hs]; exact nfr
    have nB : B.get? a = none := fl3.2.1
    have n0 : X.s_0.heap.get? a = none := by
      cases z : X.s_0.heap.get? a with
      | none => rfl
      | some o =>
        obtain ⟨o', e'⟩ := J.base.there a o z (by rw [hex]; simp)
        rw [nb a o' e' nst] at nB
        cases nB
    have npn : ∀ q ∈ X.pn ++ pins, q.1 ≠ a := fun q hq z => by
      have e' := (J.pin q hq).1
      rw [z] at e'
      rw [nb a _ e' nst] at nB
      cases nB
    refine wpAny_handleBy_cons (codeAny_handlers_test ?_) (by intro q; cases q)
    have LT : PySem.W.Looks (model X.prog X.w) h3 (typeOf (.ref a)) cls := fun A Q E s k q => wpAny_typeOf_ref (k _ _ he3) (by rw [hz3.1]; exact q)
    have test : ∀ {x : Str} {c : Value} {np : Pos} {Q : Value → Shared → Prop} {E : Value → Shared → Prop}, Names X x c → Q c { s' with heap := h3 } → wpAny (model X.prog X.w) (X.A.mark (some (.ref a))) (eval (.Name x np) X.env) Q E { s' with heap := h3 } := fun {x c np Q E} hc q => by
      obtain ⟨hg, hdbg, hm | ⟨hm, hv, hnn⟩⟩ := hc
      · exact ld_glob (X := X.suite a ((a, oe3) :: (X.pn ++ pins))) S3 hg hm q hdbg
      · exact ld_blt (X := X.suite a ((a, oe3) :: (X.pn ++ pins))) S3 hg hm hv q hnn hdbg
    refine Tuple_ (spliced_more (test hc1 (spliced_more (test hc2 (spliced_more (test hc3 (spliced_none ?_)))))))
    refine wpAny_newObj_type ?_
    have k4 : ∀ b o, h3.get? b = some o → (h3.push { cls := .type "tuple", dict := none, data := .seq [c1, c2, c3].toArray }).get? b = some o := fun b o e => Heap.get?_push_of_some _ e
    refine (PySem.W.exm_tup3 (fun b o e => k4 _ _ (J3.kIn b o e)) (LT.keeps k4) (Heap.get?_push_size _ rfl) hm).here ?_
    have fl5 := flying_keeps fl3 k4
    refine codeAny_handlers_suite_as ?_
    refine HandSPX.lands_againZ fl5 fun h4 fl4 up4 => ?_
    have J4 : Inv X pins σ' H' { s' with heap := h4 } := J.landed nb fl4.1 (((up.trans up3).trans (Heap.UpToSlots.of_keeps k4)).trans up4) os ag
    obtain ⟨oe4, vs4, he4, hz4, hd4⟩ := fl4.there
    have S4 := J4.suite he4 hd4 na nL nF
    refine store_ok (X := X.suite a ((a, oe4) :: (X.pn ++ pins))) (v := .ref a) S4 hN hi hloc rfl (fun s5 S5 => ?_) (.inr hln)
    refine wpAny_mono ((hsu a oe4 cls d (X.pn ++ pins) hz4 ⟨_, hd4⟩ n0 npn).run [] s5 _ H' _ S5 (hyes a na J.len)) (fun f s6 hsp => ?_) (fun _ _ z => False.elim z)
    have end_ : ∀ {σ6 : L2.St} {H6 : Hp} {Q : Shared → Prop}, Inv (X.suite a ((a, oe4) :: (X.pn ++ pins))) [] σ6 H6 s6 → (∀ s7, Inv X pins (σ6.set i none) H6 s7 → Q s7) →
        wpAny (model X.prog X.w) X.A (do bindName X.env n .none; unbindBehindTheSuite X.env n pos') (fun _ s7 => Q s7) X.xe s6 := fun {σ6 H6 Q} S6 hq => gone_ok (S6.unsuite ok) hN hi hln hq
    cases f with
    | next =>
      obtain ⟨σ6, H6, S6, q6⟩ := hsp
      exact end_ S6 fun s7 J7 => ⟨_, _, J7, q6⟩
    | brk =>
      obtain ⟨σ6, H6, S6, q6⟩ := hsp
      exact end_ S6 fun s7 J7 => ⟨_, _, J7, q6⟩
    | cont =>
      obtain ⟨σ6, H6, S6, q6⟩ := hsp
      exact end_ S6 fun s7 J7 => ⟨_, _, J7, q6⟩
    | ret u =>
      obtain ⟨v6, σ6, H6, S6, r6, q6⟩ := hsp
      exact end_ S6 fun s7 J7 => ⟨_, _, _, J7, r6, q6⟩
  · cases f with
    | next =>
      obtain ⟨σ', H', J', q⟩ := hsp
      exact wpAny_execs_nil ⟨σ', H', J'.ofTry ok, q⟩
    | brk =>
      obtain ⟨σ', H', J', q⟩ := hsp
      exact ⟨σ', H', J'.ofTry ok, q⟩
    | cont =>
      obtain ⟨σ', H', J', q⟩ := hsp
      exact ⟨σ', H', J'.ofTry ok, q⟩
    | ret u =>
      obtain ⟨v, σ', H', J', r, q⟩ := hsp
      exact ⟨v, σ', H', J'.ofTry ok, r, q⟩
end
end DL
set_option maxHeartbeats 2000000
/-! DL67: caught exceptions: isinstance, fields. -/
namespace DL
open PySem PySem.Spec PyProof.Rows L2
structure IsE (K : PySem.W.Frag) (cs ns : List Str) (ts : List String) : Prop where
  ok : xsB K cs ns ts = true
def isET (cs ns : List Str) (ts : List String) : D → D → Option Bool
  | .exn c _, .glo n => if cs.contains c && ns.contains n then some (xsub c n) else none
  | .exn c _, .ty t => if cs.contains c && ts.contains t then some (xsubT c t) else none
  | _, _ => none
def isEC (cs ns : List Str) (ts : List String) : List D → Option D
  | [d, e] => (isET cs ns ts d e).map .bl
  | _ => none
/-- the exception at a, as it is known -/
def ExAt (K : PySem.W.Frag) (H : Hp) (a : Addr) (c : Str) : Prop := ∃ (o : Obj) (ws : Array Value), H a = some (exH a o) ∧ o.cls = .ref (He.ga K c) ∧ o.data = .fields ws ∧ (o.dict = none ∨ ∃ dx vs, o.dict = some dx ∧ H dx = some (.xd vs))
def rIsX (K : PySem.W.Frag) : List V → Hp → VK → Prop := fun xs H Q => ∃ (a : Addr) (c : Str) (v2 : V) (cv : Value) (b : Bool), xs = [.ref a, v2] ∧ ExAt K H a c ∧ xcB K c = true ∧ (∀ u, RelV v2 u → u = cv) ∧ PySem.W.kitOne K (.ref (He.ga K c)) cv = some b ∧ Q (.bl b) H
section
variable {X : Cx} {K : PySem.W.Frag} {c : Str}
theorem xc_is (h : xcB K c = true) {a : Addr} {o : Obj} {od : Option Obj} : PySem.W.KitX K (.ref a) (.ref (He.ga K c)) (fun hp => PySem.W.InstAt hp a o (He.ga K c) od) := by
  unfold xcB at h
  simp only [Bool.and_eq_true] at h
  obtain ⟨⟨⟨⟨⟨⟨⟨⟨⟨h1, h2⟩, h3⟩, h4⟩, h5⟩, h6⟩, h7⟩, h8⟩, h9⟩, _⟩ := h
  exact PySem.W.kitx_exc h1 (He.eqO_ok h2) (He.eqO_ok h3) (of_decide_eq_true h4) (He.eqO_ok h5) (He.eqO_ok h6) (of_decide_eq_true h7) (of_decide_eq_true h8)
theorem xc_f (h : xcB K c = true) : XfC K (He.ga K c) ∧ ∀ f, xFld.contains f = true → PySem.W.findIn K (.ref (He.ga K c)) f = some none := by
  unfold xcB at h
  simp only [Bool.and_eq_true] at h
  obtain ⟨⟨⟨⟨⟨⟨⟨⟨⟨h1, h2⟩, h3⟩, h4⟩, h5⟩, h6⟩, h7⟩, h8⟩, h9⟩, h10⟩ := h
  exact ⟨⟨He.eqO_ok h2, He.eqO_ok h3, of_decide_eq_true h4, h9⟩, fun f m => He.eqO_ok (List.all_eq_true.mp h10 f (by simpa using m))⟩
theorem exAt_inst {P : Program} {w : World} {H : Hp} {h : Heap} {a : Addr} (hok : HOk P w H h) (e : ExAt K H a c) : ∃ o od, PySem.W.InstAt h a o (He.ga K c) od := by
  obtain ⟨o, ws, h1, h2, h3, h4⟩ := e
  have x : ObjOk P w H h a (exH a o) := hok a _ h1
  have ho : h.get? a = some o := x.1
  have nc : PySem.W.notCls o = true := by
    unfold PySem.W.notCls
    rw [h3]
  rcases h4 with h4 | ⟨dx, vs, h4, h5⟩
  · exact ⟨o, none, ho, h2, nc, by rw [h4]; trivial⟩
  · have y : ObjOk P w H h dx (.xd vs) := hok dx _ h5
    obtain ⟨mA, ⟨od, es, ep, e1, _⟩, _⟩ := y
    exact ⟨o, some od, ho, h2, nc, by rw [h4]; exact e1⟩
theorem call_isX : CallR X (.builtin "isinstance") (rIsX X.K) := by
  intro pins s σ H xs us Q I r h
  obtain ⟨a, c, v2, cv, b, rfl, ea, hx, hcv, hk, q⟩ := h
  cases r with
  | cons rx rr =>
    cases rr with
    | cons rt rr =>
      cases rr
      cases rx
      have ec := hcv _ rt
      subst ec
      obtain ⟨o, od, J⟩ := exAt_inst I.hok ea
      exact PySem.W.kia_one (xc_is hx) I.kIn J hk (fun z => nomatch z) fun tk => ⟨.bl b, H, I.kept (t' := tk) fun _ _ z => z, rfl, q⟩
theorem exAt_of {F H : Hp} {v : V} {c : Str} {fs : List (Str × D)} (su : Sub F H) (i : Is K F v (.exn c fs)) : ∃ a, v = .ref a ∧ ExAt K H a c := by
  cases i with
  | exn h e1 e2 e3 h2 r => exact ⟨_, rfl, _, _, su _ _ h, e1, e3, .inr ⟨_, _, e2, su _ _ h2⟩⟩
  | exn0 h e1 e2 e3 => exact ⟨_, rfl, _, _, su _ _ h, e1, e3, .inl e2⟩
theorem c_isE {cs ns : List Str} {ts : List String} (hi : IsE X.K cs ns ts) : CalD X (.builtin "isinstance") (isEC cs ns ts) := by
  refine ⟨_, call_isX, ?_⟩
  intro H F vs ds d' su h hg Q q
  cases h with
  | nil => cases hg
  | cons h1 h2 =>
    cases h2 with
    | nil => cases hg
    | cons h3 h4 =>
      cases h4 with
      | cons _ _ => cases hg
      | nil =>
        rename_i v d v2 d2
        obtain ⟨k, hk, rfl⟩ := Option.map_eq_some_iff.mp (show (isET cs ns ts d d2).map D.bl = some d' from hg)
        have fin : ∀ {c : Str} {fs : List (Str × D)} {cv : Value}, d = .exn c fs → cs.contains c = true → (∀ u, RelV v2 u → u = cv) → PySem.W.kitOne X.K (.ref (He.ga X.K c)) cv = some k → rIsX X.K [v, v2] H Q := fun {c fs cv} e hc hu hk2 => by
          subst e
          obtain ⟨a, rfl, ea⟩ := exAt_of su h1
          have z := List.all_eq_true.mp hi.ok c (by simpa using hc)
          simp only [Bool.and_eq_true] at z
          exact ⟨a, c, v2, cv, k, rfl, ea, z.1.1, hu, hk2, q _ H F (Ext.refl su) (.bl k)⟩
        cases d with
        | exn c fs =>
          cases h3 with
          | glo n =>
            have hk : (if cs.contains c && ns.contains n then some (xsub c n) else none) = some k := hk
            by_cases z : (cs.contains c && ns.contains n) = true
            · rw [if_pos z, Option.some.injEq] at hk
              subst hk
              rw [Bool.and_eq_true] at z
              have y := List.all_eq_true.mp hi.ok c (by simpa using z.1)
              simp only [Bool.and_eq_true] at y
              exact fin rfl z.1 (fun u hu => hu) (of_decide_eq_true (List.all_eq_true.mp y.1.2 n (by simpa using z.2)))
            · rw [if_neg z] at hk; cases hk
          | ty t =>
            have hk : (if cs.contains c && ts.contains t then some (xsubT c t) else none) = some k := hk
            by_cases z : (cs.contains c && ts.contains t) = true
            · rw [if_pos z, Option.some.injEq] at hk
              subst hk
              rw [Bool.and_eq_true] at z
              have y := List.all_eq_true.mp hi.ok c (by simpa using z.1)
              simp only [Bool.and_eq_true] at y
              exact fin rfl z.1 (fun u hu => hu) (of_decide_eq_true (List.all_eq_true.mp y.2 t (by simpa using z.2)))
            · rw [if_neg z] at hk; cases hk
          | _ => cases hk
        | _ => cases hk
end
/-! ### e.f -/
def xfD (cs : List Str) (f : Str) : D → Option D
  | .exn c fs => if cs.contains c && xFld.contains f then fs.lookup f else none
  | _ => none
def eXf (cs : List Str) (f : Str) (fa : M D) : M D := mbind fa fun d => mopt (xfD cs f d)
section
variable {C : Ct} {W : WX} {X : Cx} {fa : M D} {e : Expr} {pos : Pos} {f : Str}
theorem d_exf {cs ns : List Str} {ts : List String} (hK : C.K = X.K) (hi : IsE X.K cs ns ts) (he : DE X C W e fa) (hb : attributeBase e f X.env (eval e X.env) = eval e X.env := by rfl) : DE X C W (.Attribute e f pos) (eXf cs f fa) := by
  refine ⟨fun pins s σ H Q I h => ?_⟩
  obtain ⟨F, s0, r0, q0⟩ := h
  refine attr_of hb (thn (he.run pins s σ H (fun v H1 => ∃ a c o dx ws vs w, v = .ref a ∧ xcB X.K c = true ∧ xFld.contains f = true ∧ H1 a = some (exH a o) ∧ o.cls = .ref (He.ga X.K c) ∧ o.dict = some dx ∧ o.data = .fields ws ∧ H1 dx = some (.xd vs) ∧ vs.lookup f = some w ∧ Q w H1) I ⟨F, s0, r0, (Post.bind q0).mono fun d s1 H1 F1 r1 u1 q1 v iv => ?_⟩) fun u s1 hh => ?_)
  · obtain ⟨w, hw, q2⟩ := post_mopt q1 r1
    have q2 := q2 H1 F1 (Ext.refl r1.sub)
    cases d with
    | exn c fs =>
      have hw : (if cs.contains c && xFld.contains f then fs.lookup f else none) = some w := hw
      by_cases z : (cs.contains c && xFld.contains f) = true
      · rw [if_pos z] at hw
        rw [Bool.and_eq_true] at z
        have y := List.all_eq_true.mp hi.ok c (by simpa using z.1)
        simp only [Bool.and_eq_true] at y
        cases iv with
        | exn h1 e1 e2 e3 h2 r =>
          obtain ⟨v', l, iv'⟩ := r.look hw
          exact ⟨_, c, _, _, _, _, v', rfl, y.1.1, z.2, r1.sub _ _ h1, by rw [← hK]; exact e1, e2, e3, r1.sub _ _ h2, l, q2 v' iv'⟩
        | exn0 h1 e1 e2 e3 => cases hw
      · rw [if_neg z] at hw; cases hw
    | _ => cases hw
  · obtain ⟨x, H1, I1, rx, a, c, o, dx, ws, vs, w, ex, hx, hf, h1, e1, e2, e3, h2, l, q⟩ := hh
    subst ex
    obtain rfl : u = Value.ref a := rx
    have ho : s1.heap.get? a = some o := (show ObjOk X.prog X.w H1 s1.heap a (exH a o) from I1.hok a _ h1).1
    have hd : ObjOk X.prog X.w H1 s1.heap dx (.xd vs) := I1.hok dx _ h2
    obtain ⟨mA, hns, hr⟩ := hd
    obtain ⟨od, hod, hl⟩ := lookIn_ns hns
    obtain ⟨u, hu, ru⟩ := RelO.some_of (v := w) (o := mA f) (by rw [← l]; exact hr f)
    obtain ⟨T, hno⟩ := xc_f hx
    have J : PySem.W.InstAt s1.heap a o (He.ga X.K c) (some od) := ⟨ho, e1, by unfold PySem.W.notCls; rw [e3], by rw [e2]; exact hod⟩
    exact HandSPX.exc_get I1.kIn J T.ga T.gg T.exC (PySem.W.findObj_own T.hdC (hno f hf) rfl (by rw [hl, hu])) (handed_of ru) ⟨w, H1, I1.tok _, ru, q⟩
end
end DL
set_option maxHeartbeats 2000000
/-! DL68: defs that are called while an exception is handled (and raise nothing there). -/
namespace DL
open PySem PySem.Spec PyProof.Rows L2 L2H
theorem hUn {k : Nat} {A : Around} (r : RoomH k A) : A.units + 64 < cLine := by have := r.un; omega
theorem hUn5 {k : Nat} {A : Around} (r : RoomH k A) : A.units + 65 < cLine := by have := r.un; omega
/-- the context of such a def's body -/
abbrev Bh (P : Program) (w : World) (K : PySem.W.Frag) (mg : Str → Option Value) (base : Heap) (N : List Str) (qual : Str) (scope : Scope) (f : Addr) (cdv : Value) (A : Around) (outer : List Env) (s : Shared) (H : Hp) (E : XK) : Cx :=
  { cxOf (L2.CX P w) P w K mg base N qual scope f cdv A outer s H E with calm := false }
structure FnT (gd : Bool) (P : Program) (w : World) (K : PySem.W.Frag) (mg : Str → Option Value) (base : Heap) (CX : CXT) (k : Nat) (f : Addr) (fd : FuncData) (ps : List Str) (sp : Sp) : Prop where
  len : ∀ vs H Q E, sp vs H Q E → vs.length = ps.length
  run : ∀ (A : Around) (outer : List Env) (s : Shared) (H : Hp) (args : Args) (us : List Value) (vs : List V) (Q : VK) (E : XK), (gd = true → A.guards = some []) → RoomH k A → Env0 P w K mg base A outer s H → BindsTo s fd args (ps.zip us) → Vals vs us → sp vs H Q E →
    codeAny (model P w) A (.call (.ref f) args) (CR CX outer P w H s Q E) s
theorem inv_startT {P : Program} {w : World} {K : PySem.W.Frag} {mg : Str → Option Value} {base : Heap} {N ps : List Str} {qual : Str} {scope : Scope} {f : Addr} {cd : Value} {A : Around} {outer : List Env} {s s1 : Shared} {H : Hp} {E : XK} {us : List Value} {vs : List V}
    (S : FnScope N ps scope) (e0 : Env0 P w K mg base A outer s H) (hl : vs.length = ps.length) (r : Vals vs us)
    (x : InCallC s s.heap.objs.size (bindL (envOfC qual scope s.heap.objs.size f cd).kindOf (ps.zip us) fun _ => none) (cellsFrom (s.heap.objs.size + 1) scope.names []) (bindC (envOfC qual scope s.heap.objs.size f cd).kindOf (ps.zip us) fun _ => none) s1) :
    Inv (Bh P w K mg base N qual scope f cd A outer s H E) [] (L2.start N vs) H s1 := by
  have hpl : ps.length ≤ N.length := by have := congrArg List.length S.pre; rw [List.length_take] at this; omega
  obtain ⟨h1, tk, rfl, hk⟩ := x.done
  have noA : ∀ b : Addr, b ∉ (Bh P w K mg base N qual scope f cd A outer s H E).ex := fun b z => absurd (show b ∈ ([] : List Addr) from z) (by simp)
  refine ⟨⟨e0.mod, S.kind, rfl, rfl, Nat.le_refl _, fun y z c h1 h2 => ?_, fun y hy => ?_, fun y c _ h => ?_, (fun z => Bool.noConfusion (show false = true from z)), Around.frames_deeper e0.frames, .inr ⟨rfl, rfl⟩, fun b z => absurd z (noA b), e0.bs, e0.bsz, fun b _ _ => noA b, fun b z => absurd z (noA b), e0.funs, e0.frf⟩,
    rfl, e0.bare, Un.kept hk, ⟨_, x.toInCall.ns, fun i y v h1 h2 h3 => ?_⟩, fun y c h => ⟨_, x.cell y c h⟩, e0.hok.fresh (Nat.le_refl _), fun y c h => ?_, fun q hq => absurd (show q ∈ ([] : List (Addr × Obj)) ++ [] from hq) (by simp), e0.hok.kept hk, ?_⟩
  · exact name_of_addr x.apart (PySem.mem_of_lookup h1) (PySem.mem_of_lookup h2)
  · have hy : scope.names.lookup y = some .cell ∨ scope.names.lookup y = some .free := hy
    rcases hy with hy | hy
    · exact cell_has hy
    · exact absurd rfl (S.nofree _ (PySem.mem_of_lookup hy))
  · exact Nat.le_of_lt (x.above y c (PySem.mem_of_lookup h))
  · have hi : i < vs.length := by
      unfold L2.start at h2
      by_cases hi : i < vs.length
      · exact hi
      · rw [List.getElem?_append_right (by simpa using hi)] at h2
        rw [List.getElem?_replicate] at h2
        split at h2 <;> cases h2
    have ha : vs[i]? = some v := by
      unfold L2.start at h2
      rw [List.getElem?_append_left (by simpa using hi), List.getElem?_map] at h2
      cases e : vs[i]? with
      | none => rw [e] at h2; cases h2
      | some a => rw [e] at h2; cases h2; rfl
    obtain ⟨u, hu, rv⟩ := r.get ha
    have hp : ps[i]? = some y := by
      rw [← S.pre, List.getElem?_take_of_lt (by omega)]; exact h1
    have ndP : ps.Nodup := by rw [← S.pre]; exact S.nd.sublist (List.take_sublist _ _)
    refine ⟨u, rv, ?_⟩
    rcases S.par y (List.mem_of_getElem? hp) with k | k
    · exact .inl ⟨k, bindL_get ndP hp hu k⟩
    · obtain ⟨c, e⟩ := cell_has (n := s.heap.objs.size + 1) k
      refine .inr ⟨.inl k, c, e, ?_⟩
      have q := x.cell y c e
      rw [bindC_get ndP hp hu (by show scope.names.lookup y ≠ _; rw [k]; decide)] at q
      exact q
  · exact e0.hok.fresh (Nat.le_of_lt (x.above y c (PySem.mem_of_lookup h)))
  · unfold L2.start
    show _ = N.length
    rw [List.length_append, List.length_map, List.length_replicate]
    omega
theorem FunD.t {P : Program} {w : World} {K : PySem.W.Frag} {mg : Str → Option Value} {base : Heap} {gd : Bool} {x qual : Str} {params : Arguments} {body : List Stmt} {scope : Scope} {dvs : List V} {kws : List (Str × V)} {f : Addr} {fd : FuncData} {N ps : List Str} {k : Nat} {g : S → Out} (F : FunD K x qual params body scope dvs kws f fd) (S : FnScope N ps scope)
    (hbody : ∀ (cdv : Value) (A : Around) (outer : List Env) (s : Shared) (H : Hp) (E : XK) (C : Ct), (gd = true → (A.deeper (envOfC qual scope s.heap.objs.size f cdv)).guards = some []) → RoomH k (A.deeper (envOfC qual scope s.heap.objs.size f cdv)) → C.K = K →
      Passes (L2.CX P w) (Bh P w K mg base N qual scope f cdv A outer s H E) E →
      DB (Bh P w K mg base N qual scope f cdv A outer s H E) C (wx E) body g) :
    FnT gd P w K mg base (L2.CX P w) (k + 1) f fd ps (spD K ps.length (bodyFn N.length g)) := by
  obtain ⟨oc, od, dV, kV, doc, pm, an, cdv, ct, osl, rfl, lk, hcd, _, _⟩ := F.ex
  refine ⟨fun vs H Q E ⟨F, A, as, io, e, hl, _⟩ => by rw [← e.len, hl], fun A outer s H args us vs Q E hgd hr e0 hb r ⟨F1, Al, as, io, e, hl, q⟩ => ?_⟩
  have hlv : vs.length = ps.length := by rw [← e.len, hl]
  have KX : K.In s.heap := e0.mod.kin.keeps fun b o e => (e0.bs b o e).1
  have lim : s.heap.NoLimit := e0.mod.nolimit.keeps fun b o e => (e0.bs b o e).1
  have hkind : ∀ y ∈ ps.zip us, scope.names.lookup y.1 = some .local ∨ (scope.names.lookup y.1 = some .cell ∧ ((cellsFrom (s.heap.objs.size + 1) scope.names []).lookup y.1).isSome = true) := fun ⟨n, v⟩ hy => by
    rcases S.par n (List.of_mem_zip hy).1 with q | q
    · exact .inl q
    · exact .inr ⟨q, PySem.W.cellsFrom_some _ _ _ (.inl q)⟩
  refine codeAny_call_function hr.depth (KX _ _ lk) rfl S.co S.gen rfl (PySem.W.codeRec_of KX hcd) (hb _ _ _ _ ?_)
  refine wpAny_newFunctionEnv_cells S.kind hkind fun env he s1 x => ?_
  subst he
  refine ⟨lim.keeps x.toInCall.keep, codeAny_func ?_⟩
  have ht := hbody cdv A outer s H E ⟨K, H, F1, Al⟩ hgd (hr.deeper _) rfl (passes_call (takes_of (X := Bh P w K mg base N qual scope f cdv A outer s H E) (E := E) rfl rfl rfl rfl) fun _ _ _ _ h => h)
  have I : Inv (Bh P w K mg base N qual scope f cdv A outer s H E) [] (L2.start N vs) H s1 := inv_startT S e0 hlv r x
  refine wpAny_mono (ht.run [] s1 (L2.start N vs) H { nx := fun _ H' => Q .non H', rt := Q } I ⟨F1, _, e.rel, ?_⟩) (fun fl s' hs => ?_) fun e s' hs => hs
  · unfold bodyFn at q
    cases h : g ⟨as ++ List.replicate (N.length - as.length) .no, io⟩ with
    | nx s' =>
      rw [h] at q
      exact fun σ' H' F' r u => q .non H' F' (r.after u) .non
    | rt rv s' =>
      rw [h] at q
      exact fun v σ' H' F' r u ret => q v H' F' (r.after u) (by cases rv <;> exact ret)
    | exc c fs s' =>
      rw [h] at q
      exact fun a σ' H' F' r u x => q a H' F' (r.after u) x
    | bk s' => rw [h] at q; exact q.elim
    | ct s' => rw [h] at q; exact q.elim
    | bad => rw [h] at q; exact q.elim
  · have fin : ∀ {σ' : L2.St} {H' : Hp} {v : V} {u : Value}, Inv (Bh P w K mg base N qual scope f cdv A outer s H E) [] σ' H' s' → L2.RelV v u → Q v H' → CE outer P w H s Q u s' :=
      fun {σ' H' v u} J rv q => ⟨v, H', J.os, J.bare, J.base, J.hok, rv, q⟩
    cases fl with
    | ret u =>
      obtain ⟨v, σ', H', J, rv, q⟩ := hs
      exact fin J rv q
    | next =>
      obtain ⟨σ', H', J, q⟩ := hs
      exact fin (v := V.non) (u := Value.none) J rfl q
    | brk =>
      obtain ⟨_, _, _, q⟩ := hs
      exact False.elim q
    | cont =>
      obtain ⟨_, _, _, q⟩ := hs
      exact False.elim q
structure CallT (gd : Bool) (P : Program) (w : World) (K : PySem.W.Frag) (mg : Str → Option Value) (base : Heap) (k : Nat) (x : Str) (np : Nat) (dds : List D) (r : Fn) : Prop where
  ex : ∃ (f : Addr) (fd : FuncData) (ps : List Str) (ds : List Value) (dvs : List V), mg x = some (.ref f) ∧ PySem.W.keepIn K (.ref f) = true ∧ Binds K fd ps ds ∧ Vals dvs ds ∧ (∀ F, IsAll K F dvs dds) ∧ ps.length = np ∧ FnT gd P w K mg base (L2.CX P w) k f fd ps (spD K np r)
section
variable {C : Ct} {W : WX} {X : Cx} {σ : L2.St} {H F H' F' : Hp} {s : S} {e : Expr} {es : List Expr} {fs : M (List AV)} {pos p : Pos}
theorem r_callT {gd : Bool} {k : Nat} {x : Str} {np : Nat} {dds : List D} {r : Fn} {E : XK} (hK : C.K = X.K) (F : CallT gd X.prog X.w X.K X.mg X.base k x np dds r) (hgd : gd = true → X.A.guards = some []) (hr : RoomH k X.A) (hg : Gl X x) (hx : Passes (L2.CX X.prog X.w) X E)
    (ha : DG X C (wx E) (e :: es) fs) (hdb : (x == ("__debug__" : Str)) = false := by decide) (he : starEach (e :: es) X.env = (false, eval e X.env) :: starEach es X.env := by rfl) (hpl : (backTo pos (starEach es X.env)).any (·.1) = false := by rfl) :
    DR X C (wx E) (.Call (.Name x p) (e :: es) [] pos) (mCall np r dds fs) := by
  obtain ⟨f, fd, ps, ds, dvs, hm, hk, hb, hd, hdd, hps, F⟩ := F.ex
  refine ⟨fun pins s σ H Q I h => ?_⟩
  obtain ⟨F0, s0, r0, q0⟩ := h
  refine wpAny_Call_Name_kw (ld_glob I hg hm ?_ hdb)
  refine PySem.W.callWith_K (h₀ := X.base) I.ok.mod.kin hk (thn (ha.run pos pins s σ H (fun vs H1 => spD X.K np r (vs ++ dvs) H1 Q E) I ⟨F0, s0, r0, (Post.bind q0).mono fun as s1 H1 F1 r1 u1 q1 vs hv => ?_⟩) fun us s1 ⟨vs, H1, I1, r, q⟩ => ⟨I1.kIn, ?_⟩) he hpl
  · rw [← hK]
    by_cases hl : as.length + dds.length = np
    · rw [if_pos hl] at q1
      exact run_sp (fun F => by rw [hK]; exact hdd F) r1 hv (by rw [List.length_append, hv.len, (hdd F1).len]; exact hl) q1
    · rw [if_neg hl] at q1
      exact q1.elim
  · have r2 : Vals (vs ++ dvs) (us ++ ds) := r.append hd
    have hl : (us ++ ds).length = ps.length := by rw [← r2.length]; exact F.len _ _ _ _ q
    refine wpAny_call (codeAny_mono (F.run X.A X.stack s1 H1 ⟨us, []⟩ (us ++ ds) (vs ++ dvs) Q E hgd hr I1.env0 (hb s1 us I1.kIn hl) r2 q) fun r s' hq => ?_)
    cases r with
    | error e => exact hx pins σ H1 s1 e s' I1 hq
    | ok fl =>
      cases fl with
      | ret u => exact I1.after hq
      | next => exact False.elim hq
      | brk => exact False.elim hq
      | cont => exact False.elim hq
end
end DL
set_option maxHeartbeats 2000000
/-! DL69: told(lambda: E): try: back = act() / except (A, B, C) as e: .. / return .. -/
namespace DL
open PySem PySem.Spec PyProof.Rows L2 L2H
theorem exH_own {a x : Addr} {o : Obj} : exH a o ≠ .own x := fun z => by unfold exH at z; cases z
theorem exH_tup {a : Addr} {o : Obj} {xs : List V} : exH a o ≠ .tup xs := fun z => by unfold exH at z; cases z
theorem exH_frz {a : Addr} {o p : Obj} {u : HO} : exH a o ≠ .frz p u := fun z => by unfold exH at z; cases z
theorem exH_tbl {a : Addr} {o : Obj} {ps : Array Value} : exH a o ≠ .tbl ps := fun z => by unfold exH at z; cases z
section
variable {X : Cx} {a : Addr} {oe : Obj} {pn : List (Addr × Obj)} {σ : L2.St} {H : Hp} {s : Shared} {ws : Array Value}
/-- the caught exception is told of in the heap -/
theorem _root_.L2.Inv.track (I : Inv (X.suite a ((a, oe) :: pn)) [] σ H s) (n0 : X.s_0.heap.get? a = none) (np : ∀ q ∈ pn, q.1 ≠ a) : Inv (X.suite a pn) [] σ (upd H a (exH a oe)) s := by
  have P0 := I.pin (a, oe) (by simp)
  obtain ⟨g, na, nL, nF, nc⟩ := P0
  have na : H a = none := na
  have ok := I.ok
  refine ⟨⟨ok.mod, ok.kind, ok.glob, ok.blt, ok.above, ok.inj, ok.has, ok.cab, ok.hd, ok.frames, ok.stk, ok.exf, ok.bs, ok.bsz, ok.noex, ok.exfs, ok.funs, ok.frf⟩, I.os, I.bare, ⟨I.base.keep, I.base.slot, fun b o e n hx => ?_, I.base.there, fun b xs e => ?_, fun b o u e => ?_, fun b ps e => ?_⟩, I.loc, I.cell, ?_, fun x c e => ?_, fun p hp => ?_, fun b u z => ?_, I.len⟩
  · have nb : b ≠ a := fun z => by
      rw [z] at e
      have e : X.s_0.heap.get? a = some o := e
      rw [n0] at e
      cases e
    rw [upd_ne nb]
    exact I.base.free b o e n hx
  · have q := I.base.tups b xs e
    rw [upd_ne (ne_of_none q na)]
    exact q
  · have q := I.base.frzs b o u e
    rw [upd_ne (ne_of_none q na)]
    exact q
  · obtain ⟨more, q⟩ := I.base.tbls b ps e
    exact ⟨more, by rw [upd_ne (ne_of_none q na)]; exact q⟩
  · rw [upd_ne (Ne.symm nL)]
    exact I.free
  · obtain ⟨v, o, e1, e2⟩ := I.cell x c e
    have nca : c ≠ a := fun z => by
      rw [z] at e1
      have g : s.heap.get? a = some oe := g
      rw [g] at e1
      cases e1
      exact nc _ e2
    rw [upd_ne nca]
    exact I.freeC x c e
  · have hp : p ∈ pn := by simpa using hp
    obtain ⟨k1, k2, k3, k4, k5⟩ := I.pin p (by simp [hp])
    exact ⟨k1, by rw [upd_ne (np p hp)]; exact k2, k3, k4, k5⟩
  · by_cases e : b = a
    · subst e
      rw [upd_same] at z
      cases z
      exact ⟨g, ⟨oe, g⟩, fun h1 h2 x k => k _ x⟩
    · rw [upd_ne e] at z
      exact (I.hok b u z).stay (fun c w' hc q => q) (fun c q => by rw [upd_ne (ne_of_none q na)]; exact q) fun c xs q => by rw [upd_ne (ne_of_none q na)]; exact q
/-- .. and no more -/
theorem _root_.L2.Inv.untrack (I : Inv (X.suite a pn) [] σ H s) (e : H a = some (exH a oe)) (hd : oe.data = .fields ws) (nL : a ≠ X.env.locals) (nF : a ∉ X.fs) : Inv (X.suite a ((a, oe) :: pn)) [] σ (del H a) s := by
  have ok := I.ok
  have g : s.heap.get? a = some oe := (show ObjOk X.prog X.w H s.heap a (exH a oe) from I.hok a _ e).1
  have nn : ∀ b, H b = none → del H a b = none := fun b n => by
    unfold del
    split
    · rfl
    · exact n
  have ne : ∀ {b u}, H b = some u → exH a oe ≠ u → b ≠ a := fun {b u} z h y => by
    rw [y, e] at z
    exact h (Option.some.inj z)
  refine ⟨⟨ok.mod, ok.kind, ok.glob, ok.blt, ok.above, ok.inj, ok.has, ok.cab, ok.hd, ok.frames, ok.stk, ok.exf, ok.bs, ok.bsz, ok.noex, ok.exfs, ok.funs, ok.frf⟩, I.os, I.bare, ⟨I.base.keep, I.base.slot, fun b o e n hx => nn _ (I.base.free b o e n hx), I.base.there, fun b xs e => ?_, fun b o u e => ?_, fun b ps e => ?_⟩, I.loc, I.cell, nn _ I.free, fun x c e => nn _ (I.freeC x c e), fun p hp => ?_, fun b u z => ?_, I.len⟩
  · have q := I.base.tups b xs e
    rw [del_ne (ne q exH_tup)]
    exact q
  · have q := I.base.frzs b o u e
    rw [del_ne (ne q exH_frz)]
    exact q
  · obtain ⟨more, q⟩ := I.base.tbls b ps e
    exact ⟨more, by rw [del_ne (ne q exH_tbl)]; exact q⟩
  · have hp : p = (a, oe) ∨ p ∈ pn := by simpa using hp
    rcases hp with rfl | hp
    · exact ⟨g, del_same, nL, nF, fun v z => by rw [show ((a, oe) : Addr × Obj).2.data = _ from hd] at z; cases z⟩
    · obtain ⟨k1, k2, k3, k4, k5⟩ := I.pin p (by simp [hp])
      exact ⟨k1, nn _ k2, k3, k4, k5⟩
  · have nb : b ≠ a := fun y => by rw [y, del_same] at z; cases z
    rw [del_ne nb] at z
    exact (I.hok b u z).stay (fun c w' hc q => q) (fun c q => by rw [del_ne (ne q exH_own)]; exact q) fun c xs q => by rw [del_ne (ne q exH_tup)]; exact q
end
/-! ### what holds no caught exception -/
mutual
def D.xf : D → Bool
  | .tup xs => D.xfs xs
  | .lst xs => D.xfs xs
  | .ins _ fs => D.xff fs
  | .tdc kvs => D.xft kvs
  | .dic kvs => D.xfk kvs
  | .exn _ _ => false
  | _ => true
def D.xfs : List D → Bool
  | [] => true
  | x :: xs => D.xf x && D.xfs xs
def D.xff : List (Str × D) → Bool
  | [] => true
  | (_, x) :: xs => D.xf x && D.xff xs
def D.xft : List (List Int × D) → Bool
  | [] => true
  | (_, x) :: xs => D.xf x && D.xft xs
def D.xfk : List (D × D) → Bool
  | [] => true
  | (_, x) :: xs => D.xf x && D.xfk xs
end
def Cell.xf : Cell → Bool
  | .lst ds => D.xfs ds
  | .ins _ fs => D.xff fs
  | .tdc kvs => D.xft kvs
  | .dic kvs => D.xfk kvs
def rvX : RV → Bool
  | .val d => d.xf
  | .own c => c.xf
/-- what of F is no exception's stands in G -/
def StripX (F G : Hp) : Prop := ∀ b o, F b = some o → ((∃ xs, o = .lst xs) ∨ (∃ xs, o = .tup xs) ∨ (∃ p u, o = .frz p u) ∨ (∃ C d fs, o = .ins C d fs) ∨ (∃ ks, o = .dK ks) ∨ ∃ ep xs, o = tdO b ep xs) → G b = some o
section
variable {K : PySem.W.Frag} {F G : Hp}
theorem StripX.rl (S : StripX F G) {a : Addr} {xs : List V} (h : Rd F a (.lst xs)) : Rd G a (.lst xs) := by
  rcases h with h | ⟨o, h⟩
  · exact .inl (S _ _ h (.inl ⟨_, rfl⟩))
  · exact .inr ⟨o, S _ _ h (.inr (.inr (.inl ⟨_, _, rfl⟩)))⟩
theorem StripX.rt (S : StripX F G) {a : Addr} {xs : List V} (h : SqT K F a xs) : SqT K G a xs := by
  rcases h with h | h
  · rcases h with h | ⟨o, h⟩
    · exact .inl (.inl (S _ _ h (.inr (.inl ⟨_, rfl⟩))))
    · exact .inl (.inr ⟨o, S _ _ h (.inr (.inr (.inl ⟨_, _, rfl⟩)))⟩)
  · exact .inr h
mutual
theorem xf_is (S : StripX F G) : ∀ (d : D) {v : V}, d.xf = true → Is K F v d → Is K G v d
  | .exn _ _, _, l, _ => by simp [D.xf] at l
  | .non, _, _, .non => .non
  | .bl b, _, _, .bl _ => .bl b
  | .int i, _, _, .int _ => .int i
  | .str x, _, _, .str _ => .str x
  | .ty n, _, _, .ty _ => .ty n
  | .glo x, _, _, .glo _ => .glo x
  | .tup ds, _, l, .tup h r => .tup (S.rt h) (xf_all S ds (by simpa only [D.xf] using l) r)
  | .lst ds, _, l, .lst h r => .lst (S.rl h) (xf_all S ds (by simpa only [D.xf] using l) r)
  | .ins c fs, _, l, .ins h r => .ins (S _ _ h (.inr (.inr (.inr (.inl ⟨_, _, _, rfl⟩))))) (xf_fs S fs (by simpa only [D.xf] using l) r)
  | .dic kvs, _, l, .dic h r => .dic (S _ _ h (.inr (.inr (.inr (.inr (.inl ⟨_, rfl⟩)))))) (xf_kv S kvs (by simpa only [D.xf] using l) r)
  | .tdc kvs, _, l, .tdc h r n m => .tdc (S _ _ h (.inr (.inr (.inr (.inr (.inr ⟨_, _, rfl⟩)))))) (xf_td S kvs (by simpa only [D.xf] using l) r) n m
termination_by d => sizeOf d
theorem xf_all (S : StripX F G) : ∀ (ds : List D) {vs : List V}, D.xfs ds = true → IsAll K F vs ds → IsAll K G vs ds
  | [], _, _, .nil => .nil
  | d :: ds, _, l, .cons h r => by
    simp only [D.xfs, Bool.and_eq_true] at l
    exact .cons (xf_is S d l.1 h) (xf_all S ds l.2 r)
termination_by ds => sizeOf ds
theorem xf_fs (S : StripX F G) : ∀ (ds : List (Str × D)) {vs : List (Str × V)}, D.xff ds = true → IsFs K F vs ds → IsFs K G vs ds
  | [], _, _, .nil => .nil
  | (_, d) :: ds, _, l, .cons h r => by
    simp only [D.xff, Bool.and_eq_true] at l
    exact .cons (xf_is S d l.1 h) (xf_fs S ds l.2 r)
termination_by ds => sizeOf ds
theorem xf_td (S : StripX F G) : ∀ (ds : List (List Int × D)) {vs : List Te}, D.xft ds = true → IsTd K F vs ds → IsTd K G vs ds
  | [], _, _, .nil => .nil
  | (_, d) :: ds, _, l, .cons b h q r => by
    simp only [D.xft, Bool.and_eq_true] at l
    exact .cons (S.rt b) (xf_is S d l.1 h) q (xf_td S ds l.2 r)
termination_by ds => sizeOf ds
theorem xf_kv (S : StripX F G) : ∀ (ds : List (D × D)) {vs : List (Key × V)}, D.xfk ds = true → IsKv K F vs ds → IsKv K G vs ds
  | [], _, _, .nil => .nil
  | (_, d) :: ds, _, l, .int h r => by
    simp only [D.xfk, Bool.and_eq_true] at l
    exact .int (xf_is S d l.1 h) (xf_kv S ds l.2 r)
  | (_, d) :: ds, _, l, .str h r => by
    simp only [D.xfk, Bool.and_eq_true] at l
    exact .str (xf_is S d l.1 h) (xf_kv S ds l.2 r)
termination_by ds => sizeOf ds
end
/-- .. of an own thing whose object stands -/
theorem xf_cell (S : StripX F G) {H H' : Hp} {a : Addr} {c : Cell} (l : c.xf = true) (h : CellAt K F H a c) (e : ∀ o, H a = some o → H' a = some o) : CellAt K G H' a c := by
  cases c with
  | lst ds => obtain ⟨xs, h1, h2⟩ := h; exact ⟨xs, e _ h1, xf_all S ds l h2⟩
  | ins c fs => obtain ⟨dx, vs, h1, h2⟩ := h; exact ⟨dx, vs, e _ h1, xf_fs S fs l h2⟩
  | dic kvs => obtain ⟨ks, h1, h2⟩ := h; exact ⟨ks, e _ h1, xf_kv S kvs l h2⟩
  | tdc kvs => obtain ⟨ep, ks, h1, h2, h3⟩ := h; exact ⟨ep, ks, e _ h1, xf_td S kvs l h2, h3⟩
end
theorem exH_codeO {a : Addr} {o : Obj} {q : Str} : LamX.CodeO a q ≠ exH a o := fun z => by
  unfold LamX.CodeO exH at z
  obtain ⟨h, hs⟩ := heap_size a
  have g : ∀ t : Nat, (h.push { cls := .none, data := .fields #[.none, .str q t] }).get? a = some { cls := .none, data := .fields #[.none, .str q t] } := fun t => by rw [← hs]; exact Heap.get?_push_size h rfl
  have y : ∀ t : Nat, o = { cls := .none, data := .fields #[.none, .str q t] } := fun t => by
    have e := congrFun (HO.ext.inj z) (h.push { cls := .none, data := .fields #[.none, .str q t] })
    have x := e.mp ⟨_, _, t, g t, rfl, rfl⟩
    have x : (h.push { cls := .none, data := .fields #[.none, .str q t] }).get? a = some o := x
    rw [g t] at x
    exact (Option.some.inj x).symm
  have w := (y 0).symm.trans (y 1)
  simp at w
theorem exH_tdO {a : Addr} {o : Obj} {ws : Array Value} (hd : o.data = .fields ws) {ep : Nat} {xs : List Te} : tdO a ep xs ≠ exH a o := fun z => by
  unfold tdO exH at z
  obtain ⟨h, hs⟩ := heap_size a
  have nf : o.isFreed = false := Obj.isFreed_of_fields hd
  have g : (h.push o).get? a = some o := by rw [← hs]; exact Heap.get?_push_size h nf
  have e := congrFun (HO.ext.inj z) (h.push o)
  obtain ⟨_, o', e1, _, e2⟩ := e.mpr g
  rw [g] at e1
  cases e1
  rw [hd] at e2
  cases e2
end DL
set_option maxHeartbeats 2000000
/-! DL70: told(lambda: E): the def that tries. -/
namespace DL
open PySem PySem.Spec PyProof.Rows L2 L2H LamX
def slotsT (n i : Nat) (d : D) : S := ⟨(List.replicate n .no).set i (.val d), []⟩
/-- what is wanted of a value that came back; of an exception -/
def QRx (K : PySem.W.Frag) (n i : Nat) (gR : S → Out) (Q : VK) : VK := fun v H1 => ∃ (F1 : Hp) (d : D) (rv : RV) (s' : S), Sub F1 H1 ∧ TabsF K F1 H1 ∧ (∀ p ∈ tbOf K, F1 p.1 = none) ∧ Is K F1 v d ∧ gR (slotsT n i d) = .rt rv s' ∧ ∀ v' H' F', After K F1 H1 [] [] H' F' → RetAt K H1 F' H' v' rv → Q v' H'
def ESx (K : PySem.W.Frag) (cs : List Str) (n j : Nat) (gS : S → Out) (Q : VK) : XK := fun cls d H1 => ∃ (F1 : Hp) (c : Str) (fs : List (Str × D)) (dd : Addr) (vs : List (Str × V)) (rv : RV) (s' : S), cls = .ref (He.ga K c) ∧ cs.contains c = true ∧ d = some dd ∧ H1 dd = some (.xd vs) ∧ IsFs K F1 vs fs ∧
  Sub F1 H1 ∧ TabsF K F1 H1 ∧ (∀ p ∈ tbOf K, F1 p.1 = none) ∧ gS (slotsT n j (.exn c fs)) = .rt rv s' ∧ rvX rv = true ∧ ∀ v' H' F', After K F1 H1 [] [] H' F' → RetAt K H1 F' H' v' rv → Q v' H'
def TTx (K : PySem.W.Frag) (cs : List Str) (n i j : Nat) (gR gS : S → Out) : (XK → Hp → VK → Prop) → Hp → VK → Prop := fun tl H Q => tl (ESx K cs n j gS Q) H (QRx K n i gR Q)
section
variable {K : PySem.W.Frag}
/-- a def's own ground, from a heap on -/
theorem rel_at {F H : Hp} {σ : L2.St} {i : Nat} {v : V} {d : D} (su : Sub F H) (ht : TabsF K F H) (h0 : ∀ p ∈ tbOf K, F p.1 = none) (iv : Is K F v d) (hi : σ[i]? = some (some v)) : Rel ⟨K, H, F, []⟩ σ H F (slotsT σ.length i d) where
  sub := su
  keep := fun a o h _ => .inl h
  f0 := fun _ _ => rfl
  len := by unfold slotsT; rw [List.length_set, List.length_replicate]
  slot := fun k x h => by
    have h : ((List.replicate σ.length Sl.no).set i (.val d))[k]? = some x := h
    by_cases e : i = k
    · subst e
      have hl := (List.getElem?_eq_some_iff.mp hi).1
      rw [List.getElem?_set_self (by rw [List.length_replicate]; exact hl)] at h
      cases h
      exact ⟨v, hi, iv⟩
    · rw [List.getElem?_set_ne e] at h
      rw [replicate_get h]
      trivial
  iol := rfl
  io := fun j a c h _ => by cases h
  ap := fun k l a ⟨_, c, h⟩ _ => by
    have h : ((List.replicate σ.length Sl.no).set i (.val d))[k]? = some (.own c) := h
    by_cases e : i = k
    · subst e
      have hl := (List.getElem?_eq_some_iff.mp hi).1
      rw [List.getElem?_set_self (by rw [List.length_replicate]; exact hl)] at h
      cases h
    · rw [List.getElem?_set_ne e] at h
      cases replicate_get h
  inn := fun a h => by cases h
  nd := List.nodup_nil
  s0 := ⟨su, fun p hp => ⟨h0 p hp, by obtain ⟨ps, h, _⟩ := ht p hp; show H p.1 ≠ none; rw [h]; exact fun z => nomatch z⟩⟩
  tabs := ht
/-- what is caught is let go again -/
theorem after_del {F1 H1 F' H' : Hp} {a dd : Addr} {oe : Obj} {ws : Array Value} {vs : List (Str × V)} {σ : L2.St} {s : S} {v : V} {rv : RV} (na : H1 a = none) (hd : H1 dd = some (.xd vs)) (ho : oe.data = .fields ws) (su : Sub F1 H1)
    (r : Rel ⟨K, upd H1 a (exH a oe), upd (upd F1 dd (.xd vs)) a (exH a oe), []⟩ σ H' F' s) (u : Sub (upd (upd F1 dd (.xd vs)) a (exH a oe)) F') (ret : RetOk ⟨K, upd H1 a (exH a oe), upd (upd F1 dd (.xd vs)) a (exH a oe), []⟩ F' H' v rv) (hx : rvX rv = true) :
    ∃ F2, After K F1 H1 [] [] (del H' a) F2 ∧ RetAt K H1 F2 (del H' a) v rv := by
  have nad : dd ≠ a := fun z => by rw [z, na] at hd; cases hd
  have fa : F' a = some (exH a oe) := u _ _ upd_same
  have fd : F' dd = some (.xd vs) := u _ _ (by rw [upd_ne nad, upd_same])
  have ha : H' a = some (exH a oe) := r.sub _ _ fa
  have hdd : H' dd = some (.xd vs) := r.sub _ _ fd
  have d1 : ∀ o, F1 dd = some o → o = .xd vs := fun o e => by
    have z := su _ _ e
    rw [hd] at z
    exact (Option.some.inj z).symm
  obtain ⟨F2, hF2⟩ : ∃ F2 : Hp, F2 = fun b => if b = a then none else if b = dd then F1 dd else F' b := ⟨_, rfl⟩
  have f2a : F2 a = none := by rw [hF2]; exact if_pos rfl
  have f2d : F2 dd = F1 dd := by rw [hF2]; exact (if_neg nad).trans (if_pos rfl)
  have f2o : ∀ b, b ≠ a → b ≠ dd → F2 b = F' b := fun b h k => by rw [hF2]; exact (if_neg h).trans (if_neg k)
  have S : StripX F' F2 := fun b o e g => by
    have ne : b ≠ a := fun z => by
      subst z
      rw [fa] at e
      have e := Option.some.inj e
      rcases g with ⟨_, g⟩ | ⟨_, g⟩ | ⟨_, _, g⟩ | ⟨_, _, _, g⟩ | ⟨_, g⟩ | ⟨_, _, g⟩ <;> rw [g] at e <;> first | exact (exH_tdO ho) e.symm | (unfold exH at e; cases e)
    have nd : b ≠ dd := fun z => by
      subst z
      rw [fd] at e
      have e := Option.some.inj e
      rcases g with ⟨_, g⟩ | ⟨_, g⟩ | ⟨_, _, g⟩ | ⟨_, _, _, g⟩ | ⟨_, g⟩ | ⟨_, _, g⟩ <;> rw [g] at e <;> first | (cases e; done) | (unfold tdO at e; cases e)
    rw [f2o b ne nd]
    exact e
  have up : ∀ b, b ≠ a → ∀ o, H' b = some o → del H' a b = some o := fun b n o e => by rw [del_ne n]; exact e
  refine ⟨F2, ⟨fun b o e => ?_, fun b o e => ?_, fun b o e _ => ?_, fun b e => ?_, rfl, (fun j x c h _ => by cases h), ?_⟩, ?_⟩
  · have ne : b ≠ a := fun z => by rw [z, f2a] at e; cases e
    by_cases k : b = dd
    · subst k
      rw [f2d] at e
      rw [d1 o e]
      exact up _ ne _ hdd
    · rw [f2o b ne k] at e
      exact up _ ne _ (r.sub _ _ e)
  · have ne : b ≠ a := fun z => by
      have q := su _ _ e
      rw [z, na] at q
      cases q
    by_cases k : b = dd
    · subst k
      rw [f2d]
      exact e
    · rw [f2o b ne k]
      exact u _ _ (by rw [upd_ne ne, upd_ne k]; exact e)
  · have ne : b ≠ a := ne_of_none e na
    rw [del_ne ne]
    exact r.keep b o (by show upd H1 a _ b = _; rw [upd_ne ne]; exact e) (by simp)
  · have ne : b ≠ a := fun z => e (by rw [z]; exact na)
    by_cases k : b = dd
    · subst k
      exact f2d
    · rw [f2o b ne k, r.f0 b (by show upd H1 a _ b ≠ none; rw [upd_ne ne]; exact e)]
      show upd (upd F1 dd _) a _ b = F1 b
      rw [upd_ne ne, upd_ne k]
  · intro p hp
    obtain ⟨ps, h1, h2, h3⟩ := r.tabs p hp
    have ne : p.1 ≠ a := fun z => by
      rw [z, ha] at h1
      exact exH_tbl (Option.some.inj h1)
    refine ⟨ps, up _ ne _ h1, h2, fun pos cv hc => ?_⟩
    obtain ⟨c, e1, e2⟩ := h3 pos cv hc
    refine ⟨c, e1, ?_⟩
    rw [f2o c (fun z => ?_) fun z => ?_]
    · exact e2
    · rw [z, fa] at e2
      exact exH_codeO (Option.some.inj e2).symm
    · rw [z, fd] at e2
      have e2 := Option.some.inj e2
      unfold CodeO at e2
      cases e2
  · cases rv with
    | val d => exact xf_is S d hx ret
    | own c =>
      obtain ⟨b, rfl, e1, e2, e3⟩ := ret
      have e2 : upd H1 a (exH a oe) b = none := e2
      have ne : b ≠ a := fun z => by rw [z, upd_same] at e2; cases e2
      rw [upd_ne ne] at e2
      have nd : b ≠ dd := fun z => by rw [z, hd] at e2; cases e2
      exact ⟨b, rfl, by rw [f2o b ne nd]; exact e1, e2, xf_cell S hx e3 (up b ne)⟩
end
theorem _root_.L2.Inv.repin {X : Cx} {a : Addr} {pn1 pn2 pins1 pins2 : List (Addr × Obj)} {σ : L2.St} {H : Hp} {s : Shared} (I : Inv (X.suite a pn1) pins1 σ H s)
    (h : ∀ p ∈ pn2 ++ pins2, s.heap.get? p.1 = some p.2 ∧ H p.1 = none ∧ p.1 ≠ X.env.locals ∧ p.1 ∉ X.fs ∧ ∀ v, p.2.data ≠ .cell v) : Inv (X.suite a pn2) pins2 σ H s :=
  have ok := I.ok
  ⟨⟨ok.mod, ok.kind, ok.glob, ok.blt, ok.above, ok.inj, ok.has, ok.cab, ok.hd, ok.frames, ok.stk, ok.exf, ok.bs, ok.bsz, ok.noex, ok.exfs, ok.funs, ok.frf⟩, I.os, I.bare, I.base, I.loc, I.cell, I.free, I.freeC, h, I.hok, I.len⟩
/-! ### the def -/
section
variable {X : Cx} {Ng : List Str} {x a n back x1 x2 x3 q : Str} {sg : Scope} {g : Addr} {cdg : Value} {i j : Nat} {gR gS : S → Out} {b0 : Stmt} {suite rest : List Stmt} {cs : List Str} {pb p1 p2 p3 np1 np2 np3 tpos pos pos' : Pos} {jj : Nat}
abbrev tcx (X : Cx) (Ng : List Str) (x : Str) (sg : Scope) (g : Addr) (cdg : Value) (s : Shared) (H : Hp) : Cx := (cxOf C8.CX0 X.prog X.w X.K X.mg X.base Ng x sg g cdg X.A X.stack s H C8.E0).nox
/-- the suite's reading -/
def tsX (K : PySem.W.Frag) (gS : S → Out) (a : Addr) (cls : Value) (d : Option Addr) : TS := fun D σ H => ∀ (oe : Obj) (ws : Array Value), Zc cls d oe → oe.data = .fields ws →
  ∃ (F3 : Hp) (rv : RV) (s0 s' : S), Rel ⟨K, upd H a (exH a oe), F3, []⟩ σ (upd H a (exH a oe)) F3 s0 ∧ gS s0 = .rt rv s' ∧ F3 a = some (exH a oe) ∧
    ∀ v σ' H' F', Rel ⟨K, upd H a (exH a oe), F3, []⟩ σ' H' F' s' → Sub F3 F' → RetOk ⟨K, upd H a (exH a oe), F3, []⟩ F' H' v rv → D.rt v (del H' a)
theorem told3 (S0g : FnScope Ng [a] sg) (hi : Ng[i]? = some back) (hb : sg.names.lookup back = some .local) (hj : Ng[j]? = some n) (hn : sg.names.lookup n = some .local)
    (h1 : sg.names.lookup x1 = some .globalImplicit) (h2 : sg.names.lookup x2 = some .globalImplicit) (h3 : sg.names.lookup x3 = some .globalImplicit) (k1 : (x1 == ("__debug__" : Str)) = false) (k2 : (x2 == ("__debug__" : Str)) = false) (k3 : (x3 == ("__debug__" : Str)) = false)
    (m1 : X.mg x1 = some (.ref (He.ga X.K x1))) (m2 : X.mg x2 = some (.ref (He.ga X.K x2))) (m3 : X.mg x3 = some (.ref (He.ga X.K x3)))
    (hm : ∀ c, cs.contains c = true → PySem.W.exmAny X.K (.ref (He.ga X.K c)) [.ref (He.ga X.K x1), .ref (He.ga X.K x2), .ref (He.ga X.K x3)] = some true)
    (hS : ∀ (a : Addr) (pn : List (Addr × Obj)) (s : Shared) (H : Hp) (C : Ct), C.K = X.K → DB ((tcx X Ng x sg g cdg s H).suite a pn) C (wx C8.E0) (b0 :: suite) gS)
    (hR : ∀ (s : Shared) (H : Hp) (C : Ct), C.K = X.K → DB (tcx X Ng x sg g cdg s H) C (wx C8.E0) rest gR) :
    GivesTo X Ng x sg g cdg (.Try [.Assign [.Name back pb] (.Call (.Name a p1) [] [] p2) p3] [.ExceptHandler (some (.Tuple [.Name x1 np1, .Name x2 np2, .Name x3 np3] jj tpos)) (some n) (b0 :: suite) pos'] [] [] pos :: rest) a q (TTx X.K cs Ng.length i j gR gS) := by
  intro f c' s H Q tl act hc h
  refine ⟨_, pss_cons (u := fun D σ H => ∃ v, σ[i]? = some (some v) ∧ σ.length = Ng.length ∧ QRx X.K Ng.length i gR D.rt v H) (ps_try3 (X := tcx X Ng x sg g cdg s H) (i := j) (c1 := .ref (He.ga X.K x1)) (c2 := .ref (He.ga X.K x2)) (c3 := .ref (He.ga X.K x3))
      (tb := fun W D σ H => ∃ Ech : XK, (∀ cls d σ' H', Ech cls d H' → W cls d σ' H') ∧ σ[0]? = some (some (.ref f)) ∧ H c' = some (CodeO c' q) ∧ tl Ech H fun v H1 => D.nx (σ.set i (some v)) H1)
      (ts := tsX X.K gS) rfl rfl rfl S0g.nd hj hn ⟨h1, k1, .inl m1⟩ ⟨h2, k2, .inl m2⟩ ⟨h3, k3, .inl m3⟩ (fun W pn xe tk _ => ?_) (fun a oe cls d pn hz ⟨ws, hd⟩ n0 np => ?_)) ⟨fun pins s' σ H' D I h' => ?_⟩, ?_⟩
  · refine ⟨fun pins s' σ H' D I h' => ?_⟩
    obtain ⟨Ech, hW, z1, z2, z3⟩ := h'
    have hp := act W pn xe Ech p1 p2 tk hW
    exact (pss_one (ps_set (pos := p3) (pos' := pb) (i := i) S0g.nd hi (.inl hb) hp rfl (.inr hb))).run pins s' σ H' D I ⟨z1, z2, z3⟩
  · refine ⟨fun pins s' σ H' D I h' => ?_⟩
    have Pa := I.pin (a, oe) (by simp)
    have same : ∀ p ∈ pins, p.1 = a → p = (a, oe) := fun p hp e => by
      have z := (I.pin p (by simp [hp])).1
      obtain ⟨p1, p2⟩ := p
      have e : p1 = a := e
      subst e
      have z : s'.heap.get? p1 = some p2 := z
      have y : s'.heap.get? p1 = some oe := Pa.1
      rw [y] at z
      cases z
      rfl
    have J0 : Inv ((tcx X Ng x sg g cdg s H).suite a ((a, oe) :: (pn ++ pins.filter fun q => decide (q.1 ≠ a)))) [] σ H' s' := I.repin fun p hp => I.pin p (by
      simp only [List.append_nil, List.mem_cons, List.mem_append, List.mem_filter] at hp
      simp only [List.mem_append, List.mem_cons]
      rcases hp with hp | hp | hp
      · exact .inl (.inl hp)
      · exact .inl (.inr hp)
      · exact .inr hp.1)
    have J := J0.track n0 fun p hp => by
      rcases List.mem_append.mp hp with hp | hp
      · exact np p hp
      · exact of_decide_eq_true (List.mem_filter.mp hp).2
    obtain ⟨F3, rv, s0, s1, rel, hg, hfa, hfin⟩ := h' oe ws hz hd
    refine wpAny_mono ((hS a (pn ++ pins.filter fun q => decide (q.1 ≠ a)) s H ⟨X.K, upd H' a (exH a oe), F3, []⟩ rfl).run [] s' σ _ { nx := fun _ _ => False, rt := fun v H2 => H2 a = some (exH a oe) ∧ D.rt v (del H2 a), bk := fun _ _ => False, ct := fun _ _ => False } J ⟨F3, s0, rel, ?_⟩) (fun fl s6 hsp => ?_) fun _ _ z => z
    · rw [hg]
      exact fun v σ' H2 F' r u ret => ⟨r.sub _ _ (u _ _ hfa), hfin v σ' H2 F' r u ret⟩
    · cases fl with
      | next => obtain ⟨_, _, _, z⟩ := hsp; exact z.elim
      | brk => obtain ⟨_, _, _, z⟩ := hsp; exact z.elim
      | cont => obtain ⟨_, _, _, z⟩ := hsp; exact z.elim
      | ret u =>
        obtain ⟨v6, σ6, H6, J6, r6, e6, q6⟩ := hsp
        have J7 := J6.untrack e6 hd Pa.2.2.1 Pa.2.2.2.1
        refine ⟨v6, σ6, del H6 a, J7.repin fun p hp => J7.pin p ?_, r6, q6⟩
        simp only [List.append_nil, List.mem_cons, List.mem_append, List.mem_filter]
        simp only [List.mem_append, List.mem_cons] at hp
        have hp : p = (a, oe) ∨ p ∈ pn ∨ p ∈ pins := by simpa [or_assoc] using hp
        rcases hp with hp | hp | hp
        · exact .inl hp
        · exact .inr (.inl hp)
        · by_cases e : p.1 = a
          · exact .inl (same p hp e)
          · exact .inr (.inr ⟨hp, by simp [e]⟩)
  · obtain ⟨v, hv, hl, F1, d, rv, s1, su, ht, h0, iv, hg, hfin⟩ := h'
    refine (hR s H ⟨X.K, H', F1, []⟩ rfl).run pins s' σ H' D I ⟨F1, slotsT σ.length i d, rel_at su ht h0 iv hv, ?_⟩
    rw [hl, hg]
    intro v' σ' H2 F2 r u ret
    have af := r.after u
    have hio : s1.io = [] := List.length_eq_zero_iff.mp r.iol
    rw [hio] at af
    exact hfin v' H2 F2 af (by cases rv <;> exact ret)
  · have hiN := (List.getElem?_eq_some_iff.mp hi).1
    have hsl : (L2.start Ng [V.ref f]).length = Ng.length := by
      show (List.map some [V.ref f] ++ List.replicate (Ng.length - 1) none).length = Ng.length
      rw [List.length_append, List.length_map, List.length_replicate]
      show 1 + (Ng.length - 1) = Ng.length
      omega
    have hil : i < (L2.start Ng [V.ref f]).length := by rw [hsl]; exact hiN
    refine ⟨ESx X.K cs Ng.length j gS Q, fun cls d σ' H1 h' => ?_, rfl, hc, ?_⟩
    · obtain ⟨F1, c, fs, dd, vs, rv, s1, rfl, hcs, rfl, hdd, ifs, su, ht, h0, hg, hx, hfin⟩ := h'
      refine ⟨hm c hcs, fun a na hl oe ws hz hd => ?_⟩
      have nad : dd ≠ a := fun z => by rw [z, na] at hdd; cases hdd
      have hjl : j < σ'.length := by
        have hl : σ'.length = Ng.length := hl
        rw [hl]
        exact (List.getElem?_eq_some_iff.mp hj).1
      have uf : Sub F1 (upd (upd F1 dd (.xd vs)) a (exH a oe)) := fun b o e => by
        have q := su _ _ e
        have ne : b ≠ a := fun z => by rw [z, na] at q; cases q
        rw [upd_ne ne]
        by_cases k : b = dd
        · subst k
          rw [upd_same]
          rw [hdd] at q
          exact q
        · rw [upd_ne k]
          exact e
      have rel := rel_at (K := X.K) (F := upd (upd F1 dd (.xd vs)) a (exH a oe)) (H := upd H1 a (exH a oe)) (σ := σ'.set j (some (.ref a))) (i := j) (v := .ref a) (d := .exn c fs) (fun b o e => ?_) ((ht.up uf).upd fun ps z => by rw [na] at z; cases z) (fun p hp => ?_)
        (.exn upd_same hz.1 hz.2 hd (by rw [upd_ne nad, upd_same]) (ifs.up uf)) (by rw [List.getElem?_set_self hjl])
      · rw [List.length_set, show σ'.length = Ng.length from hl] at rel
        refine ⟨_, rv, slotsT Ng.length j (.exn c fs), s1, rel, hg, upd_same, fun v σ2 H2 F2 r u ret => ?_⟩
        obtain ⟨F4, af, ra⟩ := after_del na hdd hd su r u ret hx
        exact hfin v _ F4 af ra
      · by_cases z : b = a
        · subst z
          rw [upd_same] at e ⊢
          exact e
        · rw [upd_ne z] at e ⊢
          by_cases k : b = dd
          · subst k
            rw [upd_same] at e
            rw [hdd]
            exact e
          · rw [upd_ne k] at e
            exact su _ _ e
      · obtain ⟨ps, hp1, _⟩ := ht p hp
        have ne : p.1 ≠ a := fun z => by rw [z, na] at hp1; cases hp1
        have nd : p.1 ≠ dd := fun z => by rw [z, hdd] at hp1; cases hp1
        rw [upd_ne ne, upd_ne nd]
        exact h0 p hp
    · have e : (fun v H1 => ∃ v', ((L2.start Ng [V.ref f]).set i (some v))[i]? = some (some v') ∧ ((L2.start Ng [V.ref f]).set i (some v)).length = Ng.length ∧ QRx X.K Ng.length i gR Q v' H1) = QRx X.K Ng.length i gR Q := by
        funext v H1
        refine propext ⟨fun ⟨v', e1, _, q⟩ => ?_, fun q => ⟨v, List.getElem?_set_self hil, by rw [List.length_set]; exact hsl, q⟩⟩
        rw [List.getElem?_set_self hil] at e1
        cases e1
        exact q
      show tl _ H (fun v H1 => ∃ v', ((L2.start Ng [V.ref f]).set i (some v))[i]? = some (some v') ∧ ((L2.start Ng [V.ref f]).set i (some v)).length = Ng.length ∧ QRx X.K Ng.length i gR Q v' H1)
      rw [e]
      exact h
end
end DL
set_option maxHeartbeats 2000000
/-! DL71: told(lambda: E) as an expression. -/
namespace DL
open PySem PySem.Spec PyProof.Rows L2 L2H LamX
/-- a lambda was made: its code object stood in the table, or is new there -/
def StepL (H H1 : Hp) (P : Addr) (ps : Array Value) (c' : Addr) (q : Str) : Prop := H1 = H ∨ (H c' = none ∧ ∃ qs : Array Value, TriplesOk qs.toList ∧ (∀ pos cv, codeAmong pos qs.toList = some cv → codeAmong pos ps.toList = some cv ∨ cv = .ref c') ∧ H1 = upd (upd H P (.tbl qs)) c' (CodeO c' q))
section
variable {X : Cx} {pins : List (Addr × Obj)} {σ : L2.St} {H : Hp} {s : Shared}
theorem lam_make3 {c P : Addr} {params : Arguments} {body : Expr} {scope : Scope} {pos : Pos} {E : Value → Shared → Prop} {Q : Value → Shared → Prop} {ps : Array Value} (I : Inv X pins σ H s) (TB : TabB X.base X.mg c P) (hcode : X.env.code = .ref c)
    (hP : H P = some (.tbl ps)) (ht : TriplesOk ps.toList) (ha : ∀ pos cv, codeAmong pos ps.toList = some cv → ∃ c, cv = .ref c ∧ H c = some (CodeO c (X.env.qual ++ "<lambda>"))) (hdef : defaultsOf params X.env = ([], [])) (hfree : ∀ y ∈ scope.names, y.2 = .free → ∃ c, X.env.cells.lookup y.1 = some c)
    (h : ∀ (f c' : Addr) (pm ctv : Value) (H1 : Hp) (s' : Shared), StepL H H1 P ps c' (X.env.qual ++ "<lambda>") → Inv X pins σ H1 s' →
      s'.heap.get? f = some (PySem.W.kla_obj "<lambda>" (X.env.qual ++ "<lambda>") params body scope (cloFrom X.env.cells scope.names []) pm c' ctv) → H1 f = none → f ∉ frs X.stack → H1 c' = some (CodeO c' (X.env.qual ++ "<lambda>")) → Q (.ref f) s') :
    wpAny (model X.prog X.w) X.A (eval (.Lambda params body scope pos) X.env) Q E s := by
  refine PySem.W.kla_eval hdef ?_
  have bP : s.heap.BuiltinsAt X.mg P := TB.bm.keeps I.bk
  have hP' : s.heap.get? P = some { cls := .none, data := .fields ps } := I.hok P _ hP
  have nofr : ∀ f, s.heap.objs.size ≤ f → f ∉ frs X.stack := fun f hf z => by
    rcases List.mem_cons.mp (I.stkSub _ z) with e | e
    · have h1 := I.lt
      rw [← e] at h1
      exact Nat.lt_irrefl _ (Nat.lt_of_lt_of_le h1 hf)
    · exact I.nofs hf e
  cases hc : codeAmong pos ps.toList with
  | none =>
    refine PySem.W.kla_makeFunction (mg := X.mg) (c := c) (P := P) (ps := ps) (closure_ok hfree) I.ok.glob (I.mod.glob.keeps I.bk) hcode (TB.code.keeps I.bk) hP' ht hc TB.gP bP fun c' ctv h' tk hx hge hlt hrec htb => ?_
    obtain ⟨c2, oc, vs, t, e2, hoc, hd, hv⟩ := hrec
    cases e2
    have hsz : s.heap.objs.size ≤ h'.objs.size := Nat.le_trans hge (Nat.le_of_lt hlt)
    have nC : H c' = none := I.hok.fresh hge
    have I1 := inv_table (t' := tk) (more := #[rawInt pos.line, rawInt pos.col, .ref c']) (h' := h'.push (PySem.W.kla_obj "<lambda>" (X.env.qual ++ "<lambda>") params body scope (cloFrom X.env.cells scope.names []) ((X.mg "__name__").getD .none) c' ctv)) I hP
      (fun b o hb e => Heap.get?_push_of_some _ (hx b o hb e)) (Heap.get?_push_of_some _ htb) hge ⟨oc, vs, t, Heap.get?_push_of_some _ hoc, hd, hv⟩
    have eL : (ps ++ #[rawInt pos.line, rawInt pos.col, .ref c']).toList = ps.toList ++ [rawInt pos.line, rawInt pos.col, .ref c'] := by simp
    refine h h'.objs.size c' ((X.mg "__name__").getD .none) ctv _ _ (.inr ⟨nC, ps ++ #[rawInt pos.line, rawInt pos.col, .ref c'], by rw [eL]; exact PySem.TriplesOk_snoc _ _ _ _ ht, fun p' cv hcv => ?_, rfl⟩) I1 (Heap.get?_push_size _ rfl) ?_ (nofr _ hsz) upd_same
    · rw [eL] at hcv
      exact among_app _ ht hcv
    · have n1 : h'.objs.size ≠ c' := Nat.ne_of_gt hlt
      have n2 : h'.objs.size ≠ P := Nat.ne_of_gt (Nat.lt_of_lt_of_le (Heap.lt_size hP') hsz)
      rw [upd_ne n1, upd_ne n2]
      exact I.hok.fresh hsz
  | some cv =>
    obtain ⟨c', e, hco⟩ := ha pos cv hc
    subst e
    refine PySem.W.kla_makeFunctionHit (mg := X.mg) (c := c) (P := P) (ps := ps) (closure_ok hfree) I.ok.glob (I.mod.glob.keeps I.bk) hcode (TB.code.keeps I.bk) hP' ht hc bP fun ctv h' tk hx hsz => ?_
    have I1 : Inv X pins σ H { s with heap := h'.push (PySem.W.kla_obj "<lambda>" (X.env.qual ++ "<lambda>") params body scope (cloFrom X.env.cells scope.names []) ((X.mg "__name__").getD .none) c' ctv), toks := tk } := I.kept fun b o e => Heap.get?_push_of_some _ (hx b o e)
    exact h h'.objs.size c' ((X.mg "__name__").getD .none) ctv H _ (.inl rfl) I1 (Heap.get?_push_size _ rfl) (I.hok.fresh hsz) (nofr _ hsz) hco
end
/-- x(), in the def that got the lambda -/
theorem pe_act3 {X : Cx} {pins : List (Addr × Obj)} {σ : L2.St} {H : Hp} {s : Shared} {CXg : CXT} {Eg : XK} {Ng : List Str} {qg : Str} {sg : Scope} {g f c' : Addr} {cdg pm ctv : Value} {params : Arguments} {body : Expr} {scope : Scope} {k i : Nat} {a : Str} {pn : List (Addr × Obj)} {xe : Value → Shared → Prop} {W : WX} {E : XK} {tb : TE} {p1 p2 : Pos}
    (I : Inv X pins σ H s) (L : LamS X.env.scope scope) (hf : s.heap.get? f = some (PySem.W.kla_obj "<lambda>" (X.env.qual ++ "<lambda>") params body scope (cloFrom X.env.cells scope.names []) pm c' ctv)) (hfn : H f = none) (hfr : f ∉ frs X.stack)
    (hbind : bindArgs (PySem.W.kla_fn "<lambda>" (X.env.qual ++ "<lambda>") params body scope (cloFrom X.env.cells scope.names []) pm (.ref c') ctv) ⟨[], []⟩ = pure [])
    (tk : Takes ((cxOf CXg X.prog X.w X.K X.mg X.base Ng qg sg g cdg X.A X.stack s H Eg).tr pn xe) W) (hW : ∀ cls d σ' H', E cls d H' → W cls d σ' H') (hr : Room (k + 1) (X.A.deeper (envOfC qg sg s.heap.objs.size g cdg)))
    (hbody : ∀ (A : Around) (outer : List Env) (s : Shared) (H : Hp), A.guards = X.A.guards → Room k (A.deeper (lamEnv X scope s.heap.objs.size f c')) → PE (lamCx X A outer s H E scope f c') body tb)
    (hN : Ng[i]? = some a) (hv : Vis sg a) (hd : (a == ("__debug__" : Str)) = false := by decide) (hcd : (a == ("__classdict__" : Str)) = false := by decide) :
    PE ((cxOf CXg X.prog X.w X.K X.mg X.base Ng qg sg g cdg X.A X.stack s H Eg).tr pn xe) (.Call (.Name a p1) [] [] p2)
      (fun σZ HZ Q => σZ[i]? = some (some (.ref f)) ∧ HZ c' = some (CodeO c' (X.env.qual ++ "<lambda>")) ∧ tb σ HZ Q) := by
  refine ⟨fun pinsZ sZ σZ HZ Q IZ ⟨hs, hc, ht⟩ => ?_⟩
  refine wpAny_Call_Name_kw (thn ((pe_var (pos := p1) (i := i) hN hv hd hcd).run pinsZ sZ σZ HZ (fun v H1 => v = .ref f ∧ H1 = HZ) IZ ⟨.ref f, hs, rfl, rfl⟩) fun u s1 ⟨v, H1, I1, r1, ev, eH⟩ => ?_)
  subst ev
  rw [eH] at I1
  obtain rfl : u = Value.ref f := r1
  have of1 : s1.heap.get? f = some (PySem.W.kla_obj "<lambda>" (X.env.qual ++ "<lambda>") params body scope (cloFrom X.env.cells scope.names []) pm c' ctv) := I1.base.keep f _ hf hfn hfr (fun z => nomatch (show f ∈ ([] : List Addr) from z))
  refine PySem.W.callWith_F0 ⟨_, _, _, _, of1⟩ ?_
  have un : Un (frs X.stack) [] H HZ s.heap s1.heap := I1.base
  obtain ⟨⟨oc, vs, t, hoc, hdc, hvc⟩, _, _⟩ := I1.hok c' _ hc
  have rc : codeAny (model X.prog X.w) (X.A.deeper (envOfC qg sg s.heap.objs.size g cdg)) (.call (.ref f) ⟨[], []⟩) (CR (L2.CX X.prog X.w) (envOfC qg sg s.heap.objs.size g cdg :: X.stack) X.prog X.w HZ s1 Q E) s1 := by
    refine PySem.W.kla_callFunE hr.depth of1 rfl L.co L.gen rfl ⟨c', oc, vs, t, rfl, hoc, hdc, hvc⟩ ?_
    rw [hbind]
    refine wpAny_pure (wpAny_newFunctionEnv (fun y hy => (L.own y hy).2) (fun y hy => absurd hy (by simp)) (fun h₁ hns hsb => ⟨I1.nolimit.fresh _ hsb, ?_⟩) L.kind)
    show codeAny _ _ (.expr body (lamEnv X scope s1.heap.objs.size f c')) _ _
    have kp : ∀ b o, s1.heap.get? b = some o → h₁.get? b = some o := fun b o e => hsb.extBut b o (Nat.ne_of_lt (Heap.lt_size e)) (Heap.get?_push_of_some _ e)
    have J : Inv (lamCx X (X.A.deeper (envOfC qg sg s.heap.objs.size g cdg)) (envOfC qg sg s.heap.objs.size g cdg :: X.stack) s1 HZ E scope f c') [] σ HZ { s1 with heap := h₁, toks := s1.toks + ([] : List (Str × Value)).length } :=
      lam_start2 I L I1.env0 hr.hd un hns kp
    refine PySem.W.kla_codeExpr (wpAny_mono ((hbody (X.A.deeper (envOfC qg sg s.heap.objs.size g cdg)) (envOfC qg sg s.heap.objs.size g cdg :: X.stack) s1 HZ rfl (hr.deeper _)).run [] _ _ HZ Q J ht) (fun v s' hq => ?_) fun e s' hq => hq)
    obtain ⟨w', H', J', rv, q⟩ := hq
    exact ⟨w', H', J'.os, J'.bare, J'.base, J'.hok, rv, q⟩
  have hx : Passes (L2.CX X.prog X.w) ((cxOf CXg X.prog X.w X.K X.mg X.base Ng qg sg g cdg X.A X.stack s H Eg).tr pn xe) E := passes_call tk hW
  refine wpAny_call (codeAny_mono rc fun r s' hq => ?_)
  cases r with
  | error e => exact hx pinsZ σZ HZ s1 e s' I1 hq
  | ok fl =>
    cases fl with
    | ret u => exact I1.after hq
    | next => exact False.elim hq
    | brk => exact False.elim hq
    | cont => exact False.elim hq
def tLam3 (P : Addr) (q : Str) (TT : (XK → Hp → VK → Prop) → Hp → VK → Prop) (t : XK → TE) : TE := fun σ H Q => ∃ ps : Array Value, H P = some (.tbl ps) ∧ TriplesOk ps.toList ∧ (∀ pos cv, codeAmong pos ps.toList = some cv → ∃ c, cv = .ref c ∧ H c = some (CodeO c q)) ∧
  ∀ H1 c', StepL H H1 P ps c' q → H1 c' = some (CodeO c' q) → TT (fun E H' Q' => t E σ H' Q') H1 Q
section
variable {X : Cx}
theorem pe_lam3 {TT : (XK → Hp → VK → Prop) → Hp → VK → Prop} {x a : Str} {g c P : Addr} {k : Nat} {pg : Arguments} {bg : List Stmt} {sg : Scope} {dV kV doc pm cdv ct oc : Value} {an od : Option Addr} {osl : Array (Option Value)} {Ng : List Str}
    {params : Arguments} {body : Expr} {scope : Scope} {t : XK → TE} {p lpos pos : Pos} (hg : Gl X x) (hm : X.mg x = some (.ref g)) (hk : PySem.W.keepIn X.K (.ref g) = true)
    (lk : X.K.lookup g = some ⟨oc, od, .func (PySem.W.fnOf x x pg bg sg dV kV doc pm an cdv ct), osl⟩) (hcg : PySem.W.codeIn X.K cdv x = true) (hb : L2.Binds X.K (PySem.W.fnOf x x pg bg sg dV kV doc pm an cdv ct) [a] []) (Sg : FnScope Ng [a] sg) (hNg : Ng[0]? = some a) (hva : Vis sg a)
    (hG : GivesTo X Ng x sg g cdv bg a (X.env.qual ++ "<lambda>") TT)
    (TB : TabB X.base X.mg c P) (hcode : X.env.code = .ref c) (hr : Room (k + 2) X.A) (L : LamS X.env.scope scope) (hdef : defaultsOf params X.env = ([], []))
    (hbind : ∀ (q : Str) (cl : List (Str × Addr)) (pm cv ctv : Value), bindArgs (PySem.W.kla_fn "<lambda>" q params body scope cl pm cv ctv) ⟨[], []⟩ = pure [])
    (hbody : ∀ (A : Around) (outer : List Env) (s : Shared) (H : Hp) (E : XK) (f c' : Addr), A.guards = X.A.guards → Room k (A.deeper (lamEnv X scope s.heap.objs.size f c')) → PE (lamCx X A outer s H E scope f c') body (t E))
    (hdb : (x == ("__debug__" : Str)) = false := by decide) (hd : (a == ("__debug__" : Str)) = false := by decide) (hcd : (a == ("__classdict__" : Str)) = false := by decide) :
    PE X (.Call (.Name x p) [.Lambda params body scope lpos] [] pos) (tLam3 P (X.env.qual ++ "<lambda>") TT t) := by
  refine ⟨fun pins s σ H Q I h => ?_⟩
  obtain ⟨ps, hP, ht, ha, h⟩ := h
  refine wpAny_Call_Name_kw (ld_glob I hg hm ?_ hdb)
  refine PySem.W.callWith_K (h₀ := X.base) I.ok.mod.kin hk ?_ (by rfl) (by rfl)
  show wpAny _ _ (spliced ((false, eval (.Lambda params body scope lpos) X.env) :: backTo pos (starEach [] X.env))) _ _ s
  refine Calls.spliced_cons (lam_make3 I TB hcode hP ht ha hdef (L.has I.ok) fun f c' pm' ctv H1 s' st I1 hf hfn hfr hco => ?_)
  refine Calls.spliced_nil ⟨I1.kIn, ?_⟩
  have rc : codeAny (model X.prog X.w) X.A (.call (.ref g) ⟨[.ref f], []⟩) (CR C8.CX0 X.stack X.prog X.w H1 s' Q C8.E0) s' := by
    refine run_ofS (N := Ng) (ps := [a]) (us := [.ref f]) (vs := [.ref f]) lk hcg Sg hr I1.env0 (hb s' [.ref f] I1.kIn rfl) (.cons rfl .nil) rfl fun hr' => ?_
    obtain ⟨t', ht', hq'⟩ := hG f c' s' H1 Q (fun E H' Q' => t E σ H' Q') (fun W pn xe E p1 p2 tk hW => pe_act3 (i := 0) I1 L hf hfn hfr (hbind _ _ _ _ _) tk hW hr' (fun A outer s H hgd hr2 => hbody A outer s H E f c' hgd hr2) hNg hva hd hcd) hco (h H1 c' st hco)
    exact ⟨t', ht'.nox, hq'⟩
  refine wpAny_call (codeAny_mono rc fun r s2 hq => ?_)
  cases r with
  | error e => exact (show False from hq).elim
  | ok fl =>
    cases fl with
    | ret u => exact I1.after hq
    | next => exact False.elim hq
    | brk => exact False.elim hq
    | cont => exact False.elim hq
end
/-! ### told(lambda: E) -/
/-- n: how many names the def has that tries; i: the value's, j: the exception's; gR: what follows; gS: the suite -/
def toldM (cs : List Str) (n i j : Nat) (gR gS : S → Out) (fE : M D) : M RV := fun s => match fE s with
  | .ok d s' => (match gR (slotsT n i d) with
    | .rt rv _ => .ok rv s'
    | _ => .bad)
  | .exc c fs s' => if cs.contains c then (match gS (slotsT n j (.exn c fs)) with
    | .rt rv _ => if rvX rv then .ok rv s' else .bad
    | _ => .bad) else .bad
  | .bad => .bad
section
variable {C : Ct} {X : Cx} {σ : L2.St} {H F H' F' : Hp} {s : S}
/-- behind a call that was handed nothing to change -/
theorem Rel.after0 (r : Rel C σ H F s) (af : After C.K F H [] [] H' F') : Rel C σ H' F' s := (r.holes (A := []) (fun a m => by simp at m) af).done
theorem Rel.stepL {H1 : Hp} {P c' : Addr} {ps : Array Value} {q : Str} (r : Rel C σ H F s) (hq : (P, q) ∈ tbOf C.K) (hu : ∀ p ∈ tbOf C.K, p.1 = P → p.2 = q) (hP : H P = some (.tbl ps)) (st : StepL H H1 P ps c' q) : ∃ F1, Rel C σ H1 F1 s ∧ Sub F F1 := by
  rcases st with rfl | ⟨nc, qs, ok, hqs, rfl⟩
  · exact ⟨F, r, Sub.refl _⟩
  · have fP : F P = none := r.tf0 (P, q) hq
    have fc : F c' = none := r.newF nc
    have nPc : P ≠ c' := ne_of_none hP nc
    have uf : Sub F (upd F c' (CodeO c' q)) := fun b o e => by rw [upd_ne (ne_of_none e fc)]; exact e
    have at_ : ∀ b, b ≠ P → b ≠ c' → upd (upd H P (.tbl qs)) c' (CodeO c' q) b = H b := fun b h k => by rw [upd_ne k, upd_ne h]
    have oth : ∀ {b : Addr} {c : Cell}, CellAt C.K F H b c → CellAt C.K (upd F c' (CodeO c' q)) (upd (upd H P (.tbl qs)) c' (CodeO c' q)) b c := fun {b c} h => h.up uf fun o e => by
      rw [at_ b (fun z => h.nt ps (by rw [z]; exact hP)) (ne_of_none e nc)]
      exact e
    refine ⟨upd F c' (CodeO c' q), ⟨fun b o e => ?_, fun b o e m => ?_, fun b e => ?_, r.len, fun k x e => ?_, r.iol, fun k b c e1 e2 => ⟨(r.io k b c e1 e2).1, oth (r.io k b c e1 e2).2⟩, r.ap, r.inn, r.nd, r.s0, fun p hp => ?_⟩, uf⟩
    · by_cases z : b = c'
      · subst z
        rw [upd_same] at e ⊢
        exact e
      · rw [upd_ne z] at e
        have nP : b ≠ P := fun y => by rw [y, fP] at e; cases e
        rw [at_ b nP z]
        exact r.sub _ _ e
    · refine (r.keep b o e m).trans fun u hw => ?_
      by_cases z : b = P
      · subst z
        rw [hP] at hw
        cases hw
        exact .inr ⟨⟨_, rfl⟩, qs, by rw [upd_ne nPc, upd_same]⟩
      · exact .inl (by rw [at_ b z (ne_of_none hw nc)]; exact hw)
    · have z : b ≠ c' := fun y => by
        cases q : C.H0 b with
        | none => exact e q
        | some o => rw [y] at q; rw [r.newH nc] at q; cases q
      rw [upd_ne z]
      exact r.f0 b e
    · have q := r.slot k x e
      cases x with
      | no => trivial
      | val d => obtain ⟨v, z1, z2⟩ := q; exact ⟨v, z1, z2.up uf⟩
      | own c =>
        obtain ⟨b, z1, z2, z3, z4⟩ := q
        obtain ⟨o, ho⟩ := z4.there
        exact ⟨b, z1, by rw [upd_ne (ne_of_none ho nc)]; exact z2, z3, oth z4⟩
      | io j => exact q
    · obtain ⟨ps', h1, h2, h3⟩ := r.tabs p hp
      by_cases z : p.1 = P
      · have e2 := hu p hp z
        rw [z, hP] at h1
        cases h1
        refine ⟨qs, by rw [z, upd_ne nPc, upd_same], ok, fun pos cv hc => ?_⟩
        rcases hqs pos cv hc with y | y
        · obtain ⟨c, k1, k2⟩ := h3 pos cv y
          exact ⟨c, k1, uf _ _ k2⟩
        · exact ⟨c', y, by rw [upd_same, e2]⟩
      · refine ⟨ps', by rw [at_ _ z (ne_of_none h1 nc)]; exact h1, h2, fun pos cv hc => ?_⟩
        obtain ⟨c, k1, k2⟩ := h3 pos cv hc
        exact ⟨c, k1, uf _ _ k2⟩
/-- the reading of the whole -/
theorem told_read {W0 : WX} {cs : List Str} {n i j : Nat} {gR gS : S → Out} {fE : M D} {P : Addr} {q : Str} {Q : VK} (hq : (P, q) ∈ tbOf C.K) (hu : ∀ p ∈ tbOf C.K, p.1 = P → p.2 = q) (h : tR C W0 (toldM cs n i j gR gS fE) σ H Q) :
    tLam3 P q (TTx C.K cs n i j gR gS) (fun E => tD C (wx E) fE) σ H Q := by
  obtain ⟨F, s, r, h⟩ := h
  obtain ⟨ps, hP, ok, hc⟩ := r.tabs (P, q) hq
  refine ⟨ps, hP, ok, fun pos cv h => ?_, fun H1 c' st hco => ?_⟩
  · obtain ⟨c, e1, e2⟩ := hc pos cv h
    exact ⟨c, e1, r.sub _ _ e2⟩
  · obtain ⟨F1, r1, u1⟩ := r.stepL hq hu hP st
    refine ⟨F1, s, r1, ?_⟩
    unfold toldM at h
    cases hE : fE s with
    | ok d s' =>
      rw [hE] at h
      intro H2 F2 r2 u2 v iv
      cases hg : gR (slotsT n i d) with
      | rt rv s3 =>
        have h : Post C W0 σ F (match gR (slotsT n i d) with
          | .rt rv _ => .ok rv s'
          | _ => .bad) _ := h
        rw [hg] at h
        refine ⟨F2, d, rv, s3, r2.sub, r2.tabs, r2.tf0, iv, hg, fun v' H' F' af ra => ?_⟩
        have r3 := r2.after0 af
        refine h H' F' r3 ((u1.trans u2).trans af.f) v' ?_ fun a c e1 e2 i' => ?_
        · cases rv with
          | val d => exact ra
          | own c => obtain ⟨b, z1, z2, z3, z4⟩ := ra; exact ⟨b, z1, z2, r2.newH z3, z4⟩
        · subst e1
          obtain ⟨b, z1, z2, z3, z4⟩ := ra
          rw [e2] at z1
          cases z1
          exact r2.newO z3 i'
      | _ =>
        have h : Post C W0 σ F (match gR (slotsT n i d) with
          | .rt rv _ => .ok rv s'
          | _ => .bad) _ := h
        rw [hg] at h
        exact h.elim
    | exc c fs s' =>
      rw [hE] at h
      intro a H2 F2 r2 u2 x2
      by_cases hcs : cs.contains c = true
      · have h : Post C W0 σ F (if cs.contains c then (match gS (slotsT n j (.exn c fs)) with
          | .rt rv _ => if rvX rv then .ok rv s' else .bad
          | _ => .bad) else .bad) _ := h
        rw [if_pos hcs] at h
        cases hg : gS (slotsT n j (.exn c fs)) with
        | rt rv s3 =>
          rw [hg] at h
          by_cases hx : rvX rv = true
          · have h : Post C W0 σ F (if rvX rv then .ok rv s' else .bad) _ := h
            rw [if_pos hx] at h
            obtain ⟨vs, e1, e2⟩ := x2
            refine ⟨F2, c, fs, a, vs, rv, s3, rfl, hcs, rfl, e1, e2, r2.sub, r2.tabs, r2.tf0, hg, hx, fun v' H' F' af ra => ?_⟩
            have r3 := r2.after0 af
            refine h H' F' r3 ((u1.trans u2).trans af.f) v' ?_ fun a c e1 e2 i' => ?_
            · cases rv with
              | val d => exact ra
              | own c => obtain ⟨b, z1, z2, z3, z4⟩ := ra; exact ⟨b, z1, z2, r2.newH z3, z4⟩
            · subst e1
              obtain ⟨b, z1, z2, z3, z4⟩ := ra
              rw [e2] at z1
              cases z1
              exact r2.newO z3 i'
          · have h : Post C W0 σ F (if rvX rv then .ok rv s' else .bad) _ := h
            rw [if_neg hx] at h
            exact h.elim
        | _ =>
          rw [hg] at h
          exact h.elim
      · have h : Post C W0 σ F (if cs.contains c then (match gS (slotsT n j (.exn c fs)) with
          | .rt rv _ => if rvX rv then .ok rv s' else .bad
          | _ => .bad) else .bad) _ := h
        rw [if_neg hcs] at h
        exact h.elim
    | bad =>
      rw [hE] at h
      exact h.elim
end
end DL
set_option maxHeartbeats 2000000
/-! DL72: told(lambda: E): what W asks of the def that tries and of the def that makes the lambda. -/
namespace DL
open PySem PySem.Spec PyProof.Rows L2 L2H LamX
/-- the def's code object has a table for lambdas of the name q -/
structure LamK (K : PySem.W.Frag) (mg : Str → Option Value) (base : Heap) (cd : Value) (q : Str) : Prop where
  ex : ∃ c P, cd = .ref c ∧ (P, q) ∈ tbOf K ∧ (∀ p ∈ tbOf K, p.1 = P → p.2 = q) ∧ TabB base mg c P
theorem FunD.gL {P : Program} {w : World} {K : PySem.W.Frag} {mg : Str → Option Value} {base : Heap} {gd : Bool} {x qual q : Str} {params : Arguments} {body : List Stmt} {scope : Scope} {dvs : List V} {kws : List (Str × V)} {f : Addr} {fd : FuncData} {N ps : List Str} {k : Nat} {g : S → Out} (F : FunD K x qual params body scope dvs kws f fd) (L : LamK K mg base fd.code q) (S : FnScope N ps scope)
    (hbody : ∀ (cdv : Value) (A : Around) (outer : List Env) (s : Shared) (H : Hp) (E : XK) (C : Ct), LamK K mg base cdv q → (gd = true → (A.deeper (envOfC qual scope s.heap.objs.size f cdv)).guards = some []) → Room k (A.deeper (envOfC qual scope s.heap.objs.size f cdv)) → C.K = K →
      Passes (L2.CX P w) (Bx P w K mg base N qual scope f cdv A outer s H E) E → PassesOwn (model P w) (A.deeper (envOfC qual scope s.heap.objs.size f cdv)) (envOfC qual scope s.heap.objs.size f cdv) (Bx P w K mg base N qual scope f cdv A outer s H E).xe →
      DB (Bx P w K mg base N qual scope f cdv A outer s H E) C (wx E) body g) :
    FnG gd P w K mg base (L2.CX P w) (k + 1) f fd ps (spD K ps.length (bodyFn N.length g)) := by
  obtain ⟨oc, od, dV, kV, doc, pm, an, cdv, ct, osl, rfl, lk, hcd, _, _⟩ := F.ex
  refine fng_of lk hcd S (fun vs H Q E ⟨F, A, as, io, e, hl, _⟩ => by rw [← e.len, hl]) fun A outer s H vs Q E hgd hr ⟨F, Al, as, io, e, hl, q⟩ => ⟨_, hbody cdv A outer s H E ⟨K, H, F, Al⟩ L hgd hr rfl ?_ ?_, F, _, e.rel, ?_⟩
  · exact passes_call (takes_of (X := Bx P w K mg base N qual scope f cdv A outer s H E) (E := E) rfl rfl rfl rfl) fun _ _ _ _ h => h
  · exact passes_of (X := Bx P w K mg base N qual scope f cdv A outer s H E) rfl
  unfold bodyFn at q
  cases h : g ⟨as ++ List.replicate (N.length - as.length) .no, io⟩ with
  | nx s' =>
    rw [h] at q
    exact fun σ' H' F' r u => q .non H' F' (r.after u) .non
  | rt rv s' =>
    rw [h] at q
    exact fun v σ' H' F' r u ret => q v H' F' (r.after u) (by cases rv <;> exact ret)
  | exc c fs s' =>
    rw [h] at q
    exact fun a σ' H' F' r u x => q a H' F' (r.after u) x
  | bk s' => rw [h] at q; exact q.elim
  | ct s' => rw [h] at q; exact q.elim
  | bad => rw [h] at q; exact q.elim
/-- the context of the def that tries -/
abbrev tcy (P : Program) (w : World) (K : PySem.W.Frag) (mg : Str → Option Value) (base : Heap) (A : Around) (stack : List Env) (Ng : List Str) (x : Str) (sg : Scope) (g : Addr) (cdg : Value) (s : Shared) (H : Hp) : Cx := (cxOf C8.CX0 P w K mg base Ng x sg g cdg A stack s H C8.E0).nox
structure ToldOk (gd : Bool) (P : Program) (w : World) (K : PySem.W.Frag) (mg : Str → Option Value) (base : Heap) (k : Nat) (x a : Str) (cs : List Str) (n i j : Nat) (gR gS : S → Out) : Prop where
  ex : ∃ (g : Addr) (pg : Arguments) (bg : List Stmt) (sg : Scope) (dV kV doc pm cdv ct oc : Value) (an od : Option Addr) (osl : Array (Option Value)) (Ng : List Str), mg x = some (.ref g) ∧ PySem.W.keepIn K (.ref g) = true ∧ K.lookup g = some ⟨oc, od, .func (PySem.W.fnOf x x pg bg sg dV kV doc pm an cdv ct), osl⟩ ∧
    PySem.W.codeIn K cdv x = true ∧ L2.Binds K (PySem.W.fnOf x x pg bg sg dV kV doc pm an cdv ct) [a] [] ∧ FnScope Ng [a] sg ∧ Ng[0]? = some a ∧ Vis sg a ∧
    ∀ (X : Cx) (q : Str), X.prog = P → X.w = w → X.K = K → X.mg = mg → X.base = base → (gd = true → X.A.guards = some []) → Room (k + 1) X.A → GivesTo X Ng x sg g cdv bg a q (TTx K cs n i j gR gS)
theorem told_mk {gd : Bool} {P : Program} {w : World} {K : PySem.W.Frag} {mg : Str → Option Value} {base : Heap} {k : Nat} {x a n back x1 x2 x3 : Str} {pg : Arguments} {sg : Scope} {Ng : List Str} {g : Addr} {fd : FuncData} {i j : Nat} {gR gS : S → Out} {b0 : Stmt} {suite rest : List Stmt} {cs : List Str} {pb p1 p2 p3 np1 np2 np3 tpos pos pos' : Pos} {jj : Nat}
    (F : FunD K x x pg (.Try [.Assign [.Name back pb] (.Call (.Name a p1) [] [] p2) p3] [.ExceptHandler (some (.Tuple [.Name x1 np1, .Name x2 np2, .Name x3 np3] jj tpos)) (some n) (b0 :: suite) pos'] [] [] pos :: rest) sg [] [] g fd) (Sg : FnScope Ng [a] sg)
    (hx : mg x = some (.ref g)) (hb : L2.Binds K fd [a] []) (h0 : Ng[0]? = some a) (hva : Vis sg a) (hi : Ng[i]? = some back) (hbk : sg.names.lookup back = some .local) (hj : Ng[j]? = some n) (hn : sg.names.lookup n = some .local)
    (h1 : sg.names.lookup x1 = some .globalImplicit) (h2 : sg.names.lookup x2 = some .globalImplicit) (h3 : sg.names.lookup x3 = some .globalImplicit) (k1 : (x1 == ("__debug__" : Str)) = false) (k2 : (x2 == ("__debug__" : Str)) = false) (k3 : (x3 == ("__debug__" : Str)) = false)
    (m1 : mg x1 = some (.ref (He.ga K x1))) (m2 : mg x2 = some (.ref (He.ga K x2))) (m3 : mg x3 = some (.ref (He.ga K x3)))
    (hm : ∀ c, cs.contains c = true → PySem.W.exmAny K (.ref (He.ga K c)) [.ref (He.ga K x1), .ref (He.ga K x2), .ref (He.ga K x3)] = some true)
    (hS : ∀ (cdv : Value) (A : Around) (stack : List Env) (ae : Addr) (pn : List (Addr × Obj)) (s : Shared) (H : Hp) (C : Ct), (gd = true → ((tcy P w K mg base A stack Ng x sg g cdv s H).suite ae pn).A.guards = some []) → RoomH k ((tcy P w K mg base A stack Ng x sg g cdv s H).suite ae pn).A → C.K = K →
      Passes (L2.CX P w) ((tcy P w K mg base A stack Ng x sg g cdv s H).suite ae pn) C8.E0 → DB ((tcy P w K mg base A stack Ng x sg g cdv s H).suite ae pn) C (wx C8.E0) (b0 :: suite) gS)
    (hR : ∀ (cdv : Value) (A : Around) (stack : List Env) (s : Shared) (H : Hp) (C : Ct), (gd = true → (tcy P w K mg base A stack Ng x sg g cdv s H).A.guards = some []) → Room k (tcy P w K mg base A stack Ng x sg g cdv s H).A → C.K = K →
      Passes (L2.CX P w) (tcy P w K mg base A stack Ng x sg g cdv s H) C8.E0 → DB (tcy P w K mg base A stack Ng x sg g cdv s H) C (wx C8.E0) rest gR) :
    ToldOk gd P w K mg base k x a cs Ng.length i j gR gS := by
  obtain ⟨oc, od, dV, kV, doc, pm, an, cdv, ct, osl, rfl, lk, hcd, _, _⟩ := F.ex
  refine ⟨g, pg, _, sg, dV, kV, doc, pm, cdv, ct, oc, an, od, osl, Ng, hx, F.kp, lk, hcd, hb, Sg, h0, hva, ?_⟩
  rintro X q rfl rfl rfl rfl rfl hgd hr
  have none_ : ∀ {Y : Cx}, Passes (L2.CX X.prog X.w) Y C8.E0 := fun _ _ _ _ _ _ _ ⟨_, _, _, _, _, _, _, _, _, _, _, _, z⟩ => z.elim
  exact told3 (cs := cs) Sg hi hbk hj hn h1 h2 h3 k1 k2 k3 m1 m2 m3 hm
    (fun ae pn s H C hK => hS cdv X.A X.stack ae pn s H C (fun z => hgd z) ⟨by have := (hr.deeper (envOfC x sg s.heap.objs.size g cdv)).dp; exact this, by have := (hr.deeper (envOfC x sg s.heap.objs.size g cdv)).un; exact this⟩ hK none_)
    (fun s H C hK => hR cdv X.A X.stack s H C (fun z => hgd z) (hr.deeper _) hK none_)
section
variable {C : Ct} {X : Cx} {p lpos pos : Pos} {params : Arguments} {body : Expr} {scope : Scope}
theorem r_told {gd : Bool} {k : Nat} {x a q : Str} {cs : List Str} {n i j : Nat} {gR gS : S → Out} {fE : M D} {E0 : XK} (hK : C.K = X.K) (T : ToldOk gd X.prog X.w X.K X.mg X.base k x a cs n i j gR gS) (L : LamK X.K X.mg X.base X.env.code q) (hq : X.env.qual ++ "<lambda>" = q) (hgd : gd = true → X.A.guards = some []) (hr : Room (k + 2) X.A)
    (hg : Gl X x) (hL : lamSB X.env.scope scope = true) (hdef : defaultsOf params X.env = ([], []))
    (hbind : ∀ (q : Str) (cl : List (Str × Addr)) (pm cv ctv : Value), bindArgs (PySem.W.kla_fn "<lambda>" q params body scope cl pm cv ctv) ⟨[], []⟩ = pure [])
    (hbody : ∀ (A : Around) (outer : List Env) (s : Shared) (H : Hp) (E : XK) (f c' : Addr), (gd = true → (lamCx X A outer s H E scope f c').A.guards = some []) → Room k (lamCx X A outer s H E scope f c').A → Passes (L2.CX X.prog X.w) (lamCx X A outer s H E scope f c') E →
      PassesOwn (model X.prog X.w) (lamCx X A outer s H E scope f c').A (lamCx X A outer s H E scope f c').env (lamCx X A outer s H E scope f c').xe → DE (lamCx X A outer s H E scope f c') C (wx E) body fE)
    (hdb : (x == ("__debug__" : Str)) = false := by decide) (hd : (a == ("__debug__" : Str)) = false := by decide) (hcd : (a == ("__classdict__" : Str)) = false := by decide) :
    DR X C (wx E0) (.Call (.Name x p) [.Lambda params body scope lpos] [] pos) (toldM cs n i j gR gS fE) := by
  obtain ⟨g, pg, bg, sg, dV, kV, doc, pm, cdv, ct, oc, an, od, osl, Ng, hm, hk, lk, hcg, hb, Sg, h0, hva, hG⟩ := T.ex
  obtain ⟨c, P, hcode, hq1, hq2, TB⟩ := L.ex
  subst hq
  refine pe_imp (pe_lam3 (k := k) (t := fun E => tD C (wx E) fE) hg hm hk lk hcg hb Sg h0 hva (hG X (X.env.qual ++ "<lambda>") rfl rfl rfl rfl rfl hgd (hr.mono (by omega))) TB hcode hr (lamS_by hL) hdef hbind (fun A outer s H E f c' hA hr2 => ?_) hdb hd hcd) fun σ H Q h => ?_
  · refine hbody A outer s H E f c' (fun z => by show A.guards = _; rw [hA]; exact hgd z) hr2 ?_ ?_
    · exact passes_call (takes_of (X := lamCx X A outer s H E scope f c') (E := E) rfl rfl rfl rfl) fun _ _ _ _ h => h
    · exact passes_of (X := lamCx X A outer s H E scope f c') rfl
  · rw [← hK] at hq1 hq2 ⊢
    exact told_read hq1 hq2 h
end
end DL
set_option maxHeartbeats 2000000
/-! DL73: from what the head tells to own errors and tables. -/
namespace DL
open PySem PySem.Spec PyProof.Rows L2 L2H LamX
/-- what is asked of the program's main -/
structure XMain (P : Program) (file : Str) : Prop where
  fl : ((P.main.file : Str) == file) = true
  top : (P.main.scope.names.lookup ("super" : Str)).isSome = false
/-- an own class of errors, of one field -/
structure XC (K : PySem.W.Frag) (P : Program) (c f : Str) : Prop where
  ex : ∃ fI B newId i bmB, XIn K P (He.ga K c) f fI B newId i bmB
theorem xi_bind {qual f : Str} {params : Arguments} {body : List Stmt} {scope : Scope} {kV doc pm ct : Value} {an : Option Addr} {cd : Value} {cc : Addr} (hp : xPar f params = true) (hf : (f == ("given" : Str) || f == ("index" : Str) || f == ("most" : Str)) = true) (e u : Value) :
    bindArgs (PySem.W.ksFn "__init__" qual params body scope .none kV doc pm an cd ct cc) ⟨[e, u], []⟩ = (pure [(("self" : Str), e), (f, u)] : Sem (List (Str × Value))) := by
  unfold xPar at hp
  split at hp
  · rename_i a x1 x2 b x3 x4
    rw [Bool.and_eq_true, beq_iff_eq, beq_iff_eq] at hp
    obtain ⟨rfl, rfl⟩ := hp
    simp only [Bool.or_eq_true, beq_iff_eq] at hf
    rcases hf with (rfl | rfl) | rfl <;> rfl
  · cases hp
theorem xCell_ok {K : PySem.W.Frag} {Ca : Addr} {l : List (Str × Addr)} (h : xCell K Ca l = true) : ∃ cc cl cld csl, l = [(("__class__" : Str), cc)] ∧ K.lookup cc = some ⟨cl, cld, .cell (some (.ref Ca)), csl⟩ := by
  cases l with
  | nil => cases h
  | cons p r =>
    cases r with
    | cons _ _ => cases h
    | nil =>
      obtain ⟨nn, cc⟩ := p
      simp only [xCell, Bool.and_eq_true, beq_iff_eq] at h
      obtain ⟨rfl, h⟩ := h
      cases e : K.lookup cc with
      | none => rw [e] at h; cases h
      | some o =>
        rw [e] at h
        obtain ⟨q1, q2, dt, q3⟩ := o
        cases dt with
        | cell v =>
          cases v with
          | none => cases h
          | some u =>
            cases u with
            | ref D =>
              have h : (D == Ca) = true := h
              rw [beq_iff_eq] at h
              subst h
              exact ⟨cc, q1, q2, q3, rfl, e⟩
            | _ => cases h
        | _ => cases h
theorem xFile_ok {K : PySem.W.Frag} {file : Str} {v : Value} (h : xFile K file v = true) : ∃ cda r1 r2 vs r3 tf, v = .ref cda ∧ K.lookup cda = some ⟨r1, r2, .fields vs, r3⟩ ∧ (vs[2]? : Option Value) = some (.str file tf) := by
  cases v with
  | ref cda =>
    simp only [xFile] at h
    cases e : K.lookup cda with
    | none => rw [e] at h; cases h
    | some o =>
      rw [e] at h
      obtain ⟨r1, r2, dt, r3⟩ := o
      cases dt with
      | fields vs =>
        simp only at h
        cases e2 : (vs[2]? : Option Value) with
        | none => rw [e2] at h; cases h
        | some z =>
          rw [e2] at h
          cases z with
          | str fl tf =>
            simp only [beq_iff_eq] at h
            subst h
            exact ⟨cda, r1, r2, vs, r3, tf, rfl, e, e2⟩
          | _ => cases h
      | _ => cases h
  | _ => cases h
theorem xPar_ok {f : Str} {p : Arguments} (h : xPar f p = true) : ∃ x1 x2 x3 x4, p = ⟨[], [⟨"self", x1, x2⟩, ⟨f, x3, x4⟩], none, [], [], none, []⟩ := by
  unfold xPar at h
  split at h
  · rename_i a x1 x2 b x3 x4
    rw [Bool.and_eq_true, beq_iff_eq, beq_iff_eq] at h
    obtain ⟨rfl, rfl⟩ := h
    exact ⟨x1, x2, x3, x4, rfl⟩
  · cases h
theorem xFn_ok {K : PySem.W.Frag} {P : Program} {Ca fI : Addr} {f file : Str} (hP : ((P.main.file : Str) == file) = true) (hf : (f == ("given" : Str) || f == ("index" : Str) || f == ("most" : Str)) = true) (h : xFn K Ca f file (K.lookup fI) = true) :
    ∃ (qual : Str) (params : Arguments) (body : List Stmt) (scope : Scope) (dV kV doc pm ct oc : Value) (an od : Option Addr) (osl : Array (Option Value)) (cda cc : Addr) (ar : Arg) (vs : Array Value) (file : Str) (tf : Tok) (ccl cl : Value) (cdd cld : Option Addr) (ccs csl : Array (Option Value)),
      K.lookup fI = some ⟨oc, od, .func (PySem.W.ksFn "__init__" qual params body scope dV kV doc pm an (.ref cda) ct cc), osl⟩ ∧ xiBody f body = true ∧ PySem.W.codeIn K (.ref cda) qual = true ∧
      (params.posonlyargs ++ params.args).head? = some ar ∧ ar.arg = "self" ∧ (∀ (e u : Value), bindArgs (PySem.W.ksFn "__init__" qual params body scope dV kV doc pm an (.ref cda) ct cc) ⟨[e, u], []⟩ = (pure [(("self" : Str), e), (f, u)] : Sem (List (Str × Value)))) ∧
      K.lookup cda = some ⟨ccl, cdd, .fields vs, ccs⟩ ∧ vs[2]? = some (.str file tf) ∧ ((P.main.file : Str) == file) = true ∧ K.lookup cc = some ⟨cl, cld, .cell (some (.ref Ca)), csl⟩ ∧
      scope.kind = .function ∧ scope.isCoroutine = false ∧ scope.isGenerator = false ∧ (∀ x ∈ scope.names, x.2 ≠ .cell) ∧ scope.names.lookup ("super" : Str) = some .globalImplicit ∧ scope.names.lookup ("__class__" : Str) = some .free ∧
      scope.names.lookup ("self" : Str) = some .local ∧ scope.names.lookup f = some .local := by
  cases hl : K.lookup fI with
  | none => rw [hl] at h; cases h
  | some o =>
    rw [hl] at h
    obtain ⟨oc, od, dt, osl⟩ := o
    cases dt with
    | func fd =>
      obtain ⟨n1, n2, n3, n4, n5, n6, n7, n8, n9, n10, n11, n12, n13, n14, n15⟩ := fd
      cases n4 with
      | expr _ => simp [xFn] at h
      | stmts b =>
        cases n8 with
        | none =>
          have h : (n1 == "__init__" && decide (n6 = mainGlobals) && decide (n15 = builtinsNs) && xiBody f b && xCell K Ca n7 && PySem.W.codeIn K n13 n2 && xFile K file n13 && xPar f n3 && true && xScope f n5) = true := h
          simp only [Bool.and_eq_true, beq_iff_eq, decide_eq_true_eq] at h
          obtain ⟨⟨⟨⟨⟨⟨⟨⟨⟨rfl, rfl⟩, rfl⟩, k4⟩, k5⟩, k6⟩, k7⟩, k8⟩, _⟩, k10⟩ := h
          obtain ⟨cc, q1, q2, q3, rfl, eq1⟩ := xCell_ok k5
          obtain ⟨cda, r1, r2, vs, r3, tf, rfl, eq2, eq3⟩ := xFile_ok k7
          obtain ⟨x1, x2, x3, x4, hp⟩ := xPar_ok k8
          unfold xScope at k10
          simp only [Bool.and_eq_true, Bool.not_eq_true', decide_eq_true_eq, List.all_eq_true, decide_eq_false_iff_not] at k10
          obtain ⟨⟨⟨⟨⟨⟨⟨s1, s2⟩, s3⟩, s4⟩, s5⟩, s6⟩, s7⟩, s8⟩ := k10
          exact ⟨n2, n3, b, n5, .none, n9, n10, n11, n14, oc, n12, od, osl, cda, cc, ⟨"self", x1, x2⟩, vs, file, tf, r1, q1, r2, q2, r3, q3, rfl, k4, k6, by rw [hp]; rfl, rfl, fun e u => xi_bind k8 hf e u, eq2, eq3, hP, eq1, s1, s2, s3, s4, s5, s6, s7, s8⟩
        | _ => simp [xFn] at h
    | _ => cases h
theorem xc_of {K : PySem.W.Frag} {P : Program} {c f file : Str} {B : String} (h : xnB K c f file B = true) (hP : XMain P file) : XC K P c f := by
  unfold xnB at h
  simp only [Bool.and_eq_true] at h
  obtain ⟨⟨⟨⟨⟨⟨⟨⟨⟨⟨⟨⟨⟨⟨h1, h2⟩, h3⟩, h4⟩, h5⟩, h6⟩, h7⟩, h8⟩, h9⟩, h10⟩, h11⟩, h12⟩, h13⟩, h14⟩, h15⟩ := h
  have key : ∀ {B newId i : String} {bmB : List Value}, ExcBaseFacts B newId i bmB → PySem.W.KxsFacts B i → StoreFacts B bmB "object.__setattr__" "object" →
      (PySem.W.excInitIn K (He.ga K c) bmB newId && PySem.W.excOver K (He.ga K c) bmB && decide (PySem.W.subIn K (.ref (He.ga K c)) (.type B) = some true) && He.eqO (PySem.W.ks_superIn K (He.ga K c) (He.ga K c) "__init__") (some (some (.builtin i)))) = true → XC K P c f := fun {B newId i bmB} FB KF SF hb => by
    simp only [Bool.and_eq_true] at hb
    obtain ⟨⟨⟨b1, b2⟩, b3⟩, b4⟩ := hb
    refine ⟨He.ma K (He.ga K c) "__init__", B, newId, i, bmB, ?_⟩
    have hfn := xFn_ok hP.fl h13 h15
    exact {
      FB := FB, KF := KF, SF := SF, init := b1, over := b2, hi := He.eqO_ok h2, ty := of_decide_eq_true h3, hs := He.eqO_ok h4, ht := He.eqO_ok h5, hh := h6, hB := of_decide_eq_true b3, exC := of_decide_eq_true h7, tyC := of_decide_eq_true h8
      kC := h9, sup := He.eqO_ok b4, sub := of_decide_eq_true h10, nos := He.eqO_ok h11, opq := He.eqO_ok h12
      fsf := by
        simp only [Bool.or_eq_true, beq_iff_eq] at h13
        rcases h13 with (rfl | rfl) | rfl <;> decide
      fdb := by
        simp only [Bool.or_eq_true, beq_iff_eq] at h13
        rcases h13 with (rfl | rfl) | rfl <;> decide
      cl := Option.isSome_iff_exists.mp h14, fn := hfn, top := hP.top }
  unfold xNames at h1
  split at h1
  · rename_i e
    split at e
    · cases e; exact key F.excBase_ValueError PySem.W.kxs_ValueError F.store_ValueError h1
    · cases e; exact key F.excBase_LookupError PySem.W.kxs_LookupError F.store_LookupError h1
    · cases e; exact key F.excBase_ArithmeticError PySem.W.kxs_ArithmeticError F.store_ArithmeticError h1
    · cases e
  · cases h1
theorem exm_of {K : PySem.W.Frag} {cs : List Str} (h : xmB K cs = true) (c : Str) (hc : cs.contains c = true) : PySem.W.exmAny K (.ref (He.ga K c)) [.ref (He.ga K "NotRight"), .ref (He.ga K "NotThere"), .ref (He.ga K "CannotBe")] = some true :=
  of_decide_eq_true (List.all_eq_true.mp h c (by simpa using hc))
theorem lam_of {K : PySem.W.Frag} {mg : Str → Option Value} {base : Heap} {x q qual : Str} {params : Arguments} {body : List Stmt} {scope : Scope} {dvs : List V} {kws : List (Str × V)} {fd : FuncData} (h : lamB K x q = true) (F : FunD K x qual params body scope dvs kws (He.ga K x) fd) (T : ∀ p ∈ tbC K, TabB base mg p.1 p.2) : LamK K mg base fd.code q := by
  obtain ⟨oc, od, dV, kV, doc, pm, an, cdv, ct, osl, e, lk, _⟩ := F.ex
  unfold lamB at h
  rw [lk] at h
  have h : (match fd.code with
      | .ref c => (tbC K).any fun p => p.1 == c && (tbOf K).contains (p.2, q) && (tbOf K).all fun t => t.1 != p.2 || t.2 == q
      | _ => false) = true := h
  cases hc : fd.code with
  | ref c =>
    rw [hc] at h
    obtain ⟨p, hp, h⟩ := List.any_eq_true.mp h
    simp only [Bool.and_eq_true, beq_iff_eq, List.all_eq_true, Bool.or_eq_true, bne_iff_ne] at h
    obtain ⟨⟨rfl, h2⟩, h3⟩ := h
    refine ⟨p.1, p.2, rfl, by simpa using h2, fun t ht e => ?_, T p hp⟩
    rcases h3 t ht with z | z
    · exact absurd e z
    · exact z
  | _ => rw [hc] at h; cases h
section
variable {C : Ct} {W : WX} {X : Cx} {fa : M D} {e : Expr} {pos p rpos : Pos} {f x : Str} {k : Nat}
theorem ds_raiseC (hK : C.K = X.K) (tk : Takes X W) (hc : X.calm = true) (T : XC X.K X.prog x f) (hr : Room (k + 1) X.A) (hg : Gl X x) (hm : X.mg x = some (.ref (He.ga X.K x))) (ha : DE X C W e fa)
    (hdb : (x == ("__debug__" : Str)) = false := by decide) (hse : starEach [e] X.env = (false, eval e X.env) :: starEach [] X.env := by rfl) (hpl : (backTo pos (starEach [] X.env)).any (·.1) = false := by rfl) :
    DS X C W (.Raise (some (.Call (.Name x p) [e] [] pos)) none rpos) (sRaise x f fa) := by
  obtain ⟨fI, B, newId, i, bmB, T⟩ := T.ex
  exact ds_raise hK tk hc T hr hg hm ha hdb hse hpl
end
end DL
set_option maxHeartbeats 2000000
/-! DL74: repr of an empty dict, repr of what may be an own instance. -/
namespace DL
open PySem PySem.Spec PyProof.Rows L2
section
variable {X : Cx}
def rRepr0 : RC := fun vs H Q => ∃ a, vs = [.ref a] ∧ H a = some (.dK []) ∧ Q (.str (PyData.shown (.dict []))) H
theorem call_repr0 (hg : X.A.guards = some []) (hu : X.A.units + 65 < cLine) : CallR X (.builtin "repr") rRepr0 := by
  intro pins s σ H xs us Q I r h
  obtain ⟨a, rfl, ea, q⟩ := h
  obtain rfl := Vals.ref1 r
  obtain ⟨_, ns, vs, kv, o, es, ep, e, ex, ed, _, pr, _⟩ := dk_of I.hok ea
  cases kv
  have e0 : es.toList = [] := by
    generalize es.toList = l at pr
    cases pr
    rfl
  have dp : PyData.depth (.dict []) ≤ 60 := by decide
  refine repr_of_reads' (d := .dict []) (as := [a]) (.dict (as := []) (bs := []) e ex.1 ed (by rw [e0]; exact .nil) (by rw [e0]; exact .nil)) (by decide) (fun _ m => ?_) hg (by omega) (fun _ _ e => e) (fun h' u' tk hk => ⟨.str _, H, I.kept hk, ⟨_, rfl⟩, q⟩) (by decide)
  rw [List.mem_singleton] at m
  subst m
  simp at ns
/-- as reprC, and of an empty dict -/
def reprZ : List D → Option D
  | [.dic []] => some (.str (PyData.shown (.dict [])))
  | ds => reprC ds
theorem c_reprZ (hg : X.A.guards = some []) (hu : X.A.units + 65 < cLine) : CalD X (.builtin "repr") reprZ := by
  obtain ⟨r, h1, h2⟩ := c_repr hg hu
  refine ⟨_, (call_repr0 hg hu).or h1, fun H F vs ds d' su h hg Q q => ?_⟩
  by_cases z : ds = [.dic []]
  · subst z
    cases hg
    cases h with
    | cons i t =>
      cases t
      cases i with
      | dic a b => cases b; exact .inl ⟨_, rfl, su _ _ a, q _ H F (Ext.refl su) (.str _)⟩
  · have e : reprZ ds = reprC ds := by
      unfold reprZ
      split
      · exact absurd rfl z
      · rfl
    rw [e] at hg
    exact .inr (h2 H F vs ds d' su h hg Q q)
end
/-- repr of a datum, or of an instance of cn -/
def mReprA (cn : Str) (r : Fn) (fa : M D) : M D := mbind fa fun a => match insAt cn a with
  | some _ => mbind (runFn r [] [.val a]) fun rv => match rv with
    | .val (.str z) => mret (.str z)
    | _ => fun _ => .bad
  | none => mopt (reprZ [a])
end DL
set_option maxHeartbeats 2000000
/-! DL75: xs[a::k] of lists, a list that split gives as one's own. -/
namespace DL
open PySem PySem.Spec PyProof.Rows L2
def places {α : Type} (xs : List α) (js : List Nat) : List α := js.filterMap (xs[·]?)
def stepJ (lo : Option Int) (k : Int) (n : Nat) : List Nat := sliceRange (sliceBounds lo none (some k) n).1 (sliceBounds lo none (some k) n).2.1 (sliceBounds lo none (some k) n).2.2
def stepL (lo : Option Int) (k : Int) : D → Option D
  | .lst xs => some (.lst (places xs (stepJ lo k xs.length)))
  | _ => none
/-! ### x.split(y), a list of one's own -/
/-! ### all parameters given, some of which have defaults -/
end DL
set_option maxHeartbeats 2000000
/-! DL76: zip of a tuple and a list (over the kit's KE.GoesZip). -/
namespace DL
open PySem PySem.Spec PyProof.Rows L2
/-! ### zip(t, l) is made -/
end DL
set_option maxHeartbeats 2000000
/-! DL77: a text == an empty dict. -/
namespace DL
open PySem PySem.Spec PyProof.Rows L2
section
variable {X : Cx}
/-- as eqD, and a text is no dict -/
def eqZ : D → D → Option D
  | .str _, .dic _ => some (.bl false)
  | d, e => eqD d e
end
end DL
set_option maxHeartbeats 2000000
/-! DL78: sorted(e, key=len) of a list of tuples. -/
namespace DL
open PySem PySem.Spec PyProof.Rows L2
end DL
set_option maxHeartbeats 2000000
/-! DL79: >= of ints, of tuples of ints. -/
namespace DL
open PySem PySem.Spec PyProof.Rows L2
end DL
set_option maxHeartbeats 2000000
/-! DL80: repr of data that hold empty dicts; a tuple == (). -/
namespace DL
open PySem PySem.Spec PyProof.Rows L2
mutual
/-- as D.ok, and empty dicts -/
def D.okY : Nat → D → Bool
  | _, .non => true
  | _, .bl _ => true
  | _, .int _ => true
  | _, .str x => PyData.strOk x
  | n + 1, .tup xs => D.oksY n xs
  | n + 1, .lst xs => D.oksY n xs
  | _, .dic [] => true
  | _, _ => false
def D.oksY : Nat → List D → Bool
  | _, [] => true
  | n, x :: xs => D.okY n x && D.oksY n xs
end
mutual
theorem okY_depth : ∀ (d : D) (n : Nat), d.okY n = true → d.py.depth ≤ n + 1
  | .non, _, _ => by simp [D.py, PyData.depth]
  | .bl _, _, _ => by simp [D.py, PyData.depth]
  | .int _, _, _ => by simp [D.py, PyData.depth]
  | .str _, _, _ => by simp [D.py, PyData.depth]
  | .tup xs, n + 1, h => by
    have := oksY_depth xs n (by simpa [D.okY] using h)
    simp only [D.py, PyData.depth]; omega
  | .lst xs, n + 1, h => by
    have := oksY_depth xs n (by simpa [D.okY] using h)
    simp only [D.py, PyData.depth]; omega
  | .dic [], n, _ => by simp [D.py, PyData.depth, PyData.depthKv]
  | .tup _, 0, h => by simp [D.okY] at h
  | .lst _, 0, h => by simp [D.okY] at h
  | .dic (_ :: _), n, h => by cases n <;> simp [D.okY] at h
  | .ty _, n, h => by cases n <;> simp [D.okY] at h
  | .glo _, n, h => by cases n <;> simp [D.okY] at h
  | .ins _ _, n, h => by cases n <;> simp [D.okY] at h
  | .tdc _, n, h => by cases n <;> simp [D.okY] at h
  | .exn _ _, n, h => by cases n <;> simp [D.okY] at h
theorem oksY_depth : ∀ (ds : List D) (n : Nat), D.oksY n ds = true → PyData.depthAll (D.pys ds) ≤ n + 1
  | [], _, _ => by simp [D.pys, PyData.depthAll]
  | d :: ds, n, h => by
    rw [D.oksY, Bool.and_eq_true] at h
    have h1 := okY_depth d n h.1
    have h2 := oksY_depth ds n h.2
    simp only [D.pys, PyData.depthAll]; omega
end
section
variable {X : Cx} {pins : List (Addr × Obj)} {σ : L2.St} {H F : Hp} {s : Shared}
theorem no_sys (I : Inv X pins σ H s) (hS : (X.K.lookup sysModules).isSome = true) : H sysModules = none := by
  obtain ⟨o, ho⟩ := Option.isSome_iff_exists.mp hS
  exact (I.env0.bs sysModules o (I.env0.mod.kin _ _ ho)).2
mutual
theorem Is.rdY (I : Inv X pins σ H s) (su : Sub F H) (hS : (X.K.lookup sysModules).isSome = true) : ∀ {v : V} {d : D} (n : Nat), Is X.K F v d → d.okY n = true → ∀ u, RelV v u → ∃ as, Reads s.heap u d.py as ∧ sysModules ∉ as
  | _, _, _, .non, _, u, r => by cases r; exact ⟨_, Reads.none, by simp⟩
  | _, _, _, .bl b, _, u, r => by cases r; exact ⟨_, Reads.bool b, by simp⟩
  | _, _, _, .int i, _, u, r => by obtain ⟨t, rfl⟩ := r; exact ⟨_, Reads.int i t, by simp⟩
  | _, _, _, .str x, _, u, r => by obtain ⟨t, rfl⟩ := r; exact ⟨_, Reads.str x t, by simp⟩
  | _, _, n + 1, .tup h q, o, u, r => by
    cases r
    obtain ⟨its, rv, ⟨ob, ho, hc, k, hd⟩, _⟩ := I.tuple (su.t h)
    obtain ⟨as, hr, ha⟩ := IsAll.rdY I su hS n q (by simpa [D.okY] using o) its rv
    exact ⟨_, Reads.tuple ho hc hd hr, ha⟩
  | _, _, n + 1, .lst (a := a) h q, o, u, r => by
    cases r
    have hr' := su.rd h
    obtain ⟨its, rv, ⟨ob, k, ho, hc, _, hd⟩, _⟩ := I.list (.inl hr')
    obtain ⟨as, hr, ha⟩ := IsAll.rdY I su hS n q (by simpa [D.okY] using o) its rv
    refine ⟨_, Reads.list ho hc hd hr, fun m => ?_⟩
    rcases List.mem_cons.mp m with e | m
    · have z := no_sys I hS
      rw [← e] at hr'
      rcases hr' with h | ⟨_, h⟩ <;> (rw [z] at h; cases h)
    · exact ha m
  | _, .dic [], n, .dic (a := a) e kv, o, u, r => by
    cases r
    cases kv
    obtain ⟨_, ns, vs, kv, o, es, ep, e1, ex, ed, _, pr, _⟩ := dk_of I.hok (su _ _ e)
    cases kv
    have e0 : es.toList = [] := by
      generalize es.toList = l at pr
      cases pr
      rfl
    refine ⟨_, Reads.dict (as := []) (bs := []) e1 ex.1 ed (by rw [e0]; exact .nil) (by rw [e0]; exact .nil), fun m => ?_⟩
    simp at m
    rw [← m] at ns
    simp at ns
  | _, _, 0, .tup h q, o, _, _ => by simp [D.okY] at o
  | _, _, 0, .lst h q, o, _, _ => by simp [D.okY] at o
  | _, .dic (_ :: _), n, .dic _ _, o, _, _ => by cases n <;> simp [D.okY] at o
  | _, _, n, .ty _, o, _, _ => by cases n <;> simp [D.okY] at o
  | _, _, n, .glo _, o, _, _ => by cases n <;> simp [D.okY] at o
  | _, _, n, .ins _ _, o, _, _ => by cases n <;> simp [D.okY] at o
  | _, _, n, .tdc _ _ _ _, o, _, _ => by cases n <;> simp [D.okY] at o
  | _, _, n, .exn _ _ _ _ _ _, o, _, _ => by cases n <;> simp [D.okY] at o
  | _, _, n, .exn0 _ _ _ _, o, _, _ => by cases n <;> simp [D.okY] at o
theorem IsAll.rdY (I : Inv X pins σ H s) (su : Sub F H) (hS : (X.K.lookup sysModules).isSome = true) : ∀ {vs : List V} {ds : List D} (n : Nat), IsAll X.K F vs ds → D.oksY n ds = true → ∀ us, Vals vs us → ∃ as, ReadsAll s.heap us (D.pys ds) as ∧ sysModules ∉ as
  | _, _, _, .nil, _, us, r => by cases r; exact ⟨_, ReadsAll.nil, by simp⟩
  | _, _, n, .cons h q, o, us, r => by
    rw [D.oksY, Bool.and_eq_true] at o
    cases r with
    | cons r1 r2 =>
      obtain ⟨as, q1, a1⟩ := Is.rdY I su hS n h o.1 _ r1
      obtain ⟨bs, q2, a2⟩ := IsAll.rdY I su hS n q o.2 _ r2
      exact ⟨_, ReadsAll.cons q1 q2, fun m => (List.mem_append.mp m).elim a1 a2⟩
end
/-- repr of data that may hold empty dicts -/
def reprY : List D → Option D
  | [d] => if (d.okY 10 && d.py.showable && decide (d.py.shown.length ≤ LN)) = true then some (.str d.py.shown) else none
  | _ => none
def rReprY (K : PySem.W.Frag) : RC := fun vs H Q => ∃ x d F, vs = [x] ∧ Sub F H ∧ Is K F x d ∧ d.okY 10 = true ∧ d.py.showable = true ∧ d.py.shown.length ≤ sizeLine ∧ Q (.str d.py.shown) H
theorem call_reprY (hS : (X.K.lookup sysModules).isSome = true) (hg : X.A.guards = some []) (hu : X.A.units + 65 < cLine) : CallR X (.builtin "repr") (rReprY X.K) := by
  intro pins s σ H xs us Q I r h
  obtain ⟨x, d, F, rfl, su, hi, ho, hs, hz, q⟩ := h
  obtain ⟨u, rfl, ru⟩ := vals1 r
  obtain ⟨as, rd, hn⟩ := Is.rdY I su hS 10 hi ho u ru
  have hd := okY_depth d 10 ho
  generalize d.py = p at *
  cases rd with
  | none => exact PySem.P.repr_of_none ⟨.str _, H, I.tok _, ⟨_, rfl⟩, by simpa only [PyData.shown] using q⟩
  | bool b =>
    simp only [PyData.shown] at q
    exact PySem.P.repr_of_bool ⟨.str _, H, I.tok _, ⟨_, rfl⟩, by cases b <;> exact q⟩
  | int i t =>
    simp only [PyData.shown] at q
    exact PySem.P.repr_of_int (by simpa [PyData.showable] using hs) ⟨.str _, H, I.tok _, ⟨_, rfl⟩, q⟩
  | str z t =>
    simp only [PyData.shown] at q hz
    exact PySem.P.repr_of_str ⟨.str _, H, I.tok _, ⟨_, rfl⟩, q⟩ hz
  | list h1 h2 h3 h4 => exact repr_of_reads' (.list h1 h2 h3 h4) hs (fun _ => hn) hg (by omega) (fun _ _ e => e) (fun h' u' tk hk => ⟨.str _, H, I.kept hk, ⟨_, rfl⟩, q⟩) hz
  | tuple h1 h2 h3 h4 => exact repr_of_reads' (.tuple h1 h2 h3 h4) hs (fun _ => hn) hg (by omega) (fun _ _ e => e) (fun h' u' tk hk => ⟨.str _, H, I.kept hk, ⟨_, rfl⟩, q⟩) hz
  | dict h1 h2 h3 h4 h5 => exact repr_of_reads' (.dict h1 h2 h3 h4 h5) hs (fun _ => hn) hg (by omega) (fun _ _ e => e) (fun h' u' tk hk => ⟨.str _, H, I.kept hk, ⟨_, rfl⟩, q⟩) hz
theorem c_reprY (hS : (X.K.lookup sysModules).isSome = true) (hg : X.A.guards = some []) (hu : X.A.units + 65 < cLine) : CalD X (.builtin "repr") reprY := by
  refine ⟨_, call_reprY hS hg hu, ?_⟩
  intro H F vs ds d' su h hg Q q
  obtain ⟨v, d, rfl, iv, e⟩ := one1 (k := fun d => if (d.okY 10 && d.py.showable && decide (d.py.shown.length ≤ LN)) = true then some (D.str d.py.shown) else none) h hg fun ds y e => by
    unfold reprY at e
    split at e
    · exact ⟨_, rfl, e⟩
    · cases e
  obtain ⟨z, rfl⟩ := ifb_some e
  simp only [Bool.and_eq_true, decide_eq_true_eq] at z
  exact ⟨v, d, F, rfl, su, iv, z.1.1, z.1.2, ln_line z.2, q _ H F (Ext.refl su) (.str _)⟩
/-! a tuple == () -/
def eqT0 : D → D → Option D
  | .tup xs, .tup [] => some (.bl xs.isEmpty)
  | _, _ => none
def rEqT0 (K : PySem.W.Frag) : R2 := fun x y H Q => ∃ a b xs, x = .ref a ∧ y = .ref b ∧ SqT K H a xs ∧ SqT K H b [] ∧ Q (.bl xs.isEmpty) H
theorem op_eqT0 (hu : X.A.units < cLine) : OpR X (compareOp .Eq) (rEqT0 X.K) := by
  intro pins s σ H x y v u Q I rx ry h
  obtain ⟨a, b, xs, rfl, rfl, ha, hb, q⟩ := h
  cases rx
  cases ry
  obtain ⟨its, r1, p1, _⟩ := I.tuple ha
  obtain ⟨its2, r2, p2, _⟩ := I.tuple hb
  have e2 : its2 = [] := r2.nil_iff.mpr rfl
  subst e2
  have R := SeqAt.RcAt.tuples (A := X.A) (s := s) (e := fun _ => true) p1 p2 hu (fun j h1 h2 => by simp at h2)
  have e : ((List.range (min its.toArray.size ([] : List Value).toArray.size)).all (fun _ => true) && its.toArray.size == ([] : List Value).toArray.size) = xs.isEmpty := by
    have hl := r1.length
    cases xs with
    | nil =>
      have : its = [] := r1.nil_iff.mpr rfl
      subst this; rfl
    | cons x xs =>
      cases its with
      | nil => simp at hl
      | cons i its => simp
  rw [e] at R
  exact R X.prog X.w X.xe (EP X pins σ Q) ⟨.bl _, H, I, rfl, q⟩
theorem o_eqT0 (hu : X.A.units + 64 < cLine) : OpD X (compareOp .Eq) eqT0 := by
  refine ⟨_, op_eqT0 (by omega), ?_⟩
  intro H F x y d e d' su hx hy hg Q q
  unfold eqT0 at hg
  split at hg
  · rename_i xs
    cases hg
    cases hx with
    | @tup a1 vs ds h1 h2 =>
      cases hy with
      | @tup a2 vs2 ds2 g1 g2 =>
        cases g2
        refine ⟨_, _, _, rfl, rfl, su.t h1, su.t g1, ?_⟩
        have e : vs.isEmpty = xs.isEmpty := by cases h2 <;> rfl
        rw [e]
        exact q _ H F (Ext.refl su) (.bl _)
  · cases hg
end
@[simp] theorem q_eqT0 (xs : List D) : eqT0 (.tup xs) (.tup []) = some (.bl xs.isEmpty) := rfl
end DL
set_option maxHeartbeats 2000000
/-! DL81: as DL37's, where other lists of leaves are lent. -/
namespace DL
open PySem PySem.Spec PyProof.Rows L2
def ioLf (cs : List Cell) : Bool := cs.all fun c => match c with
  | .lst ys => D.lfs ys
  | _ => false
def keepV (i : Nat) (f : M Cell) : M Cell := fun s => match s.sl[i]? with
  | some (.own (.lst _)) => if onlyO i 0 s.sl = true then (match f s with
    | .ok (.lst ys) s2 => if (D.lfs ys && ioLf s2.io) = true then .ok (.lst ys) ⟨s.sl, s2.io⟩ else .bad
    | _ => .bad) else .bad
  | _ => .bad
section
variable {C : Ct} {W : WX} {X : Cx} {σ : L2.St} {H F H' F' : Hp} {s : S}
theorem Rel.backV (r : Rel C σ H F s) {i : Nat} {ds : List D} {a : Addr} {xs : List V} (h : s.sl[i]? = some (.own (.lst ds))) (he : σ[i]? = some (some (.ref a))) (hF : F a = none) (h0 : C.H0 a = none) (hA : IsAll C.K F xs ds) (ho : onlyO i 0 s.sl = true)
    {s2 : S} (r2 : Rel C σ H' F' s2) (hio : ioLf s2.io = true) (ha : F' a = some (.lst xs)) (u : Sub F F') : Rel C σ H' (lessA F' a) ⟨s.sl, s2.io⟩ := by
  have uf : Sub F (lessA F' a) := fun b o e => by
    rw [lessA_ne fun z => by rw [z, hF] at e; cases e]
    exact u b o e
  refine ⟨fun b o e => ?_, r2.keep, fun b e => ?_, r.len, fun j x e => ?_, r2.iol, fun j b c e1 e2 => ?_, r.ap, r.inn, r.nd, r.s0, r2.tabs.strip fun c q e => by
    rw [lessA_ne fun z => by rw [z, ha] at e; exact codeO_lst (Option.some.inj e).symm]
    exact e⟩
  · by_cases q : b = a
    · subst q; simp [lessA] at e
    · rw [lessA_ne q] at e; exact r2.sub _ _ e
  · rw [lessA_ne fun z => e (by rw [z]; exact h0)]
    exact r2.f0 b e
  · have z := r.slot j x e
    cases x with
    | no => trivial
    | val d => obtain ⟨v, z1, z2⟩ := z; exact ⟨v, z1, z2.up uf⟩
    | own c =>
      have := onlyO_eq s.sl 0 ho j c e
      have hj : j = i := by omega
      subst hj
      rw [h] at e
      cases e
      exact ⟨a, he, by simp [lessA], h0, xs, r2.sub _ _ ha, hA.up uf⟩
    | io k => exact z
  · obtain ⟨z1, z2⟩ := r2.io j b c e1 e2
    refine ⟨z1, ?_⟩
    have hc := List.all_eq_true.mp hio c (List.mem_of_getElem? e2)
    cases c with
    | lst ys => obtain ⟨xs', g1, g2⟩ := z2; exact ⟨xs', g1, g2.less ha hc⟩
    | _ => cases hc
theorem ds_setLcV {i k : Nat} {y : Str} {py : Pos} {elt tg iter : Expr} {ifs : List Expr} {scope : Scope} {own : List (Str × Nat)} {pos spos : Pos} {pt : Pat} {t : M Bool} {fe : M D} (hK : C.K = X.K) (hc : X.calm = true) (n : Nm X i y) (hyl : X.env.scope.names.lookup y = some .local)
    (hsw : swapsWith (.ListComp elt [⟨tg, iter, ifs, 0⟩] scope pos) (some (.Name y py)) spos.line X.env = pure true) (hi : DI X C W tg iter (iOf (eVar k))) (ok : BlkOk X.N X.env.scope scope own) (hpt : pt.inn (own.map (·.2)) = true)
    (hg : Blk X scope fun Y => PG Y tg (pt.g X.K)) (ht : ∀ C' : Ct, C'.K = X.K → Blk X scope fun Y => DTs Y C' WN ifs t) (he : ∀ C' : Ct, C'.K = X.K → Blk X scope fun Y => DE Y C' WN elt fe)
    (hs : ∀ x, foldedSetIterable iter X.env x = pure x := by intro _; rfl) : DS X C W (.Assign [.Name y py] (.ListComp elt [⟨tg, iter, ifs, 0⟩] scope pos) spos) (sSetO i (keepV k (oLc (own.map (·.2)) (iOf (eVar k)) pt t fe))) := by
  refine ps_imp (ps_setLc hc n.nd n.ix hyl hsw hi ok hg (fun s H c cl fp => dts_x fun C' e => ht C' e s H c cl fp) (fun s H c cl fp => d_x fun C' e => he C' e s H c cl fp) hs) fun E σ H ⟨F, s, r, q⟩ => ?_
  rw [← hK]
  have q := post_of (σ := σ) q
  unfold keepV at q
  split at q
  · rename_i ds h1
    split at q
    · rename_i h2
      split at q
      · rename_i ys s2 h3
        split at q
        · rename_i h4
          rw [Bool.and_eq_true] at h4
          obtain ⟨h4, h4b⟩ := h4
          obtain ⟨a, e1, e2, e3, e4⟩ := r.slot k _ h1
          obtain ⟨xs, ex, ea⟩ := e4
          obtain ⟨a', F1, k1, k2, k3, k4⟩ := r.freeze h1
          rw [e1] at k1
          cases k1
          have fz : s.frz k = s.put k (.val (Cell.lst ds).d) := by unfold S.frz; rw [h1]
          rw [← fz] at k4
          have h5 : eLcL (own.map (·.2)) (iOf (eVar k)) pt t fe s = .ok ys s2 := by
            unfold oLc mbind at h3
            cases h6 : eLcL (own.map (·.2)) (iOf (eVar k)) pt t fe s with
            | ok ys' s' => rw [h6] at h3; cases h3; rfl
            | exc c fs s' => rw [h6] at h3; cases h3
            | bad => rw [h6] at h3; cases h3
          have hx1 : F1 a = some (.lst xs) := by
            cases k3 with
            | lst z1 z2 =>
              rcases z1 with z1 | ⟨o, z1⟩
              · have := k4.sub _ _ z1
                rw [ex] at this
                cases this
                exact z1
              · have := k4.sub _ _ z1
                rw [ex] at this
                cases this
          refine lc_tLc (P := fun ys' s' _ F'' => Sub F1 F'' ∧ ys' = ys ∧ s' = s2) (Q := fun x H1 => gName i x σ H1 E.nx) hK hpt ⟨F1, s.frz k, k4, by rw [← eLc_frz, h5]; exact fun H' F' r' u' => ⟨u', rfl, rfl⟩⟩ fun ys' s2' H' F' b r2 nF n0 hc nO kk => ?_
          obtain ⟨u2, rfl, rfl⟩ := kk H' F' r2 (Sub.refl _)
          have ha := u2 _ _ hx1
          have rb := r.backV h1 e1 e2 e3 ea h2 r2 h4b ha (k2.trans u2)
          have ne : b ≠ a := fun z => by rw [z, ha] at nF; cases nF
          have uF : Sub F (lessA F' a) := fun x o e => by
            rw [lessA_ne fun z => by rw [z, e2] at e; cases e]
            exact u2 _ _ (k2 _ _ e)
          have nO' : ∀ j, ¬ OwnAt σ s.sl j b := fun j hj => by
            obtain ⟨g1, c, g2⟩ := hj
            have := onlyO_eq s.sl 0 h2 j c g2
            have hj : j = k := by omega
            subst hj
            rw [e1] at g1
            cases g1
            exact ne rfl
          obtain ⟨zs, g1, g2⟩ := hc
          exact q H' (lessA F' a) rb uF _ _ _ (rb.putO nO' n0 (by rw [lessA_ne ne]; exact nF) (show CellAt C.K (lessA F' a) H' b (.lst ys') from ⟨zs, g1, g2.less ha h4⟩)) (Sub.refl _)
        · exact q.elim
      · exact q.elim
    · exact q.elim
  · exact q.elim
end
end DL
set_option maxHeartbeats 4000000
/-! Tools for the plain laws: the M-terms' equations, comprehensions and loops. -/
namespace DL
open PySem PyProof.Rows L2
section
variable {α β : Type}
@[simp] theorem q_bind (f : M α) (k : α → M β) (s : S) : mbind f k s = (f s).bind k := rfl
@[simp] theorem q_ok (a : α) (s : S) (k : α → M β) : (Res.ok a s).bind k = k a s := rfl
@[simp] theorem q_exc (c : Str) (fs : List (Str × D)) (s : S) (k : α → M β) : (Res.exc c fs s).bind k = .exc c fs s := rfl
@[simp] theorem q_ret (a : α) (s : S) : mret a s = .ok a s := rfl
@[simp] theorem q_opt (a : α) (s : S) : mopt (some a) s = .ok a s := rfl
@[simp] theorem q_sOf (f : M α) (k : α → S → Out) (s : S) : sOf f k s = (match f s with
  | .ok a s' => k a s'
  | .exc c fs s' => .exc c fs s'
  | .bad => .bad) := rfl
@[simp] theorem q_seq (f g : S → Out) (s : S) : sSeq f g s = (match f s with
  | .nx s' => g s'
  | o => o) := rfl
@[simp] theorem q_nx (s : S) : sNx s = .nx s := rfl
@[simp] theorem q_if (t : M Bool) (f g : S → Out) (s : S) : sIf t f g s = sOf t (fun b => if b = true then f else g) s := rfl
@[simp] theorem q_retS (f : M D) (s : S) : sRet f s = sOf f (fun d s => .rt (.val d) s) s := rfl
@[simp] theorem q_retO (f : M Cell) (s : S) : sRetO f s = sOf f (fun d s => .rt (.own d) s) s := rfl
@[simp] theorem q_retR (f : M RV) (s : S) : sRetR f s = sOf f (fun d s => .rt d s) s := rfl
@[simp] theorem q_drop (f : M D) (s : S) : sDrop f s = sOf f (fun d s => .nx s) s := rfl
@[simp] theorem q_set (i : Nat) (f : M D) (s : S) : sSet i f s = sOf f (fun d s => .nx (s.put i (.val d))) s := rfl
@[simp] theorem q_setO (i : Nat) (f : M Cell) (s : S) : sSetO i f s = sOf f (fun d s => .nx (s.put i (.own d))) s := rfl
@[simp] theorem q_put (sl : List Sl) (io : List Cell) (i : Nat) (x : Sl) : S.put ⟨sl, io⟩ i x = ⟨sl.set i x, io⟩ := rfl
@[simp] theorem q_bin (g : D → D → Option D) (fa fb : M D) (s : S) : bin g fa fb s = mbind fa (fun a => mbind fb fun b => mopt (g a b)) s := rfl
@[simp] theorem q_un (g : D → Option D) (fa : M D) (s : S) : un g fa s = mbind fa (fun a => mopt (g a)) s := rfl
@[simp] theorem q_asB (f : M D) (s : S) : asB f s = mbind f (fun d => mopt (dB d)) s := rfl
@[simp] theorem q_tru (f : M D) (s : S) : tru f s = mbind f (fun d => mopt (truD d)) s := rfl
@[simp] theorem q_aCons (fa : M D) (fs : M (List D)) (s : S) : aCons fa fs s = mbind fa (fun d => mbind fs fun ds => mret (d :: ds)) s := rfl
@[simp] theorem q_cal (g : List D → Option D) (fs : M (List D)) (s : S) : cal g fs s = mbind fs (fun ds => mopt (g ds)) s := rfl
@[simp] theorem q_eTup (fs : M (List D)) (s : S) : eTup fs s = mbind fs (fun ds => if ds.length ≤ LN then mret (.tup ds) else fun _ => .bad) s := rfl
@[simp] theorem q_eLst (fs : M (List D)) (s : S) : eLst fs s = mbind fs (fun ds => if ds.length ≤ LN then mret (.lst ds) else fun _ => .bad) s := rfl
@[simp] theorem q_oLst (fs : M (List D)) (s : S) : oLst fs s = mbind fs (fun ds => if ds.length ≤ LN then mret (.lst ds) else fun _ => .bad) s := rfl
@[simp] theorem q_tNot (t : M Bool) (s : S) : tNotB t s = mbind t (fun k => mret (!k)) s := rfl
@[simp] theorem q_tOr (ta tb : M Bool) (s : S) : tOrB ta tb s = mbind ta (fun k => if k = true then mret true else tb) s := rfl
@[simp] theorem q_tAnd (ta tb : M Bool) (s : S) : tAndB ta tb s = mbind ta (fun k => if k = true then tb else mret false) s := rfl
@[simp] theorem q_eIf (t : M Bool) (fa fb : M D) (s : S) : eIf t fa fb s = mbind t (fun k => if k = true then fa else fb) s := rfl
@[simp] theorem q_eAnd (fa fb : M D) (s : S) : eAnd fa fb s = mbind fa (fun d => mbind (mopt (truD d)) fun k => if k = true then fb else mret d) s := rfl
@[simp] theorem q_eOr (fa fb : M D) (s : S) : eOr fa fb s = mbind fa (fun d => mbind (mopt (truD d)) fun k => if k = true then mret d else fb) s := rfl
@[simp] theorem q_chain (g g' : D → D → Option D) (fa fb fc : M D) (s : S) : chain g g' fa fb fc s = mbind fa (fun a => mbind fb fun b => mbind (mopt (g a b)) fun t => mbind (mopt (dB t)) fun k => if k = true then mbind fc fun c => mopt (g' b c) else mret (.bl false)) s := rfl
@[simp] theorem q_dB (b : Bool) : dB (.bl b) = some b := rfl
@[simp] theorem q_truB (b : Bool) : truD (.bl b) = some b := rfl
@[simp] theorem q_notB (b : Bool) : notD (.bl b) = some (.bl (!b)) := rfl
@[simp] theorem q_cmpI (p : Int → Int → Bool) (i j : Int) : cmpI p (.int i) (.int j) = some (.bl (p i j)) := rfl
@[simp] theorem q_addI (i j : Int) : addD (.int i) (.int j) = some (.int (i + j)) := rfl
@[simp] theorem q_eqI (i j : Int) : eqD (.int i) (.int j) = some (.bl (decide (i = j))) := rfl
@[simp] theorem q_neI (i j : Int) : neD (.int i) (.int j) = some (.bl (!decide (i = j))) := rfl
@[simp] theorem q_eqS (i j : Str) : eqD (.str i) (.str j) = some (.bl (decide (i = j))) := rfl
@[simp] theorem q_neS (i j : Str) : neD (.str i) (.str j) = some (.bl (!decide (i = j))) := rfl
@[simp] theorem q_lenT (xs : List D) : lenC [.tup xs] = some (.int xs.length) := rfl
@[simp] theorem q_lenL (xs : List D) : lenC [.lst xs] = some (.int xs.length) := rfl
@[simp] theorem q_lenS (z : Str) : lenC [.str z] = if z.length ≤ LN then some (.int z.length) else none := by
  simp only [lenC, lenD]; split <;> rfl
@[simp] theorem q_int (i : Int) : intC [.int i] = some (.int i) := rfl
@[simp] theorem q_tupT (xs : List D) : tupC [.tup xs] = some (.tup xs) := rfl
@[simp] theorem q_tupL (xs : List D) : tupC [.lst xs] = some (.tup xs) := rfl
@[simp] theorem q_slotThen (i : Nat) (fb : M D) (g : D → D → Option D) (s : S) : slotThen i fb g s = mbind (mhas i) (fun _ => mbind fb fun k => mbind (mpeek i) fun d => mopt (g d k)) s := rfl
@[simp] theorem q_gVal (f : M D) (fs : M (List AV)) (s : S) : gVal f fs s = mbind f (fun d => mbind fs fun as => mret (.val d :: as)) s := rfl
@[simp] theorem q_gSl (i : Nat) (fs : M (List AV)) (s : S) : gSl i fs s = mbind (mcell i) (fun _ => mbind fs fun as => mret (.sl i :: as)) s := rfl
@[simp] theorem q_mcell (i : Nat) (s : S) : mcell i s = mopt (s.cell i) s := rfl
@[simp] theorem q_mpeek (i : Nat) (s : S) : mpeek i s = mopt (peekD s i) s := rfl
@[simp] theorem q_mCall (np : Nat) (r : Fn) (dds : List D) (fs : M (List AV)) (s : S) : mCall np r dds fs s = mbind fs (fun as => if as.length + dds.length = np then runFn r dds as else fun _ => .bad) s := rfl
@[simp] theorem q_mMeth (np : Nat) (r : Fn) (dds : List D) (fo : M AV) (fs : M (List AV)) (s : S) : mMeth np r dds fo fs s = mbind fo (fun o => mbind fs fun as => if as.length + dds.length + 1 = np then runFn r dds (o :: as) else fun _ => .bad) s := rfl
@[simp] theorem q_rD (f : M RV) (s : S) : rD f s = mbind f (fun rv => match rv with
  | .val d => mret d
  | .own c => mret c.d) s := rfl
@[simp] theorem q_rO (f : M RV) (s : S) : rO f s = mbind f (fun rv => match rv with
  | .val _ => fun _ => .bad
  | .own c => mret c) s := rfl
@[simp] theorem q_for (fi : M (List D)) (p : Pat) (f : S → Out) (s : S) : sFor fi p f s = sOf fi (fun ds => forD p f ds) s := rfl
@[simp] theorem q_iOf (f : M D) (s : S) : iOf f s = mbind f (fun d => mopt (walkD d)) s := rfl
@[simp] theorem q_walkT (xs : List D) : walkD (.tup xs) = some xs := rfl
@[simp] theorem q_walkL (xs : List D) : walkD (.lst xs) = some xs := rfl
@[simp] theorem q_walkS (z : Str) : walkD (.str z) = some (sgnD z) := rfl
@[simp] theorem q_iRng (k : List D → Option (List D)) (fs : M (List D)) (s : S) : iRng k fs s = mbind fs (fun ds => mopt (k ds)) s := rfl
@[simp] theorem q_iEnu (fs : M (List D)) (s : S) : iEnu fs s = mbind fs (fun ds => mopt ((listOf1 ds).map (enumFrom 0))) s := rfl
@[simp] theorem q_eLc (vs : List Nat) (fi : M (List D)) (p : Pat) (t : M Bool) (fe : M D) (s : S) : eLc vs fi p t fe s = mbind (eLcL vs fi p t fe) (fun ys => mret (.lst ys)) s := rfl
@[simp] theorem q_oLc (vs : List Nat) (fi : M (List D)) (p : Pat) (t : M Bool) (fe : M D) (s : S) : oLc vs fi p t fe s = mbind (eLcL vs fi p t fe) (fun ys => mret (Cell.lst ys)) s := rfl
@[simp] theorem q_mYes (s : S) : mYes s = .ok true s := rfl
@[simp] theorem q_cellL (ds : List D) : (Cell.lst ds).d = .lst ds := rfl
@[simp] theorem q_outRt (v : RV) (s : S) : outFR (.rt v s) = .rt v s.io := rfl
@[simp] theorem q_outNx (s : S) : outFR (.nx s) = .rt (.val .non) s.io := rfl
@[simp] theorem q_bind_nm (i : Nat) (d : D) (s : S) : (Pat.nm i).bind d s = some (s.put i (.val d)) := rfl
@[simp] theorem q_bind_tp (ps : Pats) (ds : List D) (s : S) : (Pat.tp ps).bind (.tup ds) s = ps.bind ds s := rfl
@[simp] theorem q_binds_nil (s : S) : Pats.nil.bind [] s = some s := rfl
@[simp] theorem q_binds_cons (p : Pat) (ps : Pats) (d : D) (ds : List D) (s : S) : (Pats.cons p ps).bind (d :: ds) s = (p.bind d s).bind fun s1 => ps.bind ds s1 := rfl
end
@[simp] theorem q_binP (g : D → D → Option D) (fa : M D) (i : Nat) (s : S) : binP g fa i s = mbind fa (fun d => mbind (mpeek i) fun e => mopt ((g d e).bind flatD)) s := rfl
/-! ### slots -/
@[simp] theorem q_var (i : Nat) (sl : List Sl) (io : List Cell) : eVar i ⟨sl, io⟩ = (match sl[i]? with
  | some (.val d) => .ok d ⟨sl, io⟩
  | some (.own c) => .ok c.d ⟨sl.set i (.val c.d), io⟩
  | _ => .bad) := rfl
@[simp] theorem q_peek (i : Nat) (sl : List Sl) (io : List Cell) : peekD ⟨sl, io⟩ i = (match sl[i]? with
  | some (.val d) => some d
  | some (.own c) => some c.d
  | some (.io j) => (io[j]?).map Cell.d
  | _ => none) := rfl
@[simp] theorem q_has (i : Nat) (s : S) : mhas i s = (match peekD s i with
  | some _ => .ok () s
  | none => .bad) := rfl
@[simp] theorem q_cell (i : Nat) (sl : List Sl) (io : List Cell) : S.cell ⟨sl, io⟩ i = (match sl[i]? with
  | some (.own c) => some c
  | some (.io j) => io[j]?
  | _ => none) := rfl
@[simp] theorem q_setCell (i : Nat) (c : Cell) (sl : List Sl) (io : List Cell) : S.setCell ⟨sl, io⟩ i c = (match sl[i]? with
  | some (.io j) => ⟨sl, io.set j c⟩
  | _ => ⟨sl.set i (.own c), io⟩) := by
  unfold S.setCell
  rfl
@[simp] theorem q_app (i : Nat) (f : M D) (s : S) : sApp i f s = sOf (mbind (mhas i) fun _ => mbind (fun s => mopt ((s.cell i).bind lstOf) s) fun _ => f) (fun d s => match (s.cell i).bind lstOf with
  | some ds => if ds.length < LN then .nx (s.setCell i (.lst (ds ++ [d]))) else .bad
  | none => .bad) s := rfl
@[simp] theorem q_bind_tl (ps : Pats) (ds : List D) (s : S) : (Pat.tl ps).bind (.lst ds) s = ps.bind ds s := rfl
@[simp] theorem q_bind_ix (i : Nat) (k : Int) (d : D) (s : S) : (Pat.ix i k).bind d s = (match s.cell i with
    | some (.lst ds) => (ixN ds.length k).map fun j => s.setCell i (.lst (ds.set j d))
    | _ => none) := rfl
@[simp] theorem q_asg (f : M D) (p : Pat) (s : S) : sAsg f p s = sOf f (fun d s => match p.bind d s with
  | some s' => .nx s'
  | none => .bad) s := rfl
@[simp] theorem q_setIx (i : Nat) (fk fe : M D) (s : S) : sSetIx i fk fe s = sOf fe (fun d => sOf (mbind (mcell i) fun _ => fk) fun k s => match s.cell i, k with
  | some (.lst ds), .int n => (match ixN ds.length n with
    | some j => .nx (s.setCell i (.lst (ds.set j d)))
    | none => .bad)
  | _, _ => .bad) s := rfl
@[simp] theorem q_lstOf (ds : List D) : lstOf (.lst ds) = some ds := rfl
/-! ### calls -/
theorem run_val {r : Fn} {dds ds : List D} {sl : List Sl} {io : List Cell} {v : RV} {io' : List Cell} (h : r ((ds ++ dds).map .val) [] = .rt v io') : runFn r dds (ds.map .val) ⟨sl, io⟩ = .ok v ⟨sl, io⟩ := by
  have g1 : ∀ ds : List D, gathI (ds.map .val) = [] := fun ds => by induction ds with
    | nil => rfl
    | cons d ds ih => simpa [gathI] using ih
  have g2 : ∀ (k : Nat) (ds : List D), gathA k (ds.map .val) = ds.map .val := fun k ds => by induction ds generalizing k with
    | nil => rfl
    | cons d ds ih => simp [gathA, ih]
  have g3 : ∀ (s : S) (cs : List Cell), putAll s [] cs = s := fun s cs => by cases cs <;> rfl
  simp only [runFn, g1, g2, cellsAt, apart, ← List.map_append, h, if_true, g3]
/-! ### comprehensions -/
theorem lcD_pure {α : Type} {vs : List Nat} {p : Pat} {t : M Bool} {fe : M D} {io : List Cell} {sl0 : List Sl} {e : α → D} (slB : α → List Sl) (q : α → Bool) (g : α → D) : (xs : List α) → (sl : List Sl) → (acc : List D) →
    wipeL vs 0 sl = sl0 → acc.length + xs.length ≤ LN →
    (∀ x ∈ xs, ∀ io', p.bind (e x) ⟨sl0, io'⟩ = some ⟨slB x, io'⟩) → (∀ x ∈ xs, ∀ c, t ⟨slB x, io ++ [c]⟩ = .ok (q x) ⟨slB x, io ++ [c]⟩) →
    (∀ x ∈ xs, q x = true → ∀ c, fe ⟨slB x, io ++ [c]⟩ = .ok (g x) ⟨slB x, io ++ [c]⟩) → (∀ x ∈ xs, wipeL vs 0 (slB x) = sl0) →
    ∃ sl', lcD vs p t fe (xs.map e) ⟨sl, io ++ [.lst acc]⟩ = some ⟨sl', io ++ [.lst (acc ++ (xs.filter q).map g)]⟩ ∧ wipeL vs 0 sl' = sl0 ∧ (sl' = sl ∨ ∃ x ∈ xs, sl' = slB x)
  | [], sl, acc, h0, hl, hb, ht, hf, hw => ⟨sl, by simp [lcD], h0, .inl rfl⟩
  | x :: xs, sl, acc, h0, hl, hb, ht, hf, hw => by
    have hb' := hb x (List.mem_cons_self ..)
    have ht' := ht x (List.mem_cons_self ..)
    simp only [List.map_cons, lcD, S.wipe, h0, hb', Option.bind_some, ht']
    cases hq : q x with
    | false =>
      obtain ⟨sl', e1, e2, e3⟩ := lcD_pure slB q g xs (slB x) acc (hw x (List.mem_cons_self ..)) (by simp at hl; omega) (fun y hy => hb y (.tail _ hy)) (fun y hy => ht y (.tail _ hy)) (fun y hy => hf y (.tail _ hy)) (fun y hy => hw y (.tail _ hy))
      refine ⟨sl', ?_, e2, ?_⟩
      · simp only [e1, List.filter_cons, hq]
        simp
      · rcases e3 with e3 | ⟨y, hy, e3⟩
        · exact .inr ⟨x, List.mem_cons_self .., e3⟩
        · exact .inr ⟨y, .tail _ hy, e3⟩
    | true =>
      obtain ⟨sl', e1, e2, e3⟩ := lcD_pure slB q g xs (slB x) (acc ++ [g x]) (hw x (List.mem_cons_self ..)) (by simp at hl ⊢; omega) (fun y hy => hb y (.tail _ hy)) (fun y hy => ht y (.tail _ hy)) (fun y hy => hf y (.tail _ hy)) (fun y hy => hw y (.tail _ hy))
      refine ⟨sl', ?_, e2, ?_⟩
      · have hlt : acc.length < LN := by simp at hl; omega
        simp only [hf x (List.mem_cons_self ..) hq, pushL, S.top, List.getLast?_append, List.getLast?_singleton, Option.some_or, hlt, if_true, List.dropLast_concat, Option.bind_some, e1, List.filter_cons, hq]
        simp
      · rcases e3 with e3 | ⟨y, hy, e3⟩
        · exact .inr ⟨x, List.mem_cons_self .., e3⟩
        · exact .inr ⟨y, .tail _ hy, e3⟩
theorem eLcL_pure {α : Type} {vs : List Nat} {fi : M (List D)} {p : Pat} {t : M Bool} {fe : M D} {s : S} {e : α → D} (xs : List α) (sl sl' : List Sl) (io : List Cell) (slB : α → List Sl) (q : α → Bool) (g : α → D)
    (hfi : fi s = .ok (xs.map e) ⟨sl, io⟩) (hl : xs.length ≤ LN)
    (hb : ∀ x ∈ xs, ∀ io', p.bind (e x) ⟨wipeL vs 0 sl, io'⟩ = some ⟨slB x, io'⟩) (ht : ∀ x ∈ xs, ∀ c, t ⟨slB x, io ++ [c]⟩ = .ok (q x) ⟨slB x, io ++ [c]⟩)
    (hf : ∀ x ∈ xs, q x = true → ∀ c, fe ⟨slB x, io ++ [c]⟩ = .ok (g x) ⟨slB x, io ++ [c]⟩) (hw : ∀ x ∈ xs, wipeL vs 0 (slB x) = wipeL vs 0 sl)
    (h0 : ioLt io.length sl = true) (hi : ∀ x ∈ xs, ioLt io.length (slB x) = true) (hs : backL vs 0 sl (wipeL vs 0 sl) = sl') :
    eLcL vs fi p t fe s = .ok ((xs.filter q).map g) ⟨sl', io⟩ := by
  subst hs
  obtain ⟨sl', e1, e2, e3⟩ := lcD_pure (io := io) slB q g xs sl [] rfl (by simpa using hl) hb ht hf hw
  have e4 : ioLt io.length sl' = true := by
    rcases e3 with e3 | ⟨y, hy, e3⟩
    · rw [e3]; exact h0
    · rw [e3]; exact hi y hy
  simp only [eLcL, mbind, hfi, Res.bind, S.more, e1, lcEnd, S.top, List.getLast?_append, List.getLast?_singleton, Option.some_or, e4, if_true, S.back, S.wipe, S.less, List.dropLast_concat, e2, List.nil_append]
/-! ### loops -/
theorem forD_inv {α : Type} {p : Pat} {f : S → Out} {e : α → D} (I : List α → S → Prop) : (xs pre : List α) → (s : S) → I pre s →
    (∀ pre' x post, pre ++ xs = pre' ++ x :: post → ∀ s, I pre' s → ∃ s1 s2, p.bind (e x) s = some s1 ∧ f s1 = .nx s2 ∧ I (pre' ++ [x]) s2) →
    ∃ s', forD p f (xs.map e) s = .nx s' ∧ I (pre ++ xs) s'
  | [], pre, s, h, _ => ⟨s, rfl, by simpa using h⟩
  | x :: xs, pre, s, h, hs => by
    obtain ⟨s1, s2, e1, e2, e3⟩ := hs pre x xs rfl s h
    obtain ⟨s', e4, e5⟩ := forD_inv I xs (pre ++ [x]) s2 e3 (fun pre' y post hh => hs pre' y post (by rw [← hh]; simp))
    exact ⟨s', by simp only [List.map_cons, forD, e1, e2, e4], by simpa using e5⟩
theorem p62 : (1001 : Int) ≤ 2 ^ 62 := by decide +kernel
theorem n62 : -(2 ^ 62) ≤ (0 : Int) := by decide +kernel
theorem rng1_nat (k : Nat) (h : k ≤ 1000) : rng1 [.int (k : Int)] = some (rngD 0 k) := by
  have hk0 : (0 : Int) ≤ (k : Int) := Int.natCast_nonneg k
  have hk1 : (k : Int) < 1001 := by omega
  have hk2 : (k : Int).toNat = k := Int.toNat_natCast k
  revert hk0 hk1 hk2
  generalize (k : Int) = j
  intro hk0 hk1 hk2
  unfold rng1
  dsimp only
  rw [if_pos ⟨Int.le_trans n62 hk0, Int.lt_of_lt_of_le hk1 p62⟩, hk2]
end DL
set_option maxHeartbeats 4000000
/-! Tools for the plain laws, 2: what is forgotten, loops by the walked beginning, dicts, calls. -/
namespace DL
open PySem PyProof.Rows L2
@[simp] theorem q_wipeO (vs : List Nat) (f : S → Out) (s : S) : wipeO vs f s = (match f s with
  | .nx s' => .nx (s'.wipe vs)
  | .ct s' => .ct (s'.wipe vs)
  | .bk s' => .bk (s'.wipe vs)
  | .rt v s' => .rt v s'
  | .exc c fs s' => .exc c fs s'
  | .bad => .bad) := rfl
@[simp] theorem q_iWipe (vs : List Nat) (fi : M (List D)) (s : S) : iWipe vs fi s = mbind fi (fun ds s => .ok ds (s.wipe vs)) s := rfl
@[simp] theorem q_forW (vs : List Nat) (fi : M (List D)) (p : Pat) (f : S → Out) (s : S) : sForW vs fi p f s = sOf (iWipe vs fi) (fun ds => forD p (wipeO vs f) ds) s := rfl
@[simp] theorem q_wipeS (vs : List Nat) (sl : List Sl) (io : List Cell) : S.wipe ⟨sl, io⟩ vs = ⟨wipeL vs 0 sl, io⟩ := rfl
@[simp] theorem q_augV (i : Nat) (g : D → D → Option D) (fe : M D) (s : S) : sAugV i g fe s = (match s.sl[i]? with
  | some (.val a) => sOf fe (fun y s => match g a y with
    | some d => .nx (s.put i (.val d))
    | none => .bad) s
  | _ => .bad) := by
  unfold sAugV; rfl
@[simp] theorem q_calL (g : List D → Option (List D)) (fs : M (List D)) (s : S) : calL g fs s = mbind fs (fun ds => mbind (mopt (g ds)) fun xs => mret (.lst xs)) s := rfl
@[simp] theorem q_calN (g : List D → Option (List D)) (fs : M (List D)) (s : S) : calN g fs s = mbind fs (fun ds => mbind (mopt (g ds)) fun xs => mret (Cell.lst xs)) s := rfl
@[simp] theorem q_aStar (fa : M D) (fs : M (List D)) (s : S) : aStar fa fs s = mbind fa (fun d => mbind (mopt (itemsT d)) fun xs => mbind fs fun ds => mret (xs ++ ds)) s := rfl
@[simp] theorem q_itemsL (xs : List D) : itemsT (.lst xs) = some xs := rfl
@[simp] theorem q_itemsT (xs : List D) : itemsT (.tup xs) = some xs := rfl
@[simp] theorem q_metS (g : Str → List D → Option D) (fo : M D) (fs : M (List D)) (s : S) : metS g fo fs s = mbind fo (fun d => mbind (mopt (txt d)) fun z => mbind fs fun ds => mopt (g z ds)) s := rfl
@[simp] theorem q_txt (z : Str) : txt (.str z) = some z := rfl
@[simp] theorem q_cellD (c : Cell) : (match c with
  | .lst ds => D.lst ds
  | .ins c fs => .ins c fs
  | .dic kvs => .dic kvs
  | .tdc kvs => .tdc kvs) = c.d := by cases c <;> rfl
theorem cdL (ds : List D) : (Cell.lst ds).d = .lst ds := rfl
theorem cdI (c : Str) (fs : List (Str × D)) : (Cell.ins c fs).d = .ins c fs := rfl
theorem cdK (kvs : List (D × D)) : (Cell.dic kvs).d = .dic kvs := rfl
@[simp] theorem q_frzO (i : Nat) (f : S → Out) (s : S) : frzO i f s = (match f s with
  | .nx s' => .nx (s'.frz i)
  | o => o) := rfl
@[simp] theorem q_frz (i : Nat) (sl : List Sl) (io : List Cell) : S.frz ⟨sl, io⟩ i = (match sl[i]? with
  | some (.own c) => ⟨sl.set i (.val c.d), io⟩
  | _ => ⟨sl, io⟩) := rfl
@[simp] theorem q_sRetN (s : S) : sRetN s = .rt (.val .non) s := rfl
/-! ### calls by values -/
theorem run1 {r : Fn} {a : D} {v : RV} {io' : List Cell} (h : r [.val a] [] = .rt v io') (s : S) : runFn r [] [.val a] s = .ok v s := run_val (ds := [a]) (dds := []) h
theorem run2 {r : Fn} {a b : D} {v : RV} {io' : List Cell} (h : r [.val a, .val b] [] = .rt v io') (s : S) : runFn r [] [.val a, .val b] s = .ok v s := run_val (ds := [a, b]) (dds := []) h
theorem run3 {r : Fn} {a b c : D} {v : RV} {io' : List Cell} (h : r [.val a, .val b, .val c] [] = .rt v io') (s : S) : runFn r [] [.val a, .val b, .val c] s = .ok v s := run_val (ds := [a, b, c]) (dds := []) h
theorem putAll_nil (s : S) (cs : List Cell) : putAll s [] cs = s := by cases cs <;> rfl
/-- a new instance made of values -/
theorem make_val {cn : Str} {r : Fn} {ds : List D} {c : Cell} {io' : List Cell} (h : r (.io 0 :: ds.map .val) [.ins cn []] = .rt (.val .non) (c :: io')) (s : S) : runMake cn r [] (ds.map .val) s = .ok (.own c) s := by
  have g1 : ∀ ds : List D, gathI (ds.map .val) = [] := fun ds => by induction ds with
    | nil => rfl
    | cons d ds ih => simpa [gathI] using ih
  have g2 : ∀ (k : Nat) (ds : List D), gathA k (ds.map .val) = ds.map .val := fun k ds => by induction ds generalizing k with
    | nil => rfl
    | cons d ds ih => simp [gathA, ih]
  simp only [runMake, g1, g2, cellsAt, apart, List.map_nil, List.append_nil, h, if_true, putAll_nil]
theorem make1 {cn : Str} {r : Fn} {a : D} {c : Cell} {io' : List Cell} (h : r [.io 0, .val a] [.ins cn []] = .rt (.val .non) (c :: io')) (s : S) : runMake cn r [] [.val a] s = .ok (.own c) s := make_val (ds := [a]) h s
@[simp] theorem q_mMake (np : Nat) (cn : Str) (r : Fn) (dds : List D) (fs : M (List AV)) (s : S) : mMake np cn r dds fs s = mbind fs (fun as => if as.length + dds.length + 1 = np then runMake cn r dds as else fun _ => .bad) s := rfl
@[simp] theorem q_mMakeK (nk np : Nat) (cn : Str) (r : Fn) (idx : List Nat) (fs : M (List AV)) (s : S) : mMakeK nk np cn r idx fs s = mbind fs (fun as => if as.length = nk ∧ (permL idx as).length + 1 = np then runMake cn r [] (permL idx as) else fun _ => .bad) s := rfl
@[simp] theorem q_mMakeN (n m np : Nat) (cn : Str) (r : Fn) (idx : List Nat) (dds : List D) (fs gs : M (List AV)) (s : S) : mMakeN n m np cn r idx dds fs gs s = mbind fs (fun as => mbind gs fun bs =>
  if as.length = n ∧ bs.length = m ∧ (permL idx (as ++ (bs ++ dds.map .val))).length + 1 = np then runMake cn r [] (permL idx (as ++ (bs ++ dds.map .val))) else fun _ => .bad) s := rfl
@[simp] theorem q_mCallK (nk np : Nat) (r : Fn) (idx : List Nat) (fs : M (List AV)) (s : S) : mCallK nk np r idx fs s = mbind fs (fun as => if as.length = nk ∧ (permL idx as).length = np then runFn r [] (permL idx as) else fun _ => .bad) s := rfl
@[simp] theorem q_mMethK (nk np : Nat) (r : Fn) (idx : List Nat) (fo : M AV) (fs : M (List AV)) (s : S) : mMethK nk np r idx fo fs s = mbind fo (fun o => mbind fs fun as => if as.length = nk ∧ (permL idx as).length + 1 = np then runFn r [] (o :: permL idx as) else fun _ => .bad) s := rfl
@[simp] theorem q_prop (r : Fn) (fo : M AV) (s : S) : mProp r fo s = mbind fo (fun o => noExc (runFn r [] [o])) s := rfl
@[simp] theorem q_noExc {α : Type} (f : M α) (s : S) : noExc f s = (match f s with
  | .ok a s' => .ok a s'
  | _ => .bad) := rfl
@[simp] theorem q_recvD (cn m : Str) (fo : M D) (s : S) : recvD cn m fo s = mbind fo (fun d => if insOf cn m d = true then mret (.val d) else fun _ => .bad) s := rfl
@[simp] theorem q_recvS (cn m : Str) (i : Nat) (s : S) : recvS cn m i s = mbind (mcell i) (fun c => if insOf cn m c.d = true then mret (.sl i) else fun _ => .bad) s := rfl
@[simp] theorem q_eqO (cs : List Str) (cn : Str) (r : Fn) (ng : Bool) (fa fb : M D) (s : S) : mEqO cs cn r ng fa fb s = mbind fa (fun a => mbind (mopt (insAt cn a)) fun _ => mbind fb fun b => mbind (mopt (tyA cs b)) fun _ => mbind (runFn r [] [.val a, .val b]) fun rv => match rv with
  | .val (.bl k) => mret (.bl (if ng then !k else k))
  | _ => fun _ => .bad) s := rfl
@[simp] theorem q_strO (cn : Str) (r : Fn) (fa : M D) (s : S) : mStrO cn r fa s = mbind fa (fun a => mbind (mopt (insAt cn a)) fun _ => mbind (runFn r [] [.val a]) fun rv => match rv with
  | .val (.str z) => mret (.str z)
  | _ => fun _ => .bad) s := rfl
@[simp] theorem q_perm_nil {α : Type} (as : List α) : permL [] as = [] := rfl
@[simp] theorem q_perm_cons {α : Type} (i : Nat) (idx : List Nat) (as : List α) : permL (i :: idx) as = (match as[i]? with
  | some a => a :: permL idx as
  | none => permL idx as) := by
  unfold permL
  rw [List.filterMap_cons]
  cases as[i]? <;> rfl
@[simp] theorem q_setF (i : Nat) (cn f : Str) (fe : M D) (s : S) : sSetF i cn f fe s = sOf fe (fun d s => match s.cell i with
  | some (.ins c fs) => if c = cn ∧ fs.length < 1000 then .nx (s.setCell i (.ins c (putD f d fs))) else .bad
  | _ => .bad) s := by
  unfold sSetF; rfl
/-! ### loops -/
/-- a loop that leaves the state as it was, or ends -/
theorem forD_same {α : Type} {p : Pat} {f : S → Out} (e : α → D) (s : S) (xs : List α) (h : ∀ x ∈ xs, ∃ s1, p.bind (e x) s = some s1 ∧ f s1 = .nx s) : forD p f (xs.map e) s = .nx s := by
  induction xs with
  | nil => rfl
  | cons x xs ih =>
    obtain ⟨s1, e1, e2⟩ := h x List.mem_cons_self
    simp only [List.map_cons, forD, e1, e2]
    exact ih fun y hy => h y (.tail _ hy)
/-- the state with things that are drawn: a loop over which something is carried along -/
theorem forD_any {α : Type} {p : Pat} {f : S → Out} (e : α → D) (I : List α → S → Prop) (xs : List α) (s : S) (h0 : I [] s)
    (h : ∀ pre x post, xs = pre ++ x :: post → ∀ s, I pre s → ∃ s1 s2, p.bind (e x) s = some s1 ∧ f s1 = .nx s2 ∧ I (pre ++ [x]) s2) : ∃ s', forD p f (xs.map e) s = .nx s' ∧ I xs s' := by
  have := forD_inv (p := p) (f := f) (e := e) I xs [] s h0 (fun pre x post hp s hs => h pre x post (by simpa using hp) s hs)
  simpa using this
/-! ### while -/
/-! ### comprehensions -/
/-- [fe for p in fi], all pure -/
theorem lc_all {α : Type} {vs : List Nat} {fi : M (List D)} {p : Pat} {fe : M D} {s : S} (xs : List α) (e g : α → D) {sl : List Sl} {io : List Cell} {slB : α → List Sl}
    (hfi : fi s = .ok (xs.map e) ⟨sl, io⟩) (hl : xs.length ≤ LN) (hb : ∀ x ∈ xs, ∀ io', p.bind (e x) ⟨wipeL vs 0 sl, io'⟩ = some ⟨slB x, io'⟩)
    (hf : ∀ x ∈ xs, ∀ c, fe ⟨slB x, io ++ [c]⟩ = .ok (g x) ⟨slB x, io ++ [c]⟩) (hw : ∀ x ∈ xs, wipeL vs 0 (slB x) = wipeL vs 0 sl)
    (h0 : ioLt io.length sl = true) (hi : ∀ x ∈ xs, ioLt io.length (slB x) = true) :
    eLcL vs fi p mYes fe s = .ok (xs.map g) ⟨backL vs 0 sl (wipeL vs 0 sl), io⟩ := by
  have := eLcL_pure (t := mYes) xs sl _ io slB (fun _ => true) g hfi hl hb (fun _ _ _ => rfl) (fun x hx _ => hf x hx) hw h0 hi rfl
  rw [this]
  congr 2
  simp
@[simp] theorem q_wipeL_nil (vs : List Nat) (k : Nat) : wipeL vs k [] = [] := rfl
@[simp] theorem q_wipeL_cons (vs : List Nat) (k : Nat) (x : Sl) (r : List Sl) : wipeL vs k (x :: r) = (if vs.contains k then .no else x) :: wipeL vs (k + 1) r := rfl
@[simp] theorem q_backL_nil (vs : List Nat) (k : Nat) : backL vs k [] [] = [] := rfl
@[simp] theorem q_backL_cons (vs : List Nat) (k : Nat) (x y : Sl) (r r' : List Sl) : backL vs k (x :: r) (y :: r') = (if vs.contains k then x.keep else y) :: backL vs (k + 1) r r' := rfl
@[simp] theorem q_keep_no : Sl.keep .no = .no := rfl
@[simp] theorem q_keep_val (d : D) : Sl.keep (.val d) = .val d := rfl
@[simp] theorem q_ioLt_nil (n : Nat) : ioLt n [] = true := rfl
@[simp] theorem q_ioLt_io (n j : Nat) (r : List Sl) : ioLt n (.io j :: r) = (decide (j < n) && ioLt n r) := rfl
@[simp] theorem q_ioLt_no (n : Nat) (r : List Sl) : ioLt n (.no :: r) = ioLt n r := rfl
@[simp] theorem q_ioLt_val (n : Nat) (d : D) (r : List Sl) : ioLt n (.val d :: r) = ioLt n r := rfl
@[simp] theorem q_ioLt_own (n : Nat) (c : Cell) (r : List Sl) : ioLt n (.own c :: r) = ioLt n r := rfl
theorem ln_small {n : Nat} (h : n ≤ 1000) : n ≤ LN := Nat.le_trans h (by decide)
/-! ### statement by statement -/
theorem seq_nx {f g : S → Out} {s s1 : S} {o : Out} (h : f s = .nx s1) (k : g s1 = o) : sSeq f g s = o := by rw [q_seq, h]; exact k
theorem seq_rt {f g : S → Out} {s s1 : S} {v : RV} (h : f s = .rt v s1) : sSeq f g s = .rt v s1 := by rw [q_seq, h]
theorem for_of {ws : List Nat} {fi : M (List D)} {p : Pat} {f : S → Out} {s s1 : S} {ds : List D} {o : Out} (h : fi s = .ok ds s1) (k : forD p (wipeO ws f) ds (s1.wipe ws) = o) : sForW ws fi p f s = o := by
  rw [q_forW, q_sOf, q_iWipe, q_bind, h]; exact k
theorem fn_of {n : Nat} {b : S → Out} {as : List Sl} {io : List Cell} {v : RV} {s1 : S} (h : b ⟨as ++ List.replicate (n - as.length) .no, io⟩ = .rt v s1) : bodyFn n b as io = .rt v s1.io := by
  show outFR (b _) = _
  rw [h]
  rfl
/-! ### texts that are written -/
@[simp] theorem ofS_inj (a b : String) : (Str.ofString a = Str.ofString b) = (a = b) := by
  refine propext ⟨fun h => ?_, fun h => by rw [h]⟩
  rw [Str.ofString_eq_toList, Str.ofString_eq_toList] at h
  have h1 : (a.toList.map Char.toNat).toArray = (b.toList.map Char.toNat).toArray := by injection h
  have h2 : a.toList.map Char.toNat = b.toList.map Char.toNat := by simpa using congrArg Array.toList h1
  have h3 : a.toList = b.toList := by
    revert h2
    generalize a.toList = l
    generalize b.toList = m
    intro h2
    induction l generalizing m with
    | nil => cases m with
      | nil => rfl
      | cons _ _ => cases h2
    | cons x l ih => cases m with
      | nil => cases h2
      | cons y m =>
        rw [List.map_cons, List.map_cons] at h2
        injection h2 with e1 e2
        rw [ih m e2, show x = y from Char.ext (UInt32.toNat_inj.mp e1)]
  exact String.toList_inj.mp h3
@[simp] theorem isi_int_int (cs : List Str) (i : Int) : isiT cs (.int i) (.ty "int") = some true := rfl
@[simp] theorem isi_int_bool (cs : List Str) (i : Int) : isiT cs (.int i) (.ty "bool") = some false := rfl
@[simp] theorem isi_int_str (cs : List Str) (i : Int) : isiT cs (.int i) (.ty "str") = some false := rfl
@[simp] theorem isi_int_tup (cs : List Str) (i : Int) : isiT cs (.int i) (.ty "tuple") = some false := rfl
@[simp] theorem isi_bl_int (cs : List Str) (i : Bool) : isiT cs (.bl i) (.ty "int") = some true := rfl
@[simp] theorem isi_bl_bool (cs : List Str) (i : Bool) : isiT cs (.bl i) (.ty "bool") = some true := rfl
@[simp] theorem isi_bl_str (cs : List Str) (i : Bool) : isiT cs (.bl i) (.ty "str") = some false := rfl
@[simp] theorem isi_bl_tup (cs : List Str) (i : Bool) : isiT cs (.bl i) (.ty "tuple") = some false := rfl
@[simp] theorem isi_str_int (cs : List Str) (i : Str) : isiT cs (.str i) (.ty "int") = some false := rfl
@[simp] theorem isi_str_bool (cs : List Str) (i : Str) : isiT cs (.str i) (.ty "bool") = some false := rfl
@[simp] theorem isi_str_str (cs : List Str) (i : Str) : isiT cs (.str i) (.ty "str") = some true := rfl
@[simp] theorem isi_str_tup (cs : List Str) (i : Str) : isiT cs (.str i) (.ty "tuple") = some false := rfl
@[simp] theorem isi_non_int (cs : List Str) : isiT cs .non (.ty "int") = some false := rfl
@[simp] theorem isi_non_bool (cs : List Str) : isiT cs .non (.ty "bool") = some false := rfl
@[simp] theorem isi_non_str (cs : List Str) : isiT cs .non (.ty "str") = some false := rfl
@[simp] theorem isi_non_tup (cs : List Str) : isiT cs .non (.ty "tuple") = some false := rfl
@[simp] theorem isi_tup_tup (cs : List Str) (xs : List D) : isiT cs (.tup xs) (.ty "tuple") = some true := rfl
@[simp] theorem isi_tup_int (cs : List Str) (xs : List D) : isiT cs (.tup xs) (.ty "int") = some false := rfl
@[simp] theorem isi_tup_str (cs : List Str) (xs : List D) : isiT cs (.tup xs) (.ty "str") = some false := rfl
@[simp] theorem isi_lst_tup (cs : List Str) (xs : List D) : isiT cs (.lst xs) (.ty "tuple") = some false := rfl
@[simp] theorem isi_C (cs : List Str) (d e : D) : isiC cs [d, e] = (isiT cs d e).map .bl := rfl
@[simp] theorem isD_non : isD .non .non = some (.bl true) := rfl
@[simp] theorem is_int_non (i : Int) : isD (.int i) .non = some (.bl false) := rfl
@[simp] theorem is_str_non (i : Str) : isD (.str i) .non = some (.bl false) := rfl
@[simp] theorem is_tup_non (i : List D) : isD (.tup i) .non = some (.bl false) := rfl
@[simp] theorem isnt_non : isntD .non .non = some (.bl false) := rfl
@[simp] theorem isnt_int_non (i : Int) : isntD (.int i) .non = some (.bl true) := rfl
@[simp] theorem isnt_str_non (i : Str) : isntD (.str i) .non = some (.bl true) := rfl
@[simp] theorem isnt_tup_non (i : List D) : isntD (.tup i) .non = some (.bl true) := rfl
end DL
set_option maxHeartbeats 4000000
/-! Tools for the plain laws, 3: texts in lists, small data. -/
namespace DL
open PySem PyProof.Rows L2
/-! texts in lists -/
theorem eqv_str (x y : Str) : PyData.eqv (.str x) (.str y) = decide (x = y) := by
  simp only [PyData.eqv]; rfl
theorem any_str (x : Str) : (ns : List Str) → (ns.map D.str).any (fun z => PyData.eqv z.py (D.str x).py) = decide (x ∈ ns)
  | [] => by simp
  | n :: ns => by
    rw [List.map_cons, List.any_cons, any_str x ns]
    simp only [D.py, eqv_str]
    by_cases h : n = x
    · subst h; simp
    · have h' : ¬ x = n := fun e => h e.symm
      simp [h, h']
theorem oks_str (k : Nat) : (ns : List Str) → (∀ x ∈ ns, PyData.strOk x = true) → D.oks k (ns.map D.str) = true
  | [], _ => by simp [D.oks]
  | n :: ns, h => by
    have h1 := h n (List.mem_cons_self ..)
    have h2 := oks_str k ns fun x hx => h x (.tail _ hx)
    cases k <;> simp [D.oks, D.ok, h1, h2]
theorem in_strs {x : Str} {ns : List Str} (hx : PyData.strOk x = true) (hn : ∀ x ∈ ns, PyData.strOk x = true) : inD (.str x) (.lst (ns.map .str)) = some (.bl (decide (x ∈ ns))) := by
  simp only [inD, D.ok, hx, oks_str 9 ns hn, Bool.and_true, if_true, any_str]
theorem notIn_strs {x : Str} {ns : List Str} (hx : PyData.strOk x = true) (hn : ∀ x ∈ ns, PyData.strOk x = true) : notInD (.str x) (.lst (ns.map .str)) = some (.bl (!decide (x ∈ ns))) := by
  simp only [notInD, D.ok, hx, oks_str 9 ns hn, Bool.and_true, if_true, any_str]
/-! small data -/
mutual
def D.sm : Nat → D → Bool
  | _, .non => true
  | _, .bl _ => true
  | _, .int i => decide (-999999999999 ≤ i) && decide (i ≤ 999999999999)
  | _, .str x => x.cps.toList.all fun c => decide (c < 1114112)
  | n + 1, .tup xs => D.sms n xs
  | n + 1, .lst xs => D.sms n xs
  | _, _ => false
def D.sms : Nat → List D → Bool
  | _, [] => true
  | n, x :: xs => D.sm n x && D.sms n xs
end
mutual
def D.bk : D → Nat
  | .str x => x.length
  | .tup xs => D.bks xs
  | .lst xs => D.bks xs
  | _ => 0
def D.bks : List D → Nat
  | [] => 0
  | x :: xs => D.bk x + 1 + D.bks xs
end
theorem strOk_of {x : Str} (h : x.cps.toList.all (fun c => decide (c < 1114112)) = true) : PyData.strOk x = true := by
  simp only [PyData.strOk, ← Array.all_toList]
  exact h
mutual
theorem sm_ok : (d : D) → (n m : Nat) → n ≤ m → d.sm n = true → d.ok m = true ∧ d.py.showable = true ∧ d.py.leavesShort 13 = true ∧ d.py.bulk = d.bk
  | .non, n, m, hm, h => by cases m <;> exact ⟨by simp [D.ok], rfl, rfl, rfl⟩
  | .bl b, n, m, hm, h => by
    cases m <;> exact ⟨by simp [D.ok], rfl, by simp [D.py, PyData.leavesShort], rfl⟩
  | .int i, n, m, hm, h => by
    have h' : -999999999999 ≤ i ∧ i ≤ 999999999999 := by cases n <;> simpa [D.sm] using h
    have h2 : (PyData.shown (.int i)).length ≤ 13 := PyData.shown_int_le2 h'.1 h'.2
    have h3 : i.natAbs.log2 < 1920 := by
      have : i.natAbs < 2 ^ 1920 := Nat.lt_of_lt_of_le (by omega : i.natAbs < 2 ^ 64) (Nat.pow_le_pow_right (by decide) (by decide))
      by_cases hz : i.natAbs = 0
      · rw [hz]; decide
      · exact (Nat.log2_lt hz).mpr this
    cases m <;> exact ⟨by simp [D.ok], by simp [D.py, PyData.showable, h3], by simp [D.py, PyData.leavesShort, h2], rfl⟩
  | .str x, n, m, hm, h => by
    have h' : (x.cps.toList.all fun c => decide (c < 1114112)) = true := by cases n <;> simpa only [D.sm] using h
    have h2 := strOk_of h'
    have h3 : ∀ c ∈ x.cps.toList, c < 16 ^ 8 := fun c hc => by
      have := List.all_eq_true.mp h' c hc
      simp at this
      omega
    cases m <;> exact ⟨by simp [D.ok, h2], rfl, by simp only [D.py, PyData.leavesShort, List.all_eq_true, decide_eq_true_eq]; exact h3, rfl⟩
  | .tup xs, n, m, hm, h => by
    cases n with
    | zero => simp [D.sm] at h
    | succ n =>
      cases m with
      | zero => omega
      | succ m =>
        obtain ⟨a, b, c, d⟩ := sms_ok xs n m (by omega) (by simpa [D.sm] using h)
        exact ⟨by simpa [D.ok] using a, by simpa [D.py, PyData.showable] using b, by simpa [D.py, PyData.leavesShort] using c, by simpa [D.py, PyData.bulk, D.bk] using d⟩
  | .lst xs, n, m, hm, h => by
    cases n with
    | zero => simp [D.sm] at h
    | succ n =>
      cases m with
      | zero => omega
      | succ m =>
        obtain ⟨a, b, c, d⟩ := sms_ok xs n m (by omega) (by simpa [D.sm] using h)
        exact ⟨by simpa [D.ok] using a, by simpa [D.py, PyData.showable] using b, by simpa [D.py, PyData.leavesShort] using c, by simpa [D.py, PyData.bulk, D.bk] using d⟩
  | .ty _, n, m, hm, h => by cases n <;> simp [D.sm] at h
  | .glo _, n, m, hm, h => by cases n <;> simp [D.sm] at h
  | .ins _ _, n, m, hm, h => by cases n <;> simp [D.sm] at h
  | .dic _, n, m, hm, h => by cases n <;> simp [D.sm] at h
theorem sms_ok : (ds : List D) → (n m : Nat) → n ≤ m → D.sms n ds = true → D.oks m ds = true ∧ PyData.showableAll (D.pys ds) = true ∧ PyData.leavesShortAll 13 (D.pys ds) = true ∧ PyData.bulkAll (D.pys ds) = D.bks ds
  | [], n, m, hm, h => by simp [D.oks, D.pys, PyData.showableAll, PyData.leavesShortAll, PyData.bulkAll, D.bks]
  | x :: xs, n, m, hm, h => by
    have h' : x.sm n = true ∧ D.sms n xs = true := by simpa [D.sms] using h
    obtain ⟨a, b, c, d⟩ := sm_ok x n m hm h'.1
    obtain ⟨a', b', c', d'⟩ := sms_ok xs n m hm h'.2
    exact ⟨by simp [D.oks, a, a'], by simp [D.pys, PyData.showableAll, b, b'], by simp [D.pys, PyData.leavesShortAll, c, c'], by simp [D.pys, PyData.bulkAll, D.bks, d, d']⟩
end
theorem repr_sm {d : D} (h : d.sm 10 = true) (hb : d.bk ≤ 60000) : reprC [d] = some (.str d.py.shown) := by
  obtain ⟨h1, h2, h3, h4⟩ := sm_ok d 10 10 (by decide) h
  have h5 := PyData.shown_le_bulk 13 (by decide) d.py h3
  have h6 : d.py.shown.length ≤ LN := by
    rw [h4] at h5
    simp only [LN]
    omega
  simp only [reprC, h1, h2, h6, decide_true, Bool.and_true, if_true]
theorem sms_all {n : Nat} : (ds : List D) → (∀ d ∈ ds, d.sm n = true) → D.sms n ds = true
  | [], _ => by simp [D.sms]
  | d :: ds, h => by simp [D.sms, h d (List.mem_cons_self ..), sms_all ds fun x hx => h x (.tail _ hx)]
theorem bks_le {c : Nat} : (ds : List D) → (∀ d ∈ ds, d.bk ≤ c) → D.bks ds ≤ ds.length * (c + 1)
  | [], _ => by simp [D.bks]
  | d :: ds, h => by
    have h1 := h d (List.mem_cons_self ..)
    have h2 := bks_le ds fun x hx => h x (.tail _ hx)
    simp only [D.bks, List.length_cons, Nat.add_mul]
    omega
/-! texts that are written -/
@[simp] theorem ofS_ok (a : String) : PyData.strOk (Str.ofString a) = true := by
  refine strOk_of (List.all_eq_true.mpr fun c hc => ?_)
  rw [Str.ofString_eq_toList] at hc
  obtain ⟨x, _, rfl⟩ := List.mem_map.mp (by simpa using hc)
  have := x.valid
  simp only [decide_eq_true_eq]
  have h2 : x.toNat < 1114112 := by
    rcases this with h | ⟨_, h⟩
    · have : x.toNat = x.val.toNat := rfl
      omega
    · have : x.toNat = x.val.toNat := rfl
      omega
  exact h2
def strB : D → Bool
  | .str y => PyData.strOk y
  | _ => false
@[simp] theorem strB_s (y : Str) : strB (.str y) = PyData.strOk y := rfl
@[simp] theorem sameK_s (x y : Str) : sameK (.str x) (.str y) = decide (x = y) := rfl
theorem any_strB (x : Str) : (ds : List D) → ds.all strB = true → ds.any (fun z => PyData.eqv z.py (D.str x).py) = ds.any (sameK (.str x))
  | [], _ => rfl
  | d :: ds, h => by
    simp only [List.all_cons, Bool.and_eq_true] at h
    rw [List.any_cons, List.any_cons, any_strB x ds h.2]
    cases d with
    | str y =>
      simp only [D.py, eqv_str, sameK_s]
      congr 1
      exact decide_eq_decide.mpr ⟨fun e => e.symm, fun e => e.symm⟩
    | _ => cases h.1
theorem oks_strB (k : Nat) : (ds : List D) → ds.all strB = true → D.oks k ds = true
  | [], _ => by simp [D.oks]
  | d :: ds, h => by
    simp only [List.all_cons, Bool.and_eq_true] at h
    have h2 := oks_strB k ds h.2
    cases d with
    | str y => have := h.1; simp only [strB_s] at this; cases k <;> simp [D.oks, D.ok, this, h2]
    | _ => cases h.1
theorem in_lstS {x : Str} {ds : List D} (hx : PyData.strOk x = true) (hd : ds.all strB = true) : inD (.str x) (.lst ds) = some (.bl (ds.any (sameK (.str x)))) := by
  simp only [inD, D.ok, hx, oks_strB 9 ds hd, Bool.and_true, if_true, any_strB x ds hd]
/-! == of small data -/
@[simp] theorem eqv_II (i j : Int) : PyData.eqv (.int i) (.int j) = decide (i = j) := by simp only [PyData.eqv]; rfl
@[simp] theorem eqv_BB (i j : Bool) : PyData.eqv (.bool i) (.bool j) = decide (i = j) := by simp only [PyData.eqv]; cases i <;> cases j <;> rfl
@[simp] theorem eqv_SS (x y : Str) : PyData.eqv (.str x) (.str y) = decide (x = y) := eqv_str x y
@[simp] theorem eqv_NN : PyData.eqv .none .none = true := by simp only [PyData.eqv]
@[simp] theorem eqv_NI (i : Int) : PyData.eqv .none (.int i) = false := by simp only [PyData.eqv]
@[simp] theorem eqv_IN (i : Int) : PyData.eqv (.int i) .none = false := by simp only [PyData.eqv]
@[simp] theorem eqv_TT (xs ys : List PyData) : PyData.eqv (.tuple xs) (.tuple ys) = PyData.eqvAll xs ys := by simp only [PyData.eqv]
@[simp] theorem eqv_LL (xs ys : List PyData) : PyData.eqv (.list xs) (.list ys) = PyData.eqvAll xs ys := by simp only [PyData.eqv]
@[simp] theorem eqv_nil : PyData.eqvAll [] [] = true := by simp only [PyData.eqvAll]
@[simp] theorem eqv_cons (x y : PyData) (xs ys : List PyData) : PyData.eqvAll (x :: xs) (y :: ys) = (PyData.eqv x y && PyData.eqvAll xs ys) := by simp only [PyData.eqvAll]
@[simp] theorem eqv_nc (y : PyData) (ys : List PyData) : PyData.eqvAll [] (y :: ys) = false := by simp only [PyData.eqvAll]
@[simp] theorem eqv_cn (x : PyData) (xs : List PyData) : PyData.eqvAll (x :: xs) [] = false := by simp only [PyData.eqvAll]
theorem eqD_ok {d e : D} (hd : d.ok 10 = true) (he : e.ok 10 = true) : eqD d e = some (.bl (PyData.eqv d.py e.py)) := by
  unfold eqD
  split
  · simp [D.py]
  · simp [D.py]
  · rw [hd, he]; rfl
theorem neD_ok {d e : D} (hd : d.ok 10 = true) (he : e.ok 10 = true) : neD d e = some (.bl (!PyData.eqv d.py e.py)) := by
  unfold neD
  split
  · simp [D.py]
  · simp [D.py]
  · rw [hd, he]; rfl
theorem sm_ok10 {d : D} (h : d.sm 10 = true) : d.ok 10 = true := (sm_ok d 10 10 (by decide) h).1
@[simp] theorem ofS_sm (a : String) : ((Str.ofString a).cps.toList.all fun c => decide (c < 1114112)) = true := by
  have := ofS_ok a
  simp only [PyData.strOk, ← Array.all_toList] at this
  exact this
/-! joined words -/
theorem tj_cons (z x y : Str) (r : List Str) : Txt.join z (x :: y :: r) = x ++ z ++ Txt.join z (y :: r) := by
  rw [TL.join_eq, TL.join_eq]; rfl
theorem tj_one (z x : Str) : Txt.join z [x] = x := by
  rw [TL.join_eq]; rfl
theorem tj_nil (z : Str) : Txt.join z [] = "" := by
  rw [TL.join_eq]; rfl
@[simp] theorem q_fmtS (x : Str) : fmtD (.str x) = if x.length ≤ LN then some (.str x) else none := rfl
@[simp] theorem q_catS (x y : Str) : catS x (.str y) = if (x ++ y).length ≤ LN then some (x ++ y) else none := rfl
@[simp] theorem q_joins0 (x : Str) (s : S) : joins x [] s = .ok (.str x) s := rfl
@[simp] theorem q_joins1 (x : Str) (f : M D) (r : List (M D)) (s : S) : joins x (f :: r) s = mbind f (fun d => mbind (mopt (catS x d)) fun acc' => joins acc' r) s := rfl
theorem len_app (x y : Str) : (x ++ y).length = x.length + y.length := strLen_append x y
end DL
set_option maxHeartbeats 4000000
/-! Tools for the plain laws, 3: what is raised and caught. -/
namespace DL
open PySem PyProof.Rows L2
@[simp] theorem q_raise (c f : Str) (fa : M D) (s : S) : sRaise c f fa s = (match fa s with
  | .ok d s' => .exc c [(f, d)] s'
  | .exc c fs s' => .exc c fs s'
  | .bad => .bad) := rfl
@[simp] theorem q_eqZS (x y : Str) : eqZ (.str x) (.str y) = some (.bl (decide (x = y))) := rfl
@[simp] theorem q_eqZD (x : Str) (kvs : List (D × D)) : eqZ (.str x) (.dic kvs) = some (.bl false) := rfl
@[simp] theorem q_exf (cs : List Str) (f : Str) (fa : M D) (s : S) : eXf cs f fa s = mbind fa (fun d => mopt (xfD cs f d)) s := rfl
@[simp] theorem q_reprA (cn : Str) (r : Fn) (fa : M D) (s : S) : mReprA cn r fa s = mbind fa (fun a => match insAt cn a with
  | some _ => mbind (runFn r [] [.val a]) fun rv => match rv with
    | .val (.str z) => mret (.str z)
    | _ => fun _ => .bad
  | none => mopt (reprZ [a])) s := rfl
theorem reprZ_sm {d : D} (h : d.sm 10 = true) (hb : d.bk ≤ 60000) : reprZ [d] = some (.str d.py.shown) := by
  rw [← repr_sm h hb]
  cases d with
  | dic kvs => exfalso; simp [D.sm] at h
  | _ => rfl
theorem gath_val : ∀ ds : List D, gathI (ds.map .val) = [] := fun ds => by induction ds with
  | nil => rfl
  | cons d ds ih => simpa [gathI] using ih
theorem gathA_val : ∀ (k : Nat) (ds : List D), gathA k (ds.map .val) = ds.map .val := fun k ds => by induction ds generalizing k with
  | nil => rfl
  | cons d ds ih => simp [gathA, ih]
/-- a def called by values raises -/
theorem runX_val {r : Fn} {ds : List D} {c : Str} {fs : List (Str × D)} {io' : List Cell} (h : r (ds.map .val) [] = .exc c fs io') (s : S) : runFn r [] (ds.map .val) s = .exc c fs s := by
  simp only [runFn, gath_val, gathA_val, cellsAt, apart, List.map_nil, List.append_nil, h, if_true, putAll_nil]
theorem makeX_val {cn : Str} {r : Fn} {ds : List D} {c : Str} {fs : List (Str × D)} {c1 : Cell} {io' : List Cell} (h : r (.io 0 :: ds.map .val) [.ins cn []] = .exc c fs (c1 :: io')) (s : S) : runMake cn r [] (ds.map .val) s = .exc c fs s := by
  simp only [runMake, gath_val, gathA_val, cellsAt, apart, List.map_nil, List.append_nil, h, if_true, putAll_nil]
/-- told: what is given back, what is caught -/
theorem told_ok {cs : List Str} {n i j : Nat} {gR gS : S → Out} {fE : M D} {s s' s2 : S} {d : D} {rv : RV} (h : fE s = .ok d s') (g : gR (slotsT n i d) = .rt rv s2) : toldM cs n i j gR gS fE s = .ok rv s' := by
  unfold toldM; rw [h]; show (match gR (slotsT n i d) with
    | .rt rv _ => Res.ok rv s'
    | _ => .bad) = _; rw [g]
theorem told_exc {cs : List Str} {n i j : Nat} {gR gS : S → Out} {fE : M D} {s s' s2 : S} {c : Str} {fs : List (Str × D)} {rv : RV} (h : fE s = .exc c fs s') (hc : cs.contains c = true) (g : gS (slotsT n j (.exn c fs)) = .rt rv s2) (hx : rvX rv = true) : toldM cs n i j gR gS fE s = .ok rv s' := by
  unfold toldM; rw [h]; show (if cs.contains c then (match gS (slotsT n j (.exn c fs)) with
    | .rt rv _ => if rvX rv then Res.ok rv s' else .bad
    | _ => .bad) else .bad) = _; rw [if_pos hc, g]; show (if rvX rv then Res.ok rv s' else .bad) = _; rw [if_pos hx]
/-! ### the repr of a text is a text -/
theorem char_lt (x : Char) : x.toNat < 1114112 := by
  have := x.valid
  rcases this with h | ⟨_, h⟩
  · show x.val.toNat < _
    have : x.val.toNat < 55296 := h
    omega
  · exact h
theorem hex_lt {w c d : Nat} (h : d ∈ (let e := (Nat.toDigits 16 c).map Char.toNat; List.replicate (w - e.length) 48 ++ e)) : d < 1114112 := by
  simp only [List.mem_append, List.mem_replicate, List.mem_map] at h
  rcases h with ⟨_, rfl⟩ | ⟨x, _, rfl⟩
  · decide
  · exact char_lt x
theorem reprChar_lt {q c : Nat} (hc : c < 1114112) : ∀ d ∈ Builtin.Str.reprChar q c, d < 1114112 := by
  intro d hd
  unfold Builtin.Str.reprChar at hd
  dsimp only at hd
  split at hd
  · simp only [List.mem_cons, List.not_mem_nil, or_false] at hd; rcases hd with rfl | rfl <;> omega
  split at hd
  · simp only [List.mem_cons, List.not_mem_nil, or_false] at hd; rcases hd with rfl | rfl <;> omega
  split at hd
  · simp only [List.mem_cons, List.not_mem_nil, or_false] at hd; rcases hd with rfl | rfl <;> omega
  split at hd
  · simp only [List.mem_cons, List.not_mem_nil, or_false] at hd; rcases hd with rfl | rfl <;> omega
  split at hd
  · simp only [List.mem_cons, List.not_mem_nil, or_false] at hd; omega
  split at hd
  · rcases List.mem_append.mp hd with hd | hd
    · simp only [List.mem_cons, List.not_mem_nil, or_false] at hd; rcases hd with rfl | rfl <;> omega
    · exact hex_lt (w := 2) hd
  split at hd
  · rcases List.mem_append.mp hd with hd | hd
    · simp only [List.mem_cons, List.not_mem_nil, or_false] at hd; rcases hd with rfl | rfl <;> omega
    · exact hex_lt (w := 4) hd
  · rcases List.mem_append.mp hd with hd | hd
    · simp only [List.mem_cons, List.not_mem_nil, or_false] at hd; rcases hd with rfl | rfl <;> omega
    · exact hex_lt (w := 8) hd
theorem repr_fold (q : Nat) : ∀ (l : List Nat) (acc : Array Nat), (∀ c ∈ l, c < 1114112) → (∀ c ∈ acc.toList, c < 1114112) → ∀ c ∈ (l.foldl (fun out c => out ++ (Builtin.Str.reprChar q c).toArray) acc).toList, c < 1114112
  | [], acc, _, h => h
  | c :: r, acc, hl, h => by
    simp only [List.foldl_cons]
    refine repr_fold q r _ (fun d hd => hl d (.tail _ hd)) fun d hd => ?_
    simp only [Array.toList_append, List.mem_append] at hd
    rcases hd with hd | hd
    · exact h d hd
    · exact reprChar_lt (hl c List.mem_cons_self) d hd
theorem repr_ok {x : Str} (h : PyData.strOk x = true) : PyData.strOk (PyData.shown (.str x)) = true := by
  have h : ∀ c ∈ x.cps.toList, c < 1114112 := fun c hc => by
    have h2 : (x.cps.all fun c => decide (c < 1114112)) = true := h
    rw [← Array.all_toList] at h2
    simpa using List.all_eq_true.mp h2 c hc
  have hq : reprQuote x < 1114112 := by unfold reprQuote; split <;> decide
  refine strOk_of (List.all_eq_true.mpr fun c hc => decide_eq_true ?_)
  rw [show PyData.shown (.str x) = reprText x by simp only [PyData.shown]] at hc
  unfold reprText at hc
  simp only [Array.toList_push, List.mem_append, List.mem_cons, List.not_mem_nil, or_false, ← Array.foldl_toList] at hc
  rcases hc with hc | rfl
  · exact repr_fold _ _ _ h (fun c hc => by
      simp only [List.mem_cons, List.not_mem_nil, or_false] at hc
      subst hc; exact hq) c hc
  · exact hq
/-! ### the repr of a datum is a text -/
theorem sapp_ok {x y : Str} (h : PyData.strOk x = true) (g : PyData.strOk y = true) : PyData.strOk (x ++ y) = true := by
  have hx : (x.cps.all fun c => decide (c < 1114112)) = true := h
  have hy : (y.cps.all fun c => decide (c < 1114112)) = true := g
  rw [← Array.all_toList] at hx hy
  refine strOk_of ?_
  show ((x.cps ++ y.cps).toList.all fun c => decide (c < 1114112)) = true
  rw [Array.toList_append, List.all_append, hx, hy]
  rfl
theorem from_ok : ∀ (ts : List Str) (k : Nat) (acc : Str), PyData.strOk acc = true → (∀ t ∈ ts, PyData.strOk t = true) → PyData.strOk (textFrom k acc ts) = true
  | [], _, _, h, _ => h
  | t :: r, k, acc, h, ht => by
    show PyData.strOk (textFrom (k + 1) (acc ++ (if k > 0 then ", " else "" : String) ++ t) r) = true
    refine from_ok r (k + 1) _ (sapp_ok (sapp_ok h ?_) (ht t List.mem_cons_self)) fun x hx => ht x (.tail _ hx)
    split <;> exact ofS_ok _
theorem sjoin_ok {z : Str} (hz : PyData.strOk z = true) : ∀ ws : List Str, (∀ w ∈ ws, PyData.strOk w = true) → PyData.strOk (Str.join z ws) = true := by
  intro ws h
  rw [← TL.join_eq]
  induction ws with
  | nil => rw [tj_nil]; exact ofS_ok ""
  | cons x r ih =>
    cases r with
    | nil => rw [tj_one]; exact h x List.mem_cons_self
    | cons y r =>
      rw [tj_cons]
      exact sapp_ok (sapp_ok (h x List.mem_cons_self) hz) (ih fun w hw => h w (.tail _ hw))
mutual
theorem shown_ok : (d : D) → (n : Nat) → d.ok n = true → PyData.strOk d.py.shown = true
  | .non, _, _ => by decide +kernel
  | .bl b, _, _ => by cases b <;> decide +kernel
  | .int i, _, _ => ofS_ok (toString i)
  | .str x, n, h => repr_ok (by cases n <;> simpa [D.ok] using h)
  | .tup xs, n, h => by
    cases n with
    | zero => simp [D.ok] at h
    | succ n =>
      have := shownAll_ok xs n (by simpa [D.ok] using h)
      show PyData.strOk (tupleText (PyData.shownAll (D.pys xs))) = true
      unfold tupleText
      refine sapp_ok (sapp_ok (ofS_ok _) (sjoin_ok (ofS_ok _) _ this)) ?_
      split <;> exact ofS_ok _
  | .lst xs, n, h => by
    cases n with
    | zero => simp [D.ok] at h
    | succ n =>
      have := shownAll_ok xs n (by simpa [D.ok] using h)
      show PyData.strOk (listText (PyData.shownAll (D.pys xs))) = true
      unfold listText
      exact sapp_ok (from_ok _ _ _ (ofS_ok _) this) (ofS_ok _)
  | .ty _, n, h => by cases n <;> simp [D.ok] at h
  | .glo _, n, h => by cases n <;> simp [D.ok] at h
  | .ins _ _, n, h => by cases n <;> simp [D.ok] at h
  | .dic _, n, h => by cases n <;> simp [D.ok] at h
  | .tdc _, n, h => by cases n <;> simp [D.ok] at h
  | .exn _ _, n, h => by cases n <;> simp [D.ok] at h
theorem shownAll_ok : (ds : List D) → (n : Nat) → D.oks n ds = true → ∀ t ∈ PyData.shownAll (D.pys ds), PyData.strOk t = true
  | [], _, _ => by intro t ht; simp [D.pys, PyData.shownAll] at ht
  | d :: ds, n, h => by
    have h : d.ok n = true ∧ D.oks n ds = true := by simpa [D.oks] using h
    intro t ht
    simp only [D.pys, PyData.shownAll, List.mem_cons] at ht
    rcases ht with rfl | ht
    · exact shown_ok d n h.1
    · exact shownAll_ok ds n h.2 t ht
end
end DL
set_option maxHeartbeats 4000000
namespace Wk
open PySem PySem.Spec PyProof.Rows L2 DL
def cls : List PySem.Str := ["Program"]
def csX : List PySem.Str := ["InvalidFunctions"]
def nsX : List PySem.Str := ["Broken", "CannotBe", "InUse", "InvalidChanges", "InvalidChoice", "InvalidClaim", "InvalidFunctions", "InvalidName", "InvalidNumber", "InvalidPart", "InvalidPlace", "InvalidRules", "InvalidSeen", "InvalidSite", "InvalidText", "InvalidWish", "NotAProgram", "NotARule", "NotOpen", "NotRight", "NotThere", "NothingToUndo", "OverBudget", "TooMany", "UnknownName"]
def tsX : List String := ["ArithmeticError", "LookupError", "ValueError"]
def b__law_ladle : S → Out := (sSeq (sIf (asB (bin (cmpI fun i j => decide (j < i)) (slotThen 0 (mret (.int 0)) atD) (mret (.int 0)))) (sSeq (sAsg (cal divmodC (aCons (slotThen 0 (mret (.int 0)) atD) (aCons (eVar 1) (mret [])))) (.tp (.cons (.ix 0 0) (.cons (.nm 3) .nil))))
  (sRet (eVar 3))) sNx)
  (sSeq (sSetIx 0 (mret (.int 2)) (bin addD (slotThen 0 (mret (.int 2)) atD) (mret (.int 1))))
  (sSeq (sSet 2 (bin addD (bin mulD (slotThen 0 (mret (.int 1)) atD) (mret (.int 2862933555777941757))) (bin mulD (bin mulD (mret (.int 3037000493)) (slotThen 0 (mret (.int 2)) atD)) (slotThen 0 (mret (.int 2)) atD))))
  (sSeq (sSetIx 0 (mret (.int 1)) (bin modD (cal intC (aCons (eVar 2) (mret []))) (mret (.int 18446744073709551557))))
  (sRet (bin modD (cal intC (aCons (bin fdivD (slotThen 0 (mret (.int 1)) atD) (mret (.int 33554432))) (mret []))) (eVar 1)))))))
def r__law_ladle : Fn := bodyFn 4 b__law_ladle
def b__law_words_2 : S → Out := (sSet 6 (bin addD (eVar 6) (bin atD (eVar 4) (rD (mCall 2 r__law_ladle [] (gSl 0 (gVal (mret (.int 26)) (mret []))))))))
def b__law_words_1 : S → Out := (sSeq (sSet 6 (mret (.str "")))
  (sSeq (sForW [7] (iRng rng1 (aCons (bin atD (eLst (aCons (mret (.int 1)) (aCons (mret (.int 2)) (aCons (mret (.int 4)) (aCons (mret (.int 8)) (mret [])))))) (rD (mCall 2 r__law_ladle [] (gSl 0 (gVal (mret (.int 4)) (mret [])))))) (mret []))) (.nm 7) b__law_words_2)
  (sSeq (sIf (asB (bin eqD (rD (mCall 2 r__law_ladle [] (gSl 0 (gVal (mret (.int 4)) (mret []))))) (mret (.int 0)))) (sSet 6 (bin atD (eVar 5) (rD (mCall 2 r__law_ladle [] (gSl 0 (gVal (mret (.int 8)) (mret []))))))) sNx)
  (sSeq (sIf (asB (binP inD (eVar 6) 2)) (sSet 6 (bin atD (eLc [8] (iOf (eLc [9] (iRng rng1 (aCons (eVar 1) (mret []))) (.nm 9) mYes (bin mulD (mret (.str "q")) (bin addD (eVar 9) (mret (.int 1)))))) (.nm 8) (asB (binP notInD (eVar 8) 2)) (eVar 8)) (mret (.int 0)))) sNx)
  (sApp 2 (eVar 6))))))
def b__law_words : S → Out := (sSeq (sPar [4, 5] (rsVal (mret (.str "abcdefghijklmnopqrstuvwxyz")) (rsVal (eLst (aCons (mret (.str "order")) (aCons (mret (.str "none")) (aCons (mret (.str "yes")) (aCons (mret (.str "no")) (aCons (mret (.str "lone")) (aCons (mret (.str "skip")) (aCons (mret (.str "a")) (aCons (mret (.str "main")) (mret [])))))))))) (mret []))))
  (sSeq (sSetO 2 (oLst (mret [])))
  (sSeq (sForW [3, 6, 7] (iRng rng1 (aCons (eVar 1) (mret []))) (.nm 3) b__law_words_1)
  (sRetO (oVar 2)))))
def r__law_words : Fn := bodyFn 10 b__law_words
def b__law_table_2 : S → Out := (sSeq (sSet 10 (bin atD (eVar 5) (rD (mCall 2 r__law_ladle [] (gSl 0 (gVal (cal lenC (aCons (eVar 5) (mret []))) (mret [])))))))
  (sApp 9 (eTup (aCons (eVar 10) (aCons (bin atD (eLst (aCons (mret (.int 1)) (aCons (mret (.int 2)) (aCons (mret (.int 9)) (aCons (bin addD (mret (.int 1)) (rD (mCall 2 r__law_ladle [] (gSl 0 (gVal (mret (.int 9)) (mret [])))))) (mret [])))))) (rD (mCall 2 r__law_ladle [] (gSl 0 (gVal (mret (.int 4)) (mret [])))))) (mret []))))))
def b__law_table_1 : S → Out := (sSeq (sPar [8, 9] (rsVal (bin addD (mret (.int 1)) (rD (mCall 2 r__law_ladle [] (gSl 0 (gVal (eVar 3) (mret [])))))) (rsOwn (oLst (mret [])) (mret []))))
  (sSeq (sForW [7, 10] (iRng rng1 (aCons (rD (mCall 2 r__law_ladle [] (gSl 0 (gVal (bin addD (eVar 2) (mret (.int 1))) (mret []))))) (mret []))) (.nm 7) b__law_table_2)
  (sApp 6 (eTup (aCons (eVar 4) (aCons (eVar 8) (aCons (cal tupC (aCons (eVar 9) (mret []))) (mret []))))))))
def b__law_table : S → Out := (sSeq (sPar [5, 6] (rsVal (rD (mCall 2 r__law_words [] (gSl 0 (gVal (bin addD (mret (.int 1)) (rD (mCall 2 r__law_ladle [] (gSl 0 (gVal (eVar 1) (mret [])))))) (mret []))))) (rsOwn (oLst (mret [])) (mret []))))
  (sSeq (sForW [4, 7, 8, 9, 10] (iOf (eVar 5)) (.nm 4) b__law_table_1)
  (sRet (cal tupC (aCons (eVar 6) (mret []))))))
def r__law_table : Fn := bodyFn 11 b__law_table
def b__law_odd : S → Out := (sSeq (sSet 1 (eLst (aCons (mret .non) (aCons (mret (.bl true)) (aCons (mret (.bl false)) (aCons (mret (.str "")) (aCons (mret (.str "a")) (aCons (mret (.str "A")) (aCons (mret (.int 0)) (aCons (un negD (mret (.int 1))) (aCons (mret (.int 7)) (aCons (bin powD (mret (.int 10)) (mret (.int 31))) (aCons (eTup (mret [])) (aCons (eLst (mret [])) (aCons (mret (.dic [])) (aCons (eTup (aCons (mret (.int 0)) (mret []))) (aCons (eTup (aCons (mret (.str "a")) (mret []))) (aCons (eTup (aCons (mret (.str "a")) (aCons (mret (.int 1)) (mret [])))) (aCons (eLst (aCons (mret (.str "a")) (aCons (mret (.int 1)) (aCons (eTup (mret [])) (mret []))))) (aCons (eLst (aCons (mret (.int 0)) (mret []))) (mret [])))))))))))))))))))))
  (sRet (bin atD (eVar 1) (rD (mCall 2 r__law_ladle [] (gSl 0 (gVal (mret (.int 18)) (mret []))))))))
def r__law_odd : Fn := bodyFn 2 b__law_odd
def b__law_bent : S → Out := (sSeq (sSet 3 (rD (mCall 2 r__law_ladle [] (gSl 0 (gVal (mret (.int 9)) (mret []))))))
  (sSeq (sIf (asB (bin eqD (eVar 3) (mret (.int 0)))) (sRetR (mCall 1 r__law_odd [] (gSl 0 (mret [])))) sNx)
  (sSeq (sIf (asB (bin eqD (eVar 3) (mret (.int 1)))) (sRet (eTup (aCons (bin atD (eVar 1) (mret (.int 0))) (aCons (bin atD (eLst (aCons (mret (.int 0)) (aCons (mret (.int 51)) (aCons (mret (.bl true)) (aCons (mret .non) (aCons (mret (.str "1")) (aCons (un negD (mret (.int 1))) (aCons (mret (.int 50)) (aCons (mret (.int 1)) (mret [])))))))))) (rD (mCall 2 r__law_ladle [] (gSl 0 (gVal (mret (.int 8)) (mret [])))))) (aCons (bin atD (eVar 1) (mret (.int 2))) (mret [])))))) sNx)
  (sSeq (sIf (asB (bin eqD (eVar 3) (mret (.int 2)))) (sRet (eTup (aCons (bin atD (eLst (aCons (mret .non) (aCons (mret (.str "")) (aCons (mret (.str "A")) (aCons (mret (.str "a1")) (aCons (mret (.str "abcdefghi")) (aCons (mret (.str "a b")) (aCons (eTup (aCons (mret (.str "a")) (mret []))) (aCons (mret (.str "a_")) (mret [])))))))))) (rD (mCall 2 r__law_ladle [] (gSl 0 (gVal (mret (.int 8)) (mret [])))))) (aCons (bin atD (eVar 1) (mret (.int 1))) (aCons (bin atD (eVar 1) (mret (.int 2))) (mret [])))))) sNx)
  (sSeq (sIf (asB (bin eqD (eVar 3) (mret (.int 3)))) (sRet (eTup (aCons (bin atD (eVar 2) (rD (mCall 2 r__law_ladle [] (gSl 0 (gVal (cal lenC (aCons (eVar 2) (mret []))) (mret [])))))) (aCons (bin atD (eVar 1) (mret (.int 1))) (aCons (bin atD (eVar 1) (mret (.int 2))) (mret [])))))) sNx)
  (sSeq (sIf (asB (bin eqD (eVar 3) (mret (.int 4)))) (sRet (bin atD (eLst (aCons (calL lstC (aCons (eVar 1) (mret []))) (aCons (bin addD (eVar 1) (eTup (aCons (mret (.int 1)) (mret [])))) (aCons (slice (eVar 1) (mret none) (pSome (mret (.int 2)))) (aCons (un revD (eVar 1)) (mret [])))))) (rD (mCall 2 r__law_ladle [] (gSl 0 (gVal (mret (.int 4)) (mret []))))))) sNx)
  (sSeq (sIf (asB (bin eqD (eVar 3) (mret (.int 5)))) (sRet (bin addD (slice (eVar 1) (mret none) (pSome (mret (.int 2)))) (eTup (aCons (bin atD (eLst (aCons (calL lstC (aCons (bin atD (eVar 1) (mret (.int 2))) (mret []))) (aCons (mret .non) (aCons (bin addD (bin mulD (bin atD (eVar 1) (mret (.int 2))) (mret (.int 5))) (bin mulT (eTup (aCons (eTup (aCons (mret (.str "a")) (aCons (mret (.int 1)) (mret [])))) (mret []))) (mret (.int 5)))) (aCons (mret (.str "")) (aCons (mret (.int 3)) (mret []))))))) (rD (mCall 2 r__law_ladle [] (gSl 0 (gVal (mret (.int 5)) (mret [])))))) (mret []))))) sNx)
  (sSeq (sIf (asB (bin (cmpI fun i j => decide (i < j)) (eVar 3) (mret (.int 8)))) (sSeq (sSet 4 (bin atD (eLst (aCons (bin atD (eVar 2) (rD (mCall 2 r__law_ladle [] (gSl 0 (gVal (cal lenC (aCons (eVar 2) (mret []))) (mret [])))))) (aCons (mret (.str "zz")) (aCons (mret (.str "none")) (aCons (mret (.str "z")) (aCons (bin atD (eVar 2) (mret (.int 0))) (mret []))))))) (rD (mCall 2 r__law_ladle [] (gSl 0 (gVal (mret (.int 5)) (mret [])))))))
  (sSeq (sSet 5 (eTup (aCons (eVar 4) (aCons (bin atD (eLst (aCons (mret (.int 1)) (aCons (mret (.int 9)) (aCons (mret (.int 0)) (aCons (mret (.int 10)) (aCons (mret (.bl true)) (aCons (mret .non) (aCons (mret (.str "2")) (aCons (mret (.int 2)) (mret [])))))))))) (rD (mCall 2 r__law_ladle [] (gSl 0 (gVal (mret (.int 8)) (mret [])))))) (mret [])))))
  (sSeq (sSet 6 (bin atD (eLst (aCons (eVar 5) (aCons (eVar 5) (aCons (eVar 5) (aCons (calL lstC (aCons (eVar 5) (mret []))) (aCons (slice (eVar 5) (mret none) (pSome (mret (.int 1)))) (aCons (bin addD (eVar 5) (eTup (aCons (mret (.int 1)) (mret [])))) (mret [])))))))) (rD (mCall 2 r__law_ladle [] (gSl 0 (gVal (mret (.int 6)) (mret [])))))))
  (sRet (bin addD (slice (eVar 1) (mret none) (pSome (mret (.int 2)))) (eTup (aCons (slice (bin addD (bin atD (eVar 1) (mret (.int 2))) (eTup (aCons (eVar 6) (mret [])))) (pSome (un negD (mret (.int 4)))) (mret none)) (mret [])))))))) sNx)
  (sRet (eVar 1))))))))))
def r__law_bent : Fn := bodyFn 7 b__law_bent
def b__law_bases : S → Out := (sSeq (sSet 1 (eLst (aCons (cal (isEC csX nsX tsX) (aCons (eVar 0) (aCons (mret (.glo "NotRight")) (mret [])))) (aCons (cal (isEC csX nsX tsX) (aCons (eVar 0) (aCons (mret (.glo "NotThere")) (mret [])))) (aCons (cal (isEC csX nsX tsX) (aCons (eVar 0) (aCons (mret (.glo "CannotBe")) (mret [])))) (mret []))))))
  (sSeq (sSet 2 (eLst (aCons (cal (isEC csX nsX tsX) (aCons (eVar 0) (aCons (mret (.ty "ValueError")) (mret [])))) (aCons (cal (isEC csX nsX tsX) (aCons (eVar 0) (aCons (mret (.ty "LookupError")) (mret [])))) (aCons (cal (isEC csX nsX tsX) (aCons (eVar 0) (aCons (mret (.ty "ArithmeticError")) (mret [])))) (mret []))))))
  (sRet (eIf (asB (bin eqD (eVar 1) (eVar 2))) (eVar 1) (eLst (mret []))))))
def r__law_bases : Fn := bodyFn 3 b__law_bases
def b__law_class : S → Out := (sSeq (sSet 1 (eLst (aCons (cal (isEC csX nsX tsX) (aCons (eVar 0) (aCons (mret (.glo "InvalidText")) (mret [])))) (aCons (cal (isEC csX nsX tsX) (aCons (eVar 0) (aCons (mret (.glo "InvalidPart")) (mret [])))) (aCons (cal (isEC csX nsX tsX) (aCons (eVar 0) (aCons (mret (.glo "InvalidNumber")) (mret [])))) (mret []))))))
  (sSeq (sSet 1 (bin addD (eVar 1) (eLst (aCons (cal (isEC csX nsX tsX) (aCons (eVar 0) (aCons (mret (.glo "InvalidSite")) (mret [])))) (aCons (cal (isEC csX nsX tsX) (aCons (eVar 0) (aCons (mret (.glo "InvalidChoice")) (mret [])))) (aCons (cal (isEC csX nsX tsX) (aCons (eVar 0) (aCons (mret (.glo "InvalidName")) (mret [])))) (mret [])))))))
  (sSeq (sSet 1 (bin addD (eVar 1) (eLst (aCons (cal (isEC csX nsX tsX) (aCons (eVar 0) (aCons (mret (.glo "InvalidWish")) (mret [])))) (aCons (cal (isEC csX nsX tsX) (aCons (eVar 0) (aCons (mret (.glo "InvalidClaim")) (mret [])))) (aCons (cal (isEC csX nsX tsX) (aCons (eVar 0) (aCons (mret (.glo "InvalidPlace")) (mret [])))) (mret [])))))))
  (sSeq (sSet 1 (bin addD (eVar 1) (eLst (aCons (cal (isEC csX nsX tsX) (aCons (eVar 0) (aCons (mret (.glo "NotAProgram")) (mret [])))) (aCons (cal (isEC csX nsX tsX) (aCons (eVar 0) (aCons (mret (.glo "NotARule")) (mret [])))) (aCons (cal (isEC csX nsX tsX) (aCons (eVar 0) (aCons (mret (.glo "InvalidFunctions")) (mret [])))) (mret [])))))))
  (sSeq (sSet 1 (bin addD (eVar 1) (eLst (aCons (cal (isEC csX nsX tsX) (aCons (eVar 0) (aCons (mret (.glo "InvalidRules")) (mret [])))) (aCons (cal (isEC csX nsX tsX) (aCons (eVar 0) (aCons (mret (.glo "InvalidSeen")) (mret [])))) (aCons (cal (isEC csX nsX tsX) (aCons (eVar 0) (aCons (mret (.glo "InvalidChanges")) (mret [])))) (mret [])))))))
  (sSeq (sSet 1 (bin addD (eVar 1) (eLst (aCons (cal (isEC csX nsX tsX) (aCons (eVar 0) (aCons (mret (.glo "UnknownName")) (mret [])))) (aCons (cal (isEC csX nsX tsX) (aCons (eVar 0) (aCons (mret (.glo "InUse")) (mret [])))) (aCons (cal (isEC csX nsX tsX) (aCons (eVar 0) (aCons (mret (.glo "NotOpen")) (mret [])))) (aCons (cal (isEC csX nsX tsX) (aCons (eVar 0) (aCons (mret (.glo "TooMany")) (mret [])))) (mret []))))))))
  (sSeq (sSet 1 (bin addD (eVar 1) (eLst (aCons (cal (isEC csX nsX tsX) (aCons (eVar 0) (aCons (mret (.glo "OverBudget")) (mret [])))) (aCons (cal (isEC csX nsX tsX) (aCons (eVar 0) (aCons (mret (.glo "NothingToUndo")) (mret [])))) (aCons (cal (isEC csX nsX tsX) (aCons (eVar 0) (aCons (mret (.glo "Broken")) (mret [])))) (mret [])))))))
  (sSeq (sIf (asB (bin neD (metL cntL (eVar 1) (aCons (mret (.bl true)) (mret []))) (mret (.int 1)))) (sRet (mret (.str "odd"))) sNx)
  (sSeq (sSet 2 (metL idxL (eVar 1) (aCons (mret (.bl true)) (mret []))))
  (sSeq (sIf (asB (bin neD (rD (mCall 1 r__law_bases [] (gVal (eVar 0) (mret [])))) (eLst (aCons (bin (cmpI fun i j => decide (i < j)) (eVar 2) (mret (.int 15))) (aCons (chain (cmpI fun i j => decide (i < j)) (cmpI fun i j => decide (i < j)) (mret (.int 14)) (eVar 2) (mret (.int 18))) (aCons (bin (cmpI fun i j => decide (j < i)) (eVar 2) (mret (.int 17))) (mret []))))))) (sRet (mret (.str "odd"))) sNx)
  (sSeq (sSet 3 (eLst (aCons (mret (.str "text")) (aCons (mret (.str "part")) (aCons (mret (.str "number")) (aCons (mret (.str "site")) (aCons (mret (.str "choice")) (aCons (mret (.str "name")) (aCons (mret (.str "wish")) (aCons (mret (.str "claim")) (aCons (mret (.str "place")) (aCons (mret (.str "program")) (aCons (mret (.str "rule")) (mret []))))))))))))))
  (sSeq (sSet 3 (bin addD (eVar 3) (eLst (aCons (mret (.str "functions")) (aCons (mret (.str "rules")) (aCons (mret (.str "seen")) (aCons (mret (.str "changes")) (aCons (mret (.str "unknown")) (aCons (mret (.str "used")) (aCons (mret (.str "closed")) (aCons (mret (.str "many")) (aCons (mret (.str "over")) (aCons (mret (.str "nothing")) (mret []))))))))))))))
  (sRet (bin atD (bin addD (eVar 3) (eLst (aCons (mret (.str "broken")) (mret [])))) (eVar 2)))))))))))))))
def r__law_class : Fn := bodyFn 4 b__law_class
def b__law_told_S : S → Out := (sSeq (sSet 2 (rD (mCall 1 r__law_class [] (gVal (eVar 3) (mret [])))))
  (sSeq (sIf (asB (bin inD (eVar 2) (eLst (aCons (mret (.str "functions")) (aCons (mret (.str "rules")) (aCons (mret (.str "seen")) (aCons (mret (.str "changes")) (mret [])))))))) (sRetO (oLst (aCons (eVar 2) (aCons (cal reprZ (aCons (eXf csX "index" (eVar 3)) (mret []))) (mret []))))) sNx)
  (sSeq (sIf (asB (bin inD (eVar 2) (eLst (aCons (mret (.str "many")) (aCons (mret (.str "over")) (mret [])))))) (sRetO (oLst (aCons (eVar 2) (aCons (cal reprZ (aCons (eXf csX "most" (eVar 3)) (mret []))) (mret []))))) sNx)
  (sRetO (oLst (aCons (eVar 2) (aCons (eIf (asB (bin inD (eVar 2) (eLst (aCons (mret (.str "odd")) (aCons (mret (.str "used")) (aCons (mret (.str "nothing")) (aCons (mret (.str "broken")) (mret [])))))))) (mret (.str "")) (cal reprZ (aCons (eXf csX "given" (eVar 3)) (mret [])))) (mret []))))))))
def b__law_told_R : S → Out := (sRetO (oLst (aCons (mret (.str "back")) (aCons (cal reprZ (aCons (eVar 1) (mret []))) (mret [])))))
def b__law_is_name : S → Out := (sSeq (sIf (tOrB (tNotB (tru (cal (isiC cls) (aCons (eVar 0) (aCons (mret (.ty "str")) (mret [])))))) (tNotB (asB (chain (cmpI fun i j => decide (i ≤ j)) (cmpI fun i j => decide (i ≤ j)) (mret (.int 1)) (cal lenC (aCons (eVar 0) (mret []))) (mret (.int 8)))))) (sRet (mret (.bl false))) sNx)
  (sRet (bin eqD (eLc [1] (iOf (eVar 0)) (.nm 1) (asB (bin notInD (eVar 1) (mret (.str "abcdefghijklmnopqrstuvwxyz")))) (eVar 1)) (eLst (mret [])))))
def r__law_is_name : Fn := bodyFn 2 b__law_is_name
def b__law_within : S → Out := (sRet (eAnd (cal (isiC cls) (aCons (eVar 0) (aCons (mret (.ty "int")) (mret [])))) (eAnd (un notD (cal (isiC cls) (aCons (eVar 0) (aCons (mret (.ty "bool")) (mret []))))) (chain (cmpI fun i j => decide (i ≤ j)) (cmpI fun i j => decide (i ≤ j)) (eVar 1) (eVar 0) (eVar 2)))))
def r__law_within : Fn := bodyFn 3 b__law_within
def b__law_wrong_2 : S → Out := (sIf (tOrB (tNotB (tru (cal (isiC cls) (aCons (eVar 4) (aCons (mret (.ty "tuple")) (mret [])))))) (tOrB (asB (bin neD (cal lenC (aCons (eVar 4) (mret []))) (mret (.int 2)))) (tOrB (tNotB (tru (rD (mCall 1 r__law_is_name [] (gVal (bin atD (eVar 4) (mret (.int 0))) (mret [])))))) (tNotB (tru (rD (mCall 3 r__law_within [] (gVal (bin atD (eVar 4) (mret (.int 1))) (gVal (mret (.int 1)) (gVal (mret (.int 9)) (mret []))))))))))) (sRet (eVar 2)) sNx)
def b__law_wrong_1 : S → Out := (sSeq (sSet 3 (bin atD (eVar 0) (eVar 2)))
  (sSeq (sIf (tOrB (tNotB (tru (cal (isiC cls) (aCons (eVar 3) (aCons (mret (.ty "tuple")) (mret [])))))) (tOrB (asB (bin neD (cal lenC (aCons (eVar 3) (mret []))) (mret (.int 3)))) (tOrB (tNotB (tru (rD (mCall 1 r__law_is_name [] (gVal (bin atD (eVar 3) (mret (.int 0))) (mret [])))))) (tOrB (asB (binP inD (bin atD (eVar 3) (mret (.int 0))) 1)) (asB (bin (cmpI fun i j => decide (j < i)) (eVar 2) (mret (.int 5)))))))) (sRet (eVar 2)) sNx)
  (sSeq (sIf (tOrB (tNotB (tru (rD (mCall 3 r__law_within [] (gVal (bin atD (eVar 3) (mret (.int 1))) (gVal (mret (.int 1)) (gVal (mret (.int 50)) (mret [])))))))) (tOrB (tNotB (tru (cal (isiC cls) (aCons (bin atD (eVar 3) (mret (.int 2))) (aCons (mret (.ty "tuple")) (mret [])))))) (asB (bin (cmpI fun i j => decide (j < i)) (cal lenC (aCons (bin atD (eVar 3) (mret (.int 2))) (mret []))) (mret (.int 4)))))) (sRet (eVar 2)) sNx)
  (sSeq (sForW [4] (iOf (bin atD (eVar 3) (mret (.int 2)))) (.nm 4) b__law_wrong_2)
  (sApp 1 (bin atD (eVar 3) (mret (.int 0))))))))
def b__law_wrong_3 : S → Out := (sIf (asB (bin neD (eLc [4] (iOf (bin atD (bin atD (eVar 0) (eVar 2)) (mret (.int 2)))) (.nm 4) (asB (binP notInD (bin atD (eVar 4) (mret (.int 0))) 1)) (eVar 4)) (eLst (mret [])))) (sRet (eVar 2)) sNx)
def b__law_wrong : S → Out := (sSeq (sSetO 1 (oLst (mret [])))
  (sSeq (sForW [2, 3, 4] (iRng rng1 (aCons (cal lenC (aCons (eVar 0) (mret []))) (mret []))) (.nm 2) b__law_wrong_1)
  (sSeq (sForW [2] (iRng rng1 (aCons (cal lenC (aCons (eVar 0) (mret []))) (mret []))) (.nm 2) b__law_wrong_3)
  (sRet (un negD (mret (.int 1)))))))
def r__law_wrong : Fn := bodyFn 5 b__law_wrong
def b_Program_functions : S → Out := (sRet (un (fldD "Program" "bodies") (eVar 0)))
def r_Program_functions : Fn := bodyFn 1 b_Program_functions
def b_is_name : S → Out := (sRet (eAnd (cal (isiC cls) (aCons (eVar 0) (aCons (mret (.ty "str")) (mret [])))) (eAnd (chain (cmpI fun i j => decide (i < j)) (cmpI fun i j => decide (i < j)) (mret (.int 0)) (cal lenC (aCons (eVar 0) (mret []))) (mret (.int 9))) (cal allC (aCons (eLc [1] (iOf (eVar 0)) (.nm 1) mYes (bin inD (eVar 1) (mret (.str "abcdefghijklmnopqrstuvwxyz")))) (mret []))))))
def r_is_name : Fn := bodyFn 2 b_is_name
def b_is_integer : S → Out := (sRet (eAnd (cal (isiC cls) (aCons (eVar 0) (aCons (mret (.ty "int")) (mret [])))) (un notD (cal (isiC cls) (aCons (eVar 0) (aCons (mret (.ty "bool")) (mret [])))))))
def r_is_integer : Fn := bodyFn 1 b_is_integer
def b_is_between : S → Out := (sRet (eAnd (rD (mCall 1 r_is_integer [] (gVal (eVar 0) (mret [])))) (chain (cmpI fun i j => decide (i ≤ j)) (cmpI fun i j => decide (i ≤ j)) (eVar 1) (eVar 0) (eVar 2))))
def r_is_between : Fn := bodyFn 3 b_is_between
def b_is_call : S → Out := (sRet (eAnd (cal (isiC cls) (aCons (eVar 0) (aCons (mret (.ty "tuple")) (mret [])))) (eAnd (bin eqD (cal lenC (aCons (eVar 0) (mret []))) (mret (.int 2))) (eAnd (rD (mCall 1 r_is_name [] (gVal (bin atD (eVar 0) (mret (.int 0))) (mret [])))) (rD (mCall 3 r_is_between [] (gVal (bin atD (eVar 0) (mret (.int 1))) (gVal (mret (.int 1)) (gVal (mret (.int 9)) (mret []))))))))))
def r_is_call : Fn := bodyFn 1 b_is_call
def b_is_function : S → Out := (sSeq (sIf (tOrB (tNotB (tru (cal (isiC cls) (aCons (eVar 0) (aCons (mret (.ty "tuple")) (mret [])))))) (tOrB (asB (bin neD (cal lenC (aCons (eVar 0) (mret []))) (mret (.int 3)))) (tNotB (tru (rD (mCall 1 r_is_name [] (gVal (bin atD (eVar 0) (mret (.int 0))) (mret [])))))))) (sRet (mret (.bl false))) sNx)
  (sSeq (sIf (tOrB (tNotB (tru (rD (mCall 3 r_is_between [] (gVal (bin atD (eVar 0) (mret (.int 1))) (gVal (mret (.int 1)) (gVal (mret (.int 50)) (mret [])))))))) (tOrB (tNotB (tru (cal (isiC cls) (aCons (bin atD (eVar 0) (mret (.int 2))) (aCons (mret (.ty "tuple")) (mret [])))))) (asB (bin (cmpI fun i j => decide (j < i)) (cal lenC (aCons (bin atD (eVar 0) (mret (.int 2))) (mret []))) (mret (.int 4)))))) (sRet (mret (.bl false))) sNx)
  (sRet (cal allC (aCons (eLc [1] (iOf (bin atD (eVar 0) (mret (.int 2)))) (.nm 1) mYes (rD (mCall 1 r_is_call [] (gVal (eVar 1) (mret []))))) (mret []))))))
def r_is_function : Fn := bodyFn 2 b_is_function
def b_names_in : S → Out := (sRetO (oLc [1] (iOf (eVar 0)) (.nm 1) mYes (bin atD (eVar 1) (mret (.int 0)))))
def r_names_in : Fn := bodyFn 2 b_names_in
def b_wrong_function_1 : S → Out := (sIf (tOrB (tNotB (tru (rD (mCall 1 r_is_function [] (gVal (eVar 2) (mret [])))))) (tOrB (asB (bin eqD (eVar 1) (mret (.int 6)))) (asB (bin inD (bin atD (eVar 2) (mret (.int 0))) (rD (mCall 1 r_names_in [] (gVal (slice (eVar 0) (mret none) (pSome (eVar 1))) (mret [])))))))) (sRet (eVar 1)) sNx)
def b_wrong_function_2 : S → Out := (sIf (tNotB (tru (cal allC (aCons (eLc [3] (iOf (bin atD (eVar 2) (mret (.int 2)))) (.nm 3) mYes (bin inD (bin atD (eVar 3) (mret (.int 0))) (rD (mCall 1 r_names_in [] (gVal (eVar 0) (mret [])))))) (mret []))))) (sRet (eVar 1)) sNx)
def b_wrong_function : S → Out := (sSeq (sForW [1, 2] (iEnu (aCons (eVar 0) (mret []))) (.tp (.cons (.nm 1) (.cons (.nm 2) .nil))) b_wrong_function_1)
  (sSeq (sForW [1, 2] (iEnu (aCons (eVar 0) (mret []))) (.tp (.cons (.nm 1) (.cons (.nm 2) .nil))) b_wrong_function_2)
  (sRet (mret .non))))
def r_wrong_function : Fn := bodyFn 4 b_wrong_function
def b_check_functions : S → Out := (sSeq (sIf (tOrB (tNotB (tru (cal (isiC cls) (aCons (eVar 0) (aCons (mret (.ty "tuple")) (mret [])))))) (asB (bin eqD (cal lenC (aCons (eVar 0) (mret []))) (mret (.int 0))))) (sRaise "InvalidFunctions" "index" (mret .non)) sNx)
  (sSeq (sSet 1 (rD (mCall 1 r_wrong_function [] (gVal (eVar 0) (mret [])))))
  (sIf (asB (bin isntD (eVar 1) (mret .non))) (sRaise "InvalidFunctions" "index" (eVar 1)) sNx)))
def r_check_functions : Fn := bodyFn 2 b_check_functions
def b_Program_init : S → Out := (sSeq (sDrop (rD (mCall 1 r_check_functions [] (gVal (eVar 1) (mret [])))))
  (sSetF 0 "Program" "bodies" (eVar 1)))
def r_Program_init : Fn := bodyFn 2 b_Program_init
def b__law_right_2 : S → Out := (sApp 2 (eTup (aCons (bin atD (eLst (aCons (mret (.str "s")) (aCons (mret (.str "ss")) (aCons (mret (.str "sss")) (aCons (mret (.str "t")) (mret [])))))) (rD (mCall 2 r__law_ladle [] (gSl 0 (gVal (mret (.int 4)) (mret [])))))) (aCons (mret (.int 1)) (aCons (eTup (mret [])) (mret []))))))
def b__law_right_3 : S → Out := (sSeq (sSet 9 (rD (mCall 2 r__law_ladle [] (gSl 0 (gVal (calP lenC 2) (mret []))))))
  (sSetIx 2 (eVar 9) (rD (mCall 3 r__law_bent [] (gSl 0 (gVal (eTup (aCons (bin atD (eLst (aCons (mret (.str "s")) (aCons (mret (.str "t")) (aCons (mret (.str "u")) (mret []))))) (rD (mCall 2 r__law_ladle [] (gSl 0 (gVal (mret (.int 3)) (mret [])))))) (aCons (mret (.int 3)) (aCons (eTup (aCons (eTup (aCons (bin atD (eVar 3) (mret (.int 0))) (aCons (mret (.int 2)) (mret [])))) (mret []))) (mret []))))) (gVal (eVar 3) (mret []))))))))
def b__law_right_1 : S → Out := (sSeq (sSetO 2 (calN lstC (aCons (rD (mCall 4 r__law_table [] (gSl 0 (gVal (mret (.int 5)) (gVal (mret (.int 4)) (gVal (mret (.int 9)) (mret []))))))) (mret []))))
  (sSeq (frzO 3 (sSetO 3 (keepV 2 (oLc [10] (iOf (eVar 2)) (.nm 10) mYes (bin atD (eVar 10) (mret (.int 0)))))))
  (sSeq (sForW [4] (iRng rng1 (aCons (rD (mCall 2 r__law_ladle [] (gSl 0 (gVal (mret (.int 3)) (mret []))))) (mret []))) (.nm 4) b__law_right_2)
  (sSeq (sForW [5, 9] (iRng rng1 (aCons (rD (mCall 2 r__law_ladle [] (gSl 0 (gVal (mret (.int 3)) (mret []))))) (mret []))) (.nm 5) b__law_right_3)
  (sSeq (sSet 6 (cal tupC (aCons (eVar 2) (mret []))))
  (sSeq (sIf (asB (bin eqD (rD (mCall 2 r__law_ladle [] (gSl 0 (gVal (mret (.int 9)) (mret []))))) (mret (.int 0)))) (sSet 6 (bin atD (eLst (aCons (eVar 2) (aCons (eTup (mret [])) (aCons (mret .non) (aCons (mret (.str "a 1")) (aCons (mret (.dic [])) (aCons (slotThen 2 (mret (.int 0)) atD) (mret [])))))))) (rD (mCall 2 r__law_ladle [] (gSl 0 (gVal (mret (.int 6)) (mret []))))))) sNx)
  (sSeq (sSet 7 (eLst (aCons (mret (.str "back")) (aCons (cal reprY (aCons (eVar 6) (mret []))) (mret [])))))
  (sSeq (sIf (tOrB (tNotB (tru (cal (isiC cls) (aCons (eVar 6) (aCons (mret (.ty "tuple")) (mret [])))))) (asB (bin eqT0 (eVar 6) (eTup (mret []))))) (sSet 7 (eLst (aCons (mret (.str "functions")) (aCons (mret (.str "None")) (mret []))))) (sIf (asB (bin (cmpI fun i j => decide (j ≤ i)) (rD (mCall 1 r__law_wrong [] (gVal (eVar 6) (mret [])))) (mret (.int 0)))) (sSet 7 (eLst (aCons (mret (.str "functions")) (aCons (cal reprZ (aCons (rD (mCall 1 r__law_wrong [] (gVal (eVar 6) (mret [])))) (mret []))) (mret []))))) sNx))
  (sSeq (sSetO 8 (oLst (aCons (rD (toldM csX 4 1 3 b__law_told_R b__law_told_S (rD (mProp r_Program_functions (recvD "Program" "functions" (rD (mMake 2 "Program" r_Program_init [] (gVal (eVar 6) (mret []))))))))) (mret []))))
  (sSeq (sApp 8 (rD (toldM csX 4 1 3 b__law_told_R b__law_told_S (rD (mProp r_Program_functions (recvD "Program" "functions" (rD (mMakeK 1 2 "Program" r_Program_init [0] (gVal (eVar 6) (mret []))))))))))
  (sIf (asB (bin neD (eVar 8) (eLst (aCons (eVar 7) (aCons (eVar 7) (mret [])))))) (sRet (mret (.bl false))) sNx)))))))))))
def b__law_right : S → Out := (sSeq (sForW [1, 2, 3, 4, 5, 6, 7, 8, 9] (iRng rng1 (aCons (mret (.int 5)) (mret []))) (.nm 1) b__law_right_1)
  (sRet (mret (.bl true))))
def r__law_right : Fn := bodyFn 11 b__law_right
def b__law_vat_1 : S → Out := (sSet 3 (bin modD (cal intC (aCons (bin addD (bin mulD (eVar 3) (mret (.int 6364136223846793005))) (eVar 4)) (mret []))) (mret (.int 18446744073709551557))))
def b__law_vat : S → Out := (sSeq (sSet 2 (eIf (asB (bin (cmpI fun i j => decide (i < j)) (eVar 1) (cal lenC (aCons (eVar 0) (mret []))))) (bin atD (eVar 0) (eVar 1)) (bin addD (mret (.int 77)) (bin mulD (mret (.int 2)) (eVar 1)))))
  (sSeq (sSet 3 (bin mulD (mret (.int 7368787)) (bin addD (eVar 1) (mret (.int 3)))))
  (sSeq (sForW [4] (iOf (bin addD (slice (eVar 0) (mret none) (pSome (mret (.int 5)))) (eLst (aCons (eVar 2) (mret []))))) (.nm 4) b__law_vat_1)
  (sRetO (oLst (aCons (eIf (asB (bin (cmpI fun i j => decide (j ≤ i)) (cal absC (aCons (eVar 2) (mret []))) (bin powD (mret (.int 10)) (mret (.int 18))))) (cal absC (aCons (eVar 2) (mret []))) (mret (.int 0))) (aCons (eVar 3) (aCons (mret (.int 0)) (mret [])))))))))
def r__law_vat : Fn := bodyFn 5 b__law_vat
def b_law_1 : S → Out := (sIf (tNotB (tru (rD (mCall1 r__law_right (rO (mCall 2 r__law_vat [] (gVal (eVar 0) (gVal (eVar 1) (mret []))))))))) (sRet (mret (.bl false))) sNx)
def b_law : S → Out := (sSeq (sForW [1] (iRng rng1 (aCons (cal max2C (aCons (mret (.int 2)) (aCons (cal min2C (aCons (cal lenC (aCons (eVar 0) (mret []))) (aCons (mret (.int 5)) (mret [])))) (mret [])))) (mret []))) (.nm 1) b_law_1)
  (sRet (mret (.bl true))))
def r_law : Fn := bodyFn 2 b_law
end Wk
set_option maxHeartbeats 4000000
/-! The draws. -/
namespace Wk
open PySem PyProof.Rows L2 DL
def Vat (n : Nat) (c : Cell) : Prop := ∃ a b k : Int, c = .lst [.int a, .int b, .int k] ∧ 0 ≤ k ∧ k ≤ n
theorem Vat.mono {n m : Nat} {c : Cell} (h : Vat n c) (hm : n ≤ m) : Vat m c := by
  obtain ⟨a, b, k, e, h0, h1⟩ := h
  exact ⟨a, b, k, e, h0, by omega⟩
def NoVal (x : Sl) : Prop := x = .no ∨ ∃ d, x = .val d
theorem at_map {α : Type} {e : α → D} {xs : List α} {v : Int} (h0 : 0 ≤ v) (h1 : v < xs.length) : ∃ x ∈ xs, atD (.lst (xs.map e)) (.int v) = some (e x) ∧ atD (.tup (xs.map e)) (.int v) = some (e x) := by
  have hv : v.toNat < xs.length := by omega
  refine ⟨xs[v.toNat], List.getElem_mem hv, ?_, ?_⟩ <;> simp [atD, atI, ixN, h0, h1, hv]
theorem at_nat {xs : List D} {i : Nat} (h : i < xs.length) : atD (.lst xs) (.int (i : Int)) = some xs[i] ∧ atD (.tup xs) (.int (i : Int)) = some xs[i] := by
  constructor <;> simp [atD, atI, ixN, h]
@[simp] theorem at_c0 {x : D} {r : List D} : atD (.lst (x :: r)) (.int 0) = some x ∧ atD (.tup (x :: r)) (.int 0) = some x := by
  constructor <;> simp [atD, atI, ixN]
theorem rng1_int (j : Int) (h0 : 0 ≤ j) (h1 : j ≤ 1000) : rng1 [.int j] = some (rngD 0 j.toNat) := by
  have := rng1_nat j.toNat (by omega)
  rwa [Int.toNat_of_nonneg h0] at this
/-- a loop that draws: its head's state is st b c, b what was made so far -/
theorem forD_vat {α β : Type} {p : Pat} {f : S → Out} (e : α → D) (st : β → Cell → S) (I : List α → β → Prop) (w n : Nat) (xs : List α) (b0 : β) (c0 : Cell) (hv : Vat n c0) (hn : n + w * xs.length ≤ 900000) (h0 : I [] b0)
    (turn : ∀ pre x post, xs = pre ++ x :: post → ∀ b c m, I pre b → Vat m c → m + w ≤ 900000 → ∃ b' c' s1, p.bind (e x) (st b c) = some s1 ∧ f s1 = .nx (st b' c') ∧ I (pre ++ [x]) b' ∧ Vat (m + w) c') :
    ∃ b' c', I xs b' ∧ Vat (n + w * xs.length) c' ∧ forD p f (xs.map e) (st b0 c0) = .nx (st b' c') := by
  have key : ∀ (ys pre : List α) (b : β) (c : Cell) (m : Nat), pre ++ ys = xs → I pre b → Vat m c → m + w * ys.length ≤ 900000 → ∃ b' c', I xs b' ∧ Vat (m + w * ys.length) c' ∧ forD p f (ys.map e) (st b c) = .nx (st b' c') := by
    intro ys
    induction ys with
    | nil => intro pre b c m hp hb hv _; exact ⟨b, c, by rw [← hp]; simpa using hb, by simpa using hv, rfl⟩
    | cons y ys ih =>
      intro pre b c m hp hb hv hm
      simp only [List.length_cons, Nat.mul_add, Nat.mul_one] at hm
      obtain ⟨b1, c1, s1, e1, e2, i1, v1⟩ := turn pre y ys hp.symm b c m hb hv (by omega)
      obtain ⟨b2, c2, i2, v2, e3⟩ := ih (pre ++ [y]) b1 c1 (m + w) (by rw [← hp]; simp) i1 v1 (by omega)
      refine ⟨b2, c2, i2, ?_, by simp only [List.map_cons, forD, e1, e2, e3]⟩
      simp only [List.length_cons, Nat.mul_add, Nat.mul_one]
      rw [show m + (w * ys.length + w) = m + w + w * ys.length by omega]
      exact v2
  exact key xs [] b0 c0 n rfl h0 hv hn
theorem ladle {n : Nat} (c : Cell) (m : Int) (hv : Vat n c) (hn : n < 1000000) (h0 : 0 < m) (h1 : m < 1073741824) :
    ∃ (v : Int) (c' : Cell), 0 ≤ v ∧ v < m ∧ Vat (n + 1) c' ∧ r__law_ladle [.io 0, .val (.int m)] [c] = .rt (.val (.int v)) [c'] := by
  obtain ⟨a, b, k, rfl, hk0, hk1⟩ := hv
  by_cases h : 0 < a
  · refine ⟨a % m, .lst [.int (a / m), .int b, .int k], Int.emod_nonneg _ (by omega), Int.emod_lt_of_pos _ h0, ⟨_, _, _, rfl, hk0, by omega⟩, ?_⟩
    simp [r__law_ladle, bodyFn, b__law_ladle, atD, atI, cdL, cdI, cdK, ixN, h, divmodC, h0, h1]
  · have hb : small64b (k + 1) = true := by
      simp only [small64b, Bool.and_eq_true, decide_eq_true_eq]; omega
    refine ⟨_, .lst [.int a, .int ((b * 2862933555777941757 + 3037000493 * (k + 1) * (k + 1)) % 18446744073709551557), .int (k + 1)], Int.emod_nonneg (((b * 2862933555777941757 + 3037000493 * (k + 1) * (k + 1)) % 18446744073709551557) / 33554432) (by omega), Int.emod_lt_of_pos _ h0, ⟨_, _, _, rfl, by omega, by omega⟩, ?_⟩
    simp [r__law_ladle, bodyFn, b__law_ladle, atD, atI, cdL, cdI, cdK, ixN, h, divmodC, h0, h1, mulD, modD, fdivD, hb, show small64b 2862933555777941757 = true from by decide, show small64b 3037000493 = true from by decide]
/-- whatever the slots behind the first are -/
theorem run_ladle' {n : Nat} (c : Cell) (m : Int) (hv : Vat n c) (hn : n < 1000000) (h0 : 0 < m) (h1 : m < 1073741824) :
    ∃ (v : Int) (c' : Cell), 0 ≤ v ∧ v < m ∧ Vat (n + 1) c' ∧ ∀ sl io, runFn r__law_ladle [] [.sl 0, .val (.int m)] ⟨.io 0 :: sl, c :: io⟩ = .ok (.val (.int v)) ⟨.io 0 :: sl, c' :: io⟩ := by
  obtain ⟨v, c', e0, e1, e2, e3⟩ := ladle c m hv hn h0 h1
  refine ⟨v, c', e0, e1, e2, fun sl io => ?_⟩
  simp [runFn, gathI, cellsAt, apart, notIn, gathA, e3, DL.putAll]
/-- a def that only draws from its first argument -/
theorem run_vat1 {r : Fn} {c c' : Cell} {v : RV} (h : r [.io 0] [c] = .rt v [c']) (sl : List Sl) (io : List Cell) : runFn r [] [.sl 0] ⟨.io 0 :: sl, c :: io⟩ = .ok v ⟨.io 0 :: sl, c' :: io⟩ := by
  simp [runFn, gathI, cellsAt, apart, notIn, gathA, h, DL.putAll]
theorem run_vat2 {r : Fn} {c c' : Cell} {v : RV} {a : D} (h : r [.io 0, .val a] [c] = .rt v [c']) (sl : List Sl) (io : List Cell) : runFn r [] [.sl 0, .val a] ⟨.io 0 :: sl, c :: io⟩ = .ok v ⟨.io 0 :: sl, c' :: io⟩ := by
  simp [runFn, gathI, cellsAt, apart, notIn, gathA, h, DL.putAll]
theorem run_vat3 {r : Fn} {c c' : Cell} {v : RV} {a b : D} (h : r [.io 0, .val a, .val b] [c] = .rt v [c']) (sl : List Sl) (io : List Cell) : runFn r [] [.sl 0, .val a, .val b] ⟨.io 0 :: sl, c :: io⟩ = .ok v ⟨.io 0 :: sl, c' :: io⟩ := by
  simp [runFn, gathI, cellsAt, apart, notIn, gathA, h, DL.putAll]
theorem run_vat4 {r : Fn} {c c' : Cell} {v : RV} {a b d : D} (h : r [.io 0, .val a, .val b, .val d] [c] = .rt v [c']) (sl : List Sl) (io : List Cell) : runFn r [] [.sl 0, .val a, .val b, .val d] ⟨.io 0 :: sl, c :: io⟩ = .ok v ⟨.io 0 :: sl, c' :: io⟩ := by
  simp [runFn, gathI, cellsAt, apart, notIn, gathA, h, DL.putAll]
theorem s64a : small64b 6364136223846793005 = true := by decide +kernel
theorem s64b : small64b 7368787 = true := by decide +kernel
theorem s64c : small64b 2 = true := by decide +kernel
theorem p1018 : powD (.int 10) (.int 18) = some (.int 1000000000000000000) := by
  show (if (0 : Int) ≤ 18 ∧ (18 : Int) ≤ 1000 ∧ (10 : Int).natAbs < 2 ^ 64 then some (D.int ((10 : Int) ^ (18 : Int).toNat)) else none) = _
  rw [if_pos (by decide +kernel)]
  exact congrArg (fun z => some (D.int z)) (by decide +kernel : (10 : Int) ^ 18 = 1000000000000000000)
theorem vat (ns : List Int) (i : Int) (h0 : 0 ≤ i) (hl : ns.length ≤ 1000) : ∃ c, Vat 0 c ∧ r__law_vat [.val (.lst (ns.map .int)), .val (.int i)] [] = .rt (.own c) [] := by
  have ho : ∃ o : Int, (if i < (ns.length : Int) then atD (.lst (ns.map .int)) (.int i) else some (.int (77 + 2 * i))) = some (.int o) := by
    by_cases h : i < (ns.length : Int)
    · obtain ⟨x, _, e, _⟩ := at_map (e := D.int) (xs := ns) h0 h
      exact ⟨x, by rw [if_pos h, e]⟩
    · exact ⟨77 + 2 * i, by rw [if_neg h]⟩
  obtain ⟨o, ho⟩ := ho
  have e1 : cutG (ns.map D.int) none (some 5) = (cutG ns none (some 5)).map .int := by
    simp only [cutG, List.length_map, List.map_take, List.map_drop]
  have e2 : (cutG ns none (some 5)).length ≤ ns.length := by
    simp only [cutG, List.length_take, List.length_drop]; omega
  have e3 : (cutG ns none (some 5)).length + 1 ≤ LN := by simp only [LN]; omega
  have hl1 : 1 ≤ LN := by decide
  have hl3 : 3 ≤ LN := by decide
  have hlen : lenC [.lst (ns.map D.int)] = some (.int (ns.length : Int)) := by simp
  obtain ⟨s', i3, b, i4⟩ := forD_any (p := .nm 4) (f := wipeO [4] b__law_vat_1) D.int
    (fun pre s => ∃ b : Int, s = (⟨[.val (.lst (ns.map .int)), .val (.int i), .val (.int o), .val (.int b), .no], []⟩ : S)) (cutG ns none (some 5) ++ [o]) ⟨[.val (.lst (ns.map .int)), .val (.int i), .val (.int o), .val (.int (7368787 * (i + 3))), .no], []⟩ ⟨_, rfl⟩
    (fun pre x post hp s hs => by
      obtain ⟨b, rfl⟩ := hs
      exact ⟨_, ⟨[.val (.lst (ns.map .int)), .val (.int i), .val (.int o), .val (.int ((b * 6364136223846793005 + x) % 18446744073709551557)), .no], []⟩, rfl, by simp [b__law_vat_1, mulD, s64a, modD], _, rfl⟩)
  subst i4
  have ha : ∃ a : Int, eIf (asB (DL.bin (cmpI fun i j => decide (j ≤ i)) (cal absC (aCons (eVar 2) (mret []))) (DL.bin powD (mret (.int 10)) (mret (.int 18))))) (cal absC (aCons (eVar 2) (mret []))) (mret (.int 0)) (⟨[.val (.lst (ns.map .int)), .val (.int i), .val (.int o), .val (.int b), .no], []⟩ : S) = .ok (.int a) ⟨[.val (.lst (ns.map .int)), .val (.int i), .val (.int o), .val (.int b), .no], []⟩ := by
    by_cases h : (1000000000000000000 : Int) ≤ (if o < 0 then -o else o)
    · exact ⟨_, by simp [absC, p1018, h]; rfl⟩
    · exact ⟨0, by simp [absC, p1018, h]⟩
  obtain ⟨a, ha⟩ := ha
  refine ⟨.lst [.int a, .int b, .int 0], ⟨a, b, 0, rfl, by decide, by decide⟩, ?_⟩
  rw [List.map_append, ← e1, List.map_singleton] at i3
  have e5 : (cutG (ns.map D.int) none (some 5)).length + 1 ≤ LN := by rw [e1, List.length_map]; exact e3
  generalize ns.map D.int = L at *
  refine fn_of (s1 := ⟨[.val (.lst L), .val (.int i), .val (.int o), .val (.int b), .no], []⟩) ?_
  have st1 : sSet 2 (eIf (asB (DL.bin (cmpI fun i j => decide (i < j)) (eVar 1) (cal lenC (aCons (eVar 0) (mret []))))) (DL.bin atD (eVar 0) (eVar 1)) (DL.bin addD (mret (.int 77)) (DL.bin mulD (mret (.int 2)) (eVar 1)))) ⟨[.val (.lst L), .val (.int i), .no, .no, .no], []⟩ = .nx ⟨[.val (.lst L), .val (.int i), .val (.int o), .no, .no], []⟩ := by
    by_cases h : i < (ns.length : Int)
    · rw [if_pos h] at ho
      simp [hlen, h, ho]
    · rw [if_neg h] at ho
      cases ho
      simp [hlen, h, mulD, s64c]
  refine seq_nx st1 (seq_nx (s1 := ⟨[.val (.lst L), .val (.int i), .val (.int o), .val (.int (7368787 * (i + 3))), .no], []⟩) (by simp [mulD, s64b]) (seq_nx (for_of (s1 := ⟨[.val (.lst L), .val (.int i), .val (.int o), .val (.int (7368787 * (i + 3))), .no], []⟩) (ds := cutG L none (some 5) ++ [.int o]) (by simp [slice, pSome, dI, slD, addD, e5, hl1]) i3) ?_))
  rw [q_retO, q_sOf, q_oLst, q_bind, q_aCons, q_bind, ha]
  simp [hl3]
theorem q_call1 (r : Fn) (fo : M Cell) (s : S) : mCall1 r fo s = mbind fo (fun c s => match r [.io 0] [c] with
  | .rt v _ => .ok v s
  | .exc c fs _ => .exc c fs s
  | .bad => .bad) s := rfl
/-- the law, if each drawn case is right -/
theorem law_of (m : Int) (hm0 : 0 ≤ m) (hm1 : m ≤ 100) (hb1 : b_law_1 = sIf (tNotB (tru (rD (mCall1 r__law_right (rO (mCall 2 r__law_vat [] (gVal (eVar 0) (gVal (eVar 1) (mret []))))))))) (sRet (mret (.bl false))) sNx)
    (hb : b_law = sSeq (sForW [1] (iRng rng1 (aCons (cal max2C (aCons (mret (.int 2)) (aCons (cal min2C (aCons (cal lenC (aCons (eVar 0) (mret []))) (aCons (mret (.int m)) (mret [])))) (mret [])))) (mret []))) (.nm 1) b_law_1) (sRet (mret (.bl true))))
    (hr : r_law = bodyFn 2 b_law) (right : ∀ c, Vat 0 c → ∃ c', r__law_right [.io 0] [c] = .rt (.val (.bl true)) [c']) (ns : List Int) (hl : ns.length ≤ 63) : ∃ io, r_law [.val (.lst (ns.map .int))] [] = .rt (.val (.bl true)) io := by
  have hk : ∃ (k : Nat) (j : Int), max2C [.int 2, .int (if m < (ns.length : Int) then m else (ns.length : Int))] = some (.int j) ∧ rng1 [.int j] = some (rngD 0 k) := by
    refine ⟨_, _, rfl, rng1_int _ ?_ ?_⟩
    · split <;> (try split) <;> omega
    · split <;> (try split) <;> omega
  obtain ⟨k, j, hk, hrg⟩ := hk
  have turn : ∀ i : Nat, b_law_1 ⟨[.val (.lst (ns.map .int)), .val (.int (0 + (i : Int)))], []⟩ = .nx ⟨[.val (.lst (ns.map .int)), .val (.int (0 + (i : Int)))], []⟩ := fun i => by
    obtain ⟨c, h1, h2⟩ := vat ns (0 + (i : Int)) (by omega) (by omega)
    obtain ⟨c', h3⟩ := right c h1
    rw [hb1]
    generalize (0 + (i : Int)) = j at *
    generalize ns.map D.int = L at *
    simp [q_call1, run2 h2, h3]
  have lp := forD_same (p := .nm 1) (f := wipeO [1] b_law_1) (fun i : Nat => .int (0 + (i : Int))) (⟨[.val (.lst (ns.map .int)), .no], []⟩ : S) (List.range k) (fun x hx => ⟨_, rfl, by
    have := turn x
    rw [q_put]
    show wipeO [1] b_law_1 ⟨[.val (.lst (ns.map .int)), .val (.int (0 + (x : Int)))], []⟩ = _
    rw [q_wipeO, this]
    rfl⟩)
  have hmin : min2C [.int (ns.length : Int), .int m] = some (.int (if m < (ns.length : Int) then m else (ns.length : Int))) := rfl
  have hle : lenC [.lst (ns.map D.int)] = some (.int (ns.length : Int)) := by simp
  refine ⟨[], ?_⟩
  rw [hr]
  show outFR (b_law ⟨[.val (.lst (ns.map .int)), .no], []⟩) = _
  rw [hb]
  generalize (ns.length : Int) = n at *
  generalize ns.map D.int = L at *
  generalize (if m < n then m else n) = v at *
  simp only [q_seq, q_forW, q_sOf, q_iWipe, q_iRng, q_aCons, q_cal, q_bind, q_ret, q_ok, q_var, List.getElem?_cons_zero, hle, q_opt, hmin, hk, hrg]
  show outFR (match forD (.nm 1) (wipeO [1] b_law_1) ((List.range k).map fun i : Nat => .int (0 + (i : Int))) ⟨[.val (.lst L), .no], []⟩ with
    | .nx s' => _
    | o => o) = _
  rw [lp]
  rfl
end Wk
set_option maxHeartbeats 4000000
/-! Kinds; rules. -/
namespace Wk
open PySem PyProof.Rows L2 DL
inductive Ord where
  | text | size | weight | gain
deriving DecidableEq
def Ord.s : Ord → Str
  | .text => "text" | .size => "size" | .weight => "weight" | .gain => "gain"
structure Ru where
  ord : Ord
  thr : Option Int
  dep : Int
  lone : Bool
  stop : Bool
deriving DecidableEq
def thrD : Option Int → D
  | none => .non
  | some t => .int t
def mfS (b : Bool) : Str := if b = true then "stop" else "skip"
def kvD (a b c d e : D) : D := .dic [(.str "order", a), (.str "threshold", b), (.str "depth", c), (.str "lone", d), (.str "misfit", e)]
def stD (r : Ru) : D := kvD (.str r.ord.s) (thrD r.thr) (.int r.dep) (.bl r.lone) (.str (mfS r.stop))
def ruF (r : Ru) : List (Str × D) := [("stated", stD r)]
def ruD (r : Ru) : D := .ins "Rule" (ruF r)
@[simp] theorem kv_o (a b c d e : D) : dgetD (kvD a b c d e) (.str "order") = some a := by simp [kvD, dgetD, getKv, sameK]
@[simp] theorem kv_t (a b c d e : D) : dgetD (kvD a b c d e) (.str "threshold") = some b := by simp [kvD, dgetD, getKv, sameK]
@[simp] theorem kv_d (a b c d e : D) : dgetD (kvD a b c d e) (.str "depth") = some c := by simp [kvD, dgetD, getKv, sameK]
@[simp] theorem kv_l (a b c d e : D) : dgetD (kvD a b c d e) (.str "lone") = some d := by simp [kvD, dgetD, getKv, sameK]
@[simp] theorem kv_m (a b c d e : D) : dgetD (kvD a b c d e) (.str "misfit") = some e := by simp [kvD, dgetD, getKv, sameK]
@[simp] theorem fld_ru (r : Ru) : fldD "Rule" "stated" (ruD r) = some (stD r) := by simp [ruD, ruF, fldD]
@[simp] theorem cell_ru (r : Ru) : (Cell.ins "Rule" (ruF r)).d = ruD r := rfl
@[simp] theorem insAt_ru (r : Ru) : insAt "Rule" (ruD r) = some () := rfl
/-! texts -/
end Wk
set_option maxHeartbeats 4000000
/-! Drawn words, drawn functions. -/
namespace Wk
open PySem PyProof.Rows L2 DL
def Nm (x : Str) : Prop := 0 < x.length ∧ x.length ≤ 8 ∧ ∀ c ∈ x.cps.toList, 97 ≤ c ∧ c ≤ 122
theorem Nm.ok {x : Str} (h : Wk.Nm x) : PyData.strOk x = true := strOk_of (List.all_eq_true.mpr fun c hc => by
  have := h.2.2 c hc
  simp; omega)
theorem cps_app (x y : Str) : (x ++ y).cps.toList = x.cps.toList ++ y.cps.toList := by
  show (x.cps ++ y.cps).toList = _
  simp
theorem abc : ("abcdefghijklmnopqrstuvwxyz" : Str).cps.toList = (List.range 26).map (97 + ·) := by decide +kernel
theorem letter {v : Int} (h0 : 0 ≤ v) (h1 : v < 26) : ∃ c : Nat, 97 ≤ c ∧ c ≤ 122 ∧ atD (.str "abcdefghijklmnopqrstuvwxyz") (.int v) = some (.str ⟨#[c]⟩) := by
  refine ⟨97 + v.toNat, by omega, by omega, ?_⟩
  have h2 : ("abcdefghijklmnopqrstuvwxyz" : Str).length ≤ LN := by decide +kernel
  have h3 : v.toNat < 26 := by omega
  simp only [atD, h2, if_true, abc, atI, List.length_map, List.length_range, ixN, h0, h1, Option.bind_some]
  simp [h3, h1]
theorem has_abc {c : Nat} (h0 : 97 ≤ c) (h1 : c ≤ 122) : hasS ⟨#[c]⟩ "abcdefghijklmnopqrstuvwxyz" = true := by
  have h : ∀ k < 26, hasS ⟨#[97 + k]⟩ "abcdefghijklmnopqrstuvwxyz" = true := by decide +kernel
  have := h (c - 97) (by omega)
  rwa [show 97 + (c - 97) = c by omega] at this
abbrev kno : List Str := ["order", "none", "yes", "no", "lone", "skip", "a", "main"]
def knoD : D := .lst (kno.map .str)
theorem known : ∀ x ∈ kno, Wk.Nm x := by
  intro x hx
  simp only [List.mem_cons, List.not_mem_nil, or_false] at hx
  unfold Wk.Nm
  rcases hx with rfl | rfl | rfl | rfl | rfl | rfl | rfl | rfl <;> decide +kernel
theorem rep_len (k : Nat) : (repS "q" k).length = k := by
  show (List.replicate k _).flatten.toArray.size = k
  have e : ("q" : Str).cps.toList = [113] := by decide +kernel
  simp [e, List.length_flatten]
theorem rep_nm {k : Nat} (h0 : 0 < k) (h1 : k ≤ 8) : Wk.Nm (repS "q" k) := by
  refine ⟨by rw [rep_len]; exact h0, by rw [rep_len]; exact h1, fun c hc => ?_⟩
  have e : ("q" : Str).cps.toList = [113] := by decide +kernel
  simp [repS, e] at hc
  omega
theorem fresh {ns : List Str} {m : Nat} (h : ns.length < m) : ∃ k < m, repS "q" (k + 1) ∉ ns := by
  refine Classical.byContradiction fun hc => ?_
  have h1 : ∀ k < m, repS "q" (k + 1) ∈ ns := fun k hk => Classical.byContradiction fun h2 => hc ⟨k, hk, h2⟩
  have h2 : ((List.range m).map fun k => repS "q" (k + 1)).Nodup := by
    rw [List.nodup_iff_pairwise_ne, List.pairwise_map]
    refine List.Pairwise.imp (fun {a b} hab e => ?_) (List.pairwise_lt_range (n := m))
    have := congrArg Str.length e
    rw [rep_len, rep_len] at this
    omega
  have h3 := List.Nodup.length_le_of_subset h2 (l₂ := ns) (fun x hx => by
    obtain ⟨k, hk, rfl⟩ := List.mem_map.mp hx
    exact h1 k (List.mem_range.mp hk))
  simp at h3
  omega
abbrev Sw (m : Int) (ns : List Str) (x3 x6 : Sl) (c : Cell) : S := ⟨[.io 0, .val (.int m), .own (.lst (ns.map .str)), x3, .val (.str "abcdefghijklmnopqrstuvwxyz"), .val knoD, x6, .no, .no, .no], [c]⟩
theorem w_word {n : Nat} (c : Cell) (m : Int) (ns : List Str) (x3 : Sl) (k : Nat) (hv : Vat n c) (hn : n + k ≤ 900000) (hk : k ≤ 8) :
    ∃ (w : Str) (c' : Cell), w.length = k ∧ (∀ c ∈ w.cps.toList, 97 ≤ c ∧ c ≤ 122) ∧ Vat (n + k) c' ∧ forD (.nm 7) (wipeO [7] b__law_words_2) (rngD 0 k) (Sw m ns x3 (.val (.str "")) c) = .nx (Sw m ns x3 (.val (.str w)) c') := by
  obtain ⟨w, c', ⟨h1, h2⟩, v, e⟩ := forD_vat (p := .nm 7) (f := wipeO [7] b__law_words_2) (fun i : Nat => .int (0 + (i : Int))) (fun w c => Sw m ns x3 (.val (.str w)) c) (fun pre w => w.length = pre.length ∧ ∀ c ∈ w.cps.toList, 97 ≤ c ∧ c ≤ 122) 1 n (List.range k) "" c hv (by simp; omega)
    ⟨rfl, fun c hc => absurd hc (by rw [show ("" : Str).cps.toList = [] from by decide +kernel]; simp)⟩
    (fun pre x post hp w c j ⟨i1, i2⟩ hv hj => by
      have hl : pre.length < k := by have := congrArg List.length hp; simp at this; omega
      obtain ⟨v, c2, j1, j2, j3, j4⟩ := run_ladle' c 26 hv (by omega) (by decide) (by decide)
      obtain ⟨a, a1, a2, a3⟩ := letter j1 j2
      have hw : w.length + 1 ≤ LN := by simp only [LN]; omega
      have hw' : (⟨#[a]⟩ : Str).length = 1 := rfl
      refine ⟨w ++ ⟨#[a]⟩, c2, _, rfl, by simp [b__law_words_2, j4, a3, addD, hw, hw'], ⟨by simp [len_app, i1, hw'], fun c hc => ?_⟩, j3⟩
      rw [cps_app, List.mem_append] at hc
      rcases hc with hc | hc
      · exact i2 c hc
      · simp at hc; subst hc; exact ⟨a1, a2⟩)
  exact ⟨w, c', by simpa using h1, h2, by simpa using v, e⟩
theorem w_fresh (c : Cell) (m : Int) (M : Nat) (hr : rng1 [.int m] = some (rngD 0 M)) (ns : List Str) (x3 : Sl) (w : Str) (hm : M ≤ 8) (hl : ns.length < M) (hn : ∀ x ∈ ns, Wk.Nm x) (hw : Wk.Nm w) (h3 : NoVal x3) :
    ∃ w' : Str, Wk.Nm w' ∧ w' ∉ ns ∧ sIf (asB (binP inD (eVar 6) 2)) (sSet 6 (DL.bin atD (eLc [8] (iOf (eLc [9] (iRng rng1 (aCons (eVar 1) (mret []))) (.nm 9) mYes (DL.bin mulD (mret (.str "q")) (DL.bin addD (eVar 9) (mret (.int 1)))))) (.nm 8) (asB (binP notInD (eVar 8) 2)) (eVar 8)) (mret (.int 0)))) sNx (Sw m ns x3 (.val (.str w)) c) = .nx (Sw m ns x3 (.val (.str w')) c) := by
  have hok : ∀ x ∈ ns, PyData.strOk x = true := fun x hx => (hn x hx).ok
  have e := in_strs hw.ok hok
  by_cases h : w ∈ ns
  · obtain ⟨k, k1, k2⟩ := fresh hl
    have io3 : ∀ (n : Nat) (r : List Sl), ioLt n (x3 :: r) = ioLt n r := fun n r => by rcases h3 with rfl | ⟨d, rfl⟩ <;> rfl
    have e4 : ("q" : Str).length ≤ 1000 := by decide +kernel
    have q1 := lc_all (vs := [9]) (fi := iRng rng1 (aCons (eVar 1) (mret []))) (p := .nm 9) (fe := DL.bin mulD (mret (.str "q")) (DL.bin addD (eVar 9) (mret (.int 1)))) (s := Sw m ns x3 (.val (.str w)) c) (List.range M) (fun i : Nat => .int (0 + (i : Int))) (fun i => .str (repS "q" (i + 1)))
      (sl := (Sw m ns x3 (.val (.str w)) c).sl) (io := [c]) (slB := fun i => [.io 0, .val (.int m), .own (.lst (ns.map .str)), x3, .val (.str "abcdefghijklmnopqrstuvwxyz"), .val knoD, .val (.str w), .no, .no, .val (.int (0 + (i : Int)))])
      (by simp only [q_iRng, q_aCons, q_bind, q_var, List.getElem?_cons_succ, List.getElem?_cons_zero, q_ok, q_ret, hr, q_opt]; rfl) (by simp [LN]; omega) (fun i hi io => rfl)
      (fun i hi c => by
        have h8 : i < M := List.mem_range.mp hi
        have e1 : (0 : Int) ≤ (i : Int) + 1 := by omega
        have e2 : (i : Int) + 1 ≤ 1000 := by omega
        have e3 : ((i : Int) + 1).toNat = i + 1 := by omega
        simp [mulD, e1, e2, e3, e4]) (fun i hi => rfl) (by simp [io3]) (fun i hi => by simp [io3])
    have q2 : eLcL [8] (iOf (eLc [9] (iRng rng1 (aCons (eVar 1) (mret []))) (.nm 9) mYes (DL.bin mulD (mret (.str "q")) (DL.bin addD (eVar 9) (mret (.int 1)))))) (.nm 8) (asB (binP notInD (eVar 8) 2)) (eVar 8) (Sw m ns x3 (.val (.str w)) c)
        = .ok ((((List.range M).map fun i => repS "q" (i + 1)).filter fun x => !decide (x ∈ ns)).map D.str) (Sw m ns x3 (.val (.str w)) c) := by
      refine eLcL_pure (e := D.str) ((List.range M).map fun i => repS "q" (i + 1)) (Sw m ns x3 (.val (.str w)) c).sl (Sw m ns x3 (.val (.str w)) c).sl [c]
        (fun x => [.io 0, .val (.int m), .own (.lst (ns.map .str)), x3, .val (.str "abcdefghijklmnopqrstuvwxyz"), .val knoD, .val (.str w), .no, .val (.str x), .no]) (fun x => !decide (x ∈ ns)) D.str ?_ ?_ ?_ ?_ ?_ ?_ ?_ ?_ ?_
      · simp only [q_iOf, q_eLc, q_bind, q1, q_ok, q_ret, q_walkL, q_opt, List.map_map]; rfl
      · simp [LN]; omega
      · intro i hi io'; rfl
      · intro x hx c
        have hx' : PyData.strOk x = true := by
          obtain ⟨i, hi, rfl⟩ := List.mem_map.mp hx
          have := List.mem_range.mp hi
          exact (rep_nm (by omega) (by omega)).ok
        simp [notIn_strs hx' hok, cdL, cdI, cdK, flatD]
      · intro i hi _ c; simp
      · intro i hi; rfl
      · simp [io3]
      · intro i hi; simp [io3]
      · rfl
    obtain ⟨x, r, q4⟩ : ∃ x r, (((List.range M).map fun i => repS "q" (i + 1)).filter fun x => !decide (x ∈ ns)) = x :: r := by
      cases hc : (((List.range M).map fun i => repS "q" (i + 1)).filter fun x => !decide (x ∈ ns)) with
      | cons x r => exact ⟨x, r, rfl⟩
      | nil =>
        have := List.filter_eq_nil_iff.mp hc (repS "q" (k + 1)) (List.mem_map.mpr ⟨k, List.mem_range.mpr k1, rfl⟩)
        simp [k2] at this
    have hx : x ∈ (((List.range M).map fun i => repS "q" (i + 1)).filter fun x => !decide (x ∈ ns)) := by rw [q4]; exact List.mem_cons_self ..
    obtain ⟨hx1, hx2⟩ := List.mem_filter.mp hx
    obtain ⟨i, hi, hxe⟩ := List.mem_map.mp hx1
    have hi' := List.mem_range.mp hi
    refine ⟨x, by rw [← hxe]; exact rep_nm (by omega) (by omega), by simpa using hx2, ?_⟩
    rw [q4] at q2
    have e5 : atD (.lst ((x :: r).map D.str)) (.int 0) = some (.str x) := (at_c0 (x := D.str x) (r := r.map D.str)).1
    simp only [q_if, q_sOf, q_asB, q_binP, q_bind, q_var, List.getElem?_cons_succ, List.getElem?_cons_zero, q_ok, q_mpeek, q_peek, cdL, cdI, cdK, q_opt, e, Option.bind_some, flatD, q_dB, h, decide_true, if_true, q_set, q_bin, q_eLc, q2, q_ret, e5, q_put, List.set_cons_succ, List.set_cons_zero]
  · refine ⟨w, hw, h, ?_⟩
    simp [e, cdL, cdI, cdK, flatD, h]
theorem words {n : Nat} (c : Cell) (m : Int) (M : Nat) (hr : rng1 [.int m] = some (rngD 0 M)) (hv : Vat n c) (hn : n + 100 ≤ 900000) (hm : M ≤ 8) :
    ∃ (ns : List Str) (c' : Cell), Vat (n + 100) c' ∧ ns.length = M ∧ ns.Nodup ∧ (∀ x ∈ ns, Wk.Nm x) ∧ r__law_words [.io 0, .val (.int m)] [c] = .rt (.own (.lst (ns.map .str))) [c'] := by
  obtain ⟨ns, c', ⟨h1, h2, h3⟩, v, e⟩ := forD_vat (p := .nm 3) (f := wipeO [3, 6, 7] b__law_words_1) (fun i : Nat => .int (0 + (i : Int))) (fun ns c => Sw m ns .no .no c) (fun pre ns => ns.length = pre.length ∧ ns.Nodup ∧ ∀ x ∈ ns, Wk.Nm x) 11 n (List.range M) [] c hv (by simp; omega)
    ⟨rfl, List.nodup_nil, fun x hx => nomatch hx⟩
    (fun pre i post hp ns c j ⟨i1, i2, i3⟩ hv hj => by
      have hl : pre.length < M := by have := congrArg List.length hp; simp at this; omega
      obtain ⟨v, c1, j1, j2, j3, j4⟩ := run_ladle' c 4 hv (by omega) (by decide) (by decide)
      have hk : ∃ (k : Nat) (j : Int), 0 < k ∧ k ≤ 8 ∧ atD (.lst [.int 1, .int 2, .int 4, .int 8]) (.int v) = some (.int j) ∧ rng1 [.int j] = some (rngD 0 k) := by
        have : v = 0 ∨ v = 1 ∨ v = 2 ∨ v = 3 := by omega
        rcases this with rfl | rfl | rfl | rfl
        · exact ⟨1, ((1 : Nat) : Int), by decide, by decide, rfl, rng1_nat _ (by decide)⟩
        · exact ⟨2, ((2 : Nat) : Int), by decide, by decide, rfl, rng1_nat _ (by decide)⟩
        · exact ⟨4, ((4 : Nat) : Int), by decide, by decide, rfl, rng1_nat _ (by decide)⟩
        · exact ⟨8, ((8 : Nat) : Int), by decide, by decide, rfl, rng1_nat _ (by decide)⟩
      obtain ⟨k, jj, k0, k1, k2, hr2⟩ := hk
      obtain ⟨w1, c2, g1, g2, g3, g4⟩ := w_word c1 m ns (.val (.int (0 + (i : Int)))) k j3 (by omega) k1
      have n1 : Wk.Nm w1 := ⟨by omega, by omega, g2⟩
      obtain ⟨u, c3, a1, a2, a3, a4⟩ := run_ladle' c2 4 g3 (by omega) (by decide) (by decide)
      have h8 : ∃ (w2 : Str) (c4 : Cell), Wk.Nm w2 ∧ Vat (j + 11) c4 ∧ sIf (asB (DL.bin eqD (rD (mCall 2 r__law_ladle [] (gSl 0 (gVal (mret (.int 4)) (mret []))))) (mret (.int 0)))) (sSet 6 (DL.bin atD (eVar 5) (rD (mCall 2 r__law_ladle [] (gSl 0 (gVal (mret (.int 8)) (mret []))))))) sNx (Sw m ns (.val (.int (0 + (i : Int)))) (.val (.str w1)) c2) = .nx (Sw m ns (.val (.int (0 + (i : Int)))) (.val (.str w2)) c4) := by
        by_cases hu : u = 0
        · obtain ⟨t, c4, b1, b2, b3, b4⟩ := run_ladle' c3 8 a3 (by omega) (by decide) (by decide)
          obtain ⟨x, x1, x2, _⟩ := at_map (e := D.str) (xs := kno) b1 (by simpa using b2)
          rw [show D.lst (kno.map .str) = knoD from rfl] at x2
          exact ⟨x, c4, known x x1, b3.mono (by omega), by simp [a4, hu, b4, x2]⟩
        · exact ⟨w1, c3, n1, a3.mono (by omega), by simp [a4, hu]⟩
      obtain ⟨w2, c4, n2, v4, e4⟩ := h8
      obtain ⟨w3, n3, f3, e5⟩ := w_fresh c4 m M hr ns (.val (.int (0 + (i : Int)))) w2 hm (by omega) i3 n2 (.inr ⟨_, rfl⟩)
      have hl' : ns.length < LN := by simp only [LN]; omega
      have l4 : 4 ≤ LN := by decide
      refine ⟨ns ++ [w3], c4, _, rfl, ?_, ⟨by simp [i1], ?_, ?_⟩, v4⟩
      · have main : b__law_words_1 (Sw m ns (.val (.int (0 + (i : Int)))) .no c) = .nx (Sw m (ns ++ [w3]) (.val (.int (0 + (i : Int)))) (.val (.str w3)) c4) := by
          refine seq_nx (s1 := Sw m ns (.val (.int (0 + (i : Int)))) (.val (.str "")) c) rfl (seq_nx (for_of (ds := rngD 0 k) (s1 := Sw m ns (.val (.int (0 + (i : Int)))) (.val (.str "")) c1) (by simp [j4, k2, hr2, l4]) g4) (seq_nx e4 (seq_nx e5 ?_)))
          simp [cdL, cdI, cdK, hl']
        show wipeO [3, 6, 7] b__law_words_1 (Sw m ns (.val (.int (0 + (i : Int)))) .no c) = _
        rw [q_wipeO, main]
        simp
      · rw [List.nodup_append]
        refine ⟨i2, by simp, fun a ha b hb => ?_⟩
        simp at hb
        subst hb
        intro e
        exact f3 (e ▸ ha)
      · intro y hy
        rcases List.mem_append.mp hy with hy | hy
        · exact i3 y hy
        · simp at hy; subst hy; exact n3)
  refine ⟨ns, c', v.mono (by simp; omega), by simpa using h1, h2, h3, ?_⟩
  refine fn_of (s1 := (Sw m ns .no .no c').put 2 .no) ?_
  refine seq_nx (s1 := ⟨[.io 0, .val (.int m), .no, .no, .val (.str "abcdefghijklmnopqrstuvwxyz"), .val knoD, .no, .no, .no, .no], [c]⟩) rfl (seq_nx (s1 := Sw m [] .no .no c) rfl (seq_nx (for_of (ds := rngD 0 M) (s1 := Sw m [] .no .no c) ?_ e) rfl))
  simp only [Sw, q_iRng, q_aCons, q_bind, q_var, List.getElem?_cons_succ, List.getElem?_cons_zero, q_ok, q_ret, hr, q_opt]
abbrev Ca := Str × Int
abbrev Fu := Str × Int × List Ca
def encC (c : Ca) : D := .tup [.str c.1, .int c.2]
def encF (f : Fu) : D := .tup [.str f.1, .int f.2.1, .tup (f.2.2.map encC)]
def encT (t : List Fu) : D := .tup (t.map encF)
structure FuOk (ns : List Str) (f : Fu) : Prop where
  nm : Wk.Nm f.1
  lo : 1 ≤ f.2.1
  hi : f.2.1 ≤ 50
  len : f.2.2.length ≤ 4
  ca : ∀ c ∈ f.2.2, c.1 ∈ ns ∧ 1 ≤ c.2 ∧ c.2 ≤ 9
structure Good (t : List Fu) : Prop where
  lo : 0 < t.length
  hi : t.length ≤ 6
  nd : (t.map (·.1)).Nodup
  fu : ∀ f ∈ t, FuOk (t.map (·.1)) f
abbrev Tb (p q r : Int) (ns : List Str) (fs : List Fu) (x4 x8 x9 : Sl) (c : Cell) : S := ⟨[.io 0, .val (.int p), .val (.int q), .val (.int r), x4, .val (.lst (ns.map .str)), .own (.lst (fs.map encF)), .no, x8, x9, .no], [c]⟩
/-- drawn functions: at most p of them, at most q calls each, sizes to r -/
theorem table {n : Nat} (c : Cell) (p q r : Int) (hv : Vat n c) (hn : n + 1000 ≤ 900000) (p0 : 1 ≤ p) (p1 : p ≤ 6) (q0 : 0 ≤ q) (q1 : q ≤ 4) (r0 : 1 ≤ r) (r1 : r ≤ 50) :
    ∃ (t : List Fu) (c' : Cell), Vat (n + 1000) c' ∧ Good t ∧ t.length ≤ p.toNat ∧ (∀ f ∈ t, f.2.2.length ≤ q.toNat ∧ f.2.1 ≤ r) ∧ r__law_table [.io 0, .val (.int p), .val (.int q), .val (.int r)] [c] = .rt (.val (encT t)) [c'] := by
  obtain ⟨v, c1, i1, i2, i3, i4⟩ := run_ladle' c p hv (by omega) (by omega) (by omega)
  have hr := rng1_int (1 + v) (by omega) (by omega)
  obtain ⟨ns, c2, j1, j2, j3, j4, j5⟩ := words c1 (1 + v) (1 + v).toNat hr i3 (by omega) (by omega)
  have l2 : 2 ≤ LN := by decide
  have l3 : 3 ≤ LN := by decide
  have l4 : 4 ≤ LN := by decide
  obtain ⟨fs, c', ⟨e1, e2, e3⟩, vv, e⟩ := forD_vat (p := .nm 4) (f := wipeO [4, 7, 8, 9, 10] b__law_table_1) D.str (fun fs c => Tb p q r ns fs .no .no .no c) (fun pre fs => fs.map (·.1) = pre ∧ (∀ f ∈ fs, FuOk ns f) ∧ ∀ f ∈ fs, f.2.2.length ≤ q.toNat ∧ f.2.1 ≤ r) 14 (n + 1 + 100) ns [] c2 j1 (by omega)
    ⟨rfl, (fun x hx => nomatch hx), fun x hx => nomatch hx⟩
    (fun pre x post hp fs c j ⟨k1, k2, k3⟩ hv hj => by
      have hlp : pre.length < ns.length := by have := congrArg List.length hp; simp at this; omega
      have hfl : fs.length = pre.length := by rw [← k1]; simp
      obtain ⟨a, c3, a1, a2, a3, a4⟩ := run_ladle' c r hv (by omega) (by omega) (by omega)
      obtain ⟨b, c4, b1, b2, b3, b4⟩ := run_ladle' c3 (q + 1) a3 (by omega) (by omega) (by omega)
      have hb := rng1_int b b1 (by omega)
      obtain ⟨cs, c5, ⟨g1, g2⟩, g3, g4⟩ := forD_vat (p := .nm 7) (f := wipeO [7, 10] b__law_table_2) (fun i : Nat => .int (0 + (i : Int))) (fun cs c => Tb p q r ns fs (.val (.str x)) (.val (.int (1 + a))) (.own (.lst (cs.map encC))) c) (fun pre cs => cs.length = pre.length ∧ ∀ y ∈ cs, y.1 ∈ ns ∧ 1 ≤ y.2 ∧ y.2 ≤ 9) 3 (j + 1 + 1) (List.range b.toNat) ([] : List Ca) c4 b3 (by simp; omega)
        ⟨rfl, fun x hx => nomatch hx⟩
        (fun pre y post hp cs c j' ⟨m1, m2⟩ hv hj' => by
          have hl : pre.length < b.toNat := by have := congrArg List.length hp; simp at this; omega
          obtain ⟨o1, d1, s1, s2, s3, s4⟩ := run_ladle' c (ns.length : Int) hv (by omega) (by omega) (by omega)
          obtain ⟨z, z1, z2, _⟩ := at_map (e := D.str) (xs := ns) s1 s2
          obtain ⟨o2, d2, t1, t2, t3, t4⟩ := run_ladle' d1 9 s3 (by omega) (by omega) (by omega)
          obtain ⟨o3, d3, u1, u2, u3, u4⟩ := run_ladle' d2 4 t3 (by omega) (by omega) (by omega)
          have ht : ∃ t : Int, 1 ≤ t ∧ t ≤ 9 ∧ atD (.lst [.int 1, .int 2, .int 9, .int (1 + o2)]) (.int o3) = some (.int t) := by
            have : o3 = 0 ∨ o3 = 1 ∨ o3 = 2 ∨ o3 = 3 := by omega
            rcases this with rfl | rfl | rfl | rfl
            · exact ⟨1, by decide, by decide, rfl⟩
            · exact ⟨2, by decide, by decide, rfl⟩
            · exact ⟨9, by decide, by decide, rfl⟩
            · exact ⟨1 + o2, by omega, by omega, rfl⟩
          obtain ⟨t, t5, t6, t7⟩ := ht
          have hcs : cs.length < LN := by simp only [LN]; omega
          refine ⟨cs ++ [(z, t)], d3, _, rfl, by simp [b__law_table_2, s4, z2, t4, u4, t7, cdL, cdI, cdK, hcs, l2, l4, encC], ⟨by simp [m1], fun y hy => ?_⟩, u3⟩
          rcases List.mem_append.mp hy with hy | hy
          · exact m2 y hy
          · simp at hy; subst hy; exact ⟨z1, t5, t6⟩)
      simp only [List.length_range] at g1 g3
      have hfs : fs.length < LN := by simp only [LN]; omega
      refine ⟨fs ++ [(x, 1 + a, cs)], c5, _, rfl, ?_, ⟨by simp [k1], fun f hf => ?_, fun f hf => ?_⟩, g3.mono (by omega)⟩
      · have main : b__law_table_1 (Tb p q r ns fs (.val (.str x)) .no .no c) = .nx (Tb p q r ns (fs ++ [(x, 1 + a, cs)]) (.val (.str x)) (.val (.int (1 + a))) (.val (.lst (cs.map encC))) c5) := by
          refine seq_nx (s1 := Tb p q r ns fs (.val (.str x)) (.val (.int (1 + a))) (.own (.lst [])) c3) (by simp [sPar, rsVal, rsOwn, a4, S.more, S.top, S.less, putRs]) (seq_nx (for_of (ds := rngD 0 b.toNat) (s1 := Tb p q r ns fs (.val (.str x)) (.val (.int (1 + a))) (.own (.lst [])) c4) (by simp [b4, hb]) g4) ?_)
          simp [cdL, cdI, cdK, hfs, l3, encF]
        show wipeO [4, 7, 8, 9, 10] b__law_table_1 (Tb p q r ns fs (.val (.str x)) .no .no c) = _
        rw [q_wipeO, main]
        simp
      · rcases List.mem_append.mp hf with hf | hf
        · exact k2 f hf
        · simp at hf; subst hf; exact ⟨j4 x (by rw [hp]; simp), by show 1 ≤ 1 + a; omega, by show 1 + a ≤ 50; omega, by show cs.length ≤ 4; omega, g2⟩
      · rcases List.mem_append.mp hf with hf | hf
        · exact k3 f hf
        · simp at hf; subst hf; exact ⟨by show cs.length ≤ q.toNat; omega, by show 1 + a ≤ r; omega⟩)
  have hfl : fs.length = ns.length := by have := congrArg List.length e1; simpa using this
  refine ⟨fs, c', vv.mono (by omega), ⟨by omega, by omega, by rw [e1]; exact j3, by rw [e1]; exact e2⟩, by omega, e3, ?_⟩
  refine fn_of (s1 := ⟨[.io 0, .val (.int p), .val (.int q), .val (.int r), .no, .val (.lst (ns.map .str)), .val (.lst (fs.map encF)), .no, .no, .no, .no], [c']⟩) ?_
  refine seq_nx (s1 := Tb p q r ns [] .no .no .no c2) ?_ (seq_nx (for_of (ds := ns.map D.str) (s1 := Tb p q r ns [] .no .no .no c2) ?_ e) ?_)
  · have rw1 : ∀ sl io, runFn r__law_words [] [.sl 0, .val (.int (1 + v))] ⟨.io 0 :: sl, c1 :: io⟩ = .ok (.own (.lst (ns.map .str))) ⟨.io 0 :: sl, c2 :: io⟩ := run_vat2 j5
    simp [sPar, rsVal, rsOwn, i4, rw1, S.more, S.top, S.less, putRs, cdL, cdI, cdK, List.replicate]
  · simp
  · simp [cdL, cdI, cdK, encT]
end Wk
set_option maxHeartbeats 4000000
/-! Programs: the tables as the program keeps them. -/
namespace Wk
open PySem PyProof.Rows L2 DL
abbrev nms (t : List Fu) : List Str := t.map (·.1)
def prF (t : List Fu) : List (Str × D) := [("bodies", encT t)]
def prg (t : List Fu) : D := .ins "Program" (prF t)
@[simp] theorem cell_prg (t : List Fu) : (Cell.ins "Program" (prF t)).d = prg t := rfl
@[simp] theorem fld_prg (t : List Fu) : fldD "Program" "bodies" (prg t) = some (encT t) := rfl
@[simp] theorem insAt_prg (t : List Fu) : insAt "Program" (prg t) = some () := rfl
theorem no_prg (t : List Fu) (m : String) (h : m ≠ "bodies" := by decide) : insOf "Program" (Str.ofString m) (prg t) = true := by
  have : (Str.ofString m == Str.ofString "bodies") = false := beq_eq_false_iff_ne.mpr (by simpa using h)
  simp [prg, prF, insOf, List.lookup, this]
@[simp] theorem at_C0 (c : Ca) : atD (encC c) (.int 0) = some (.str c.1) := rfl
@[simp] theorem at_C1 (c : Ca) : atD (encC c) (.int 1) = some (.int c.2) := rfl
@[simp] theorem at_F0 (f : Fu) : atD (encF f) (.int 0) = some (.str f.1) := rfl
@[simp] theorem at_F1 (f : Fu) : atD (encF f) (.int 1) = some (.int f.2.1) := rfl
@[simp] theorem at_F2 (f : Fu) : atD (encF f) (.int 2) = some (.tup (f.2.2.map encC)) := rfl
theorem Good.nm {t : List Fu} (G : Good t) : ∀ x ∈ nms t, Wk.Nm x := fun x hx => by
  obtain ⟨f, hf, rfl⟩ := List.mem_map.mp hx
  exact (G.fu f hf).nm
theorem Good.ca {t : List Fu} (G : Good t) {f : Fu} (hf : f ∈ t) {c : Ca} (hc : c ∈ f.2.2) : Wk.Nm c.1 := G.nm _ ((G.fu f hf).ca c hc).1
/-- the function of a name -/
def fnOf : List Fu → Str → Fu
  | [], _ => ("", 0, [])
  | f :: t, x => if f.1 = x then f else fnOf t x
theorem fnOf_mem : {t : List Fu} → {x : Str} → x ∈ nms t → fnOf t x ∈ t ∧ (fnOf t x).1 = x
  | [], x, h => by simp at h
  | f :: t, x, h => by
    unfold fnOf
    by_cases e : f.1 = x
    · rw [if_pos e]; exact ⟨List.mem_cons_self, e⟩
    · rw [if_neg e]
      have : x ∈ nms t := by
        rcases List.mem_map.mp h with ⟨g, hg, ge⟩
        rcases List.mem_cons.mp hg with rfl | hg
        · exact absurd ge e
        · exact List.mem_map.mpr ⟨g, hg, ge⟩
      exact ⟨.tail _ (fnOf_mem this).1, (fnOf_mem this).2⟩
def clsOf (t : List Fu) (x : Str) : List Ca := (fnOf t x).2.2
theorem Good.cl {t : List Fu} (G : Good t) {x : Str} (h : x ∈ nms t) : (clsOf t x).length ≤ 4 ∧ ∀ c ∈ clsOf t x, c.1 ∈ nms t ∧ 1 ≤ c.2 ∧ c.2 ≤ 9 := by
  have := G.fu _ (fnOf_mem h).1
  exact ⟨this.len, this.ca⟩
theorem allC_yes {α : Type} (xs : List α) : allC [.lst (xs.map fun _ => D.bl true)] = some (.bl true) := by
  have : ∀ xs : List α, blsD (xs.map fun _ => D.bl true) = some (xs.map fun _ => true) := fun xs => by
    induction xs with
    | nil => rfl
    | cons x xs ih => simp [blsD, ih]
  simp [allC, this]
theorem is_name {x : Str} (h : Wk.Nm x) (s : S) : runFn r_is_name [] [.val (.str x)] s = .ok (.val (.bl true)) s := run1 (io' := []) (by
  have e0 : x.length = x.cps.toList.length := by rw [Array.length_toList]; rfl
  have hx := h.2.1
  have q := lc_all (vs := [1]) (fi := iOf (eVar 0)) (p := .nm 1) (fe := DL.bin inD (eVar 1) (mret (.str "abcdefghijklmnopqrstuvwxyz"))) (s := ⟨[.val (.str x), .no], []⟩) x.cps.toList (fun c : Nat => .str ⟨#[c]⟩) (fun _ => .bl true) (sl := [.val (.str x), .no]) (io := []) (slB := fun c => [.val (.str x), .val (.str ⟨#[c]⟩)])
    (by simp [sgnD]) (ln_small (by omega)) (fun c hc io => rfl) (fun c hc z => by have := h.2.2 c hc; simp [inD, has_abc this.1 this.2]) (fun c hc => rfl) rfl (fun c hc => rfl)
  have h1 := h.1
  have h3 : isiT cls (.str x) (.ty "str") = some true := rfl
  have g1 : x.length ≤ LN := ln_small (by omega)
  have g3 : (x.length : Int) < 9 := by omega
  have g4 := allC_yes x.cps.toList
  generalize x.cps.toList.map (fun _ => D.bl true) = L at q g4
  simp [r_is_name, bodyFn, b_is_name, List.replicate, isiC, h3, g1, h1, g3, q, g4]) s
theorem int_ok (i : Int) (s : S) : runFn r_is_integer [] [.val (.int i)] s = .ok (.val (.bl true)) s := run1 (io' := []) (by
  have h1 : isiT cls (.int i) (.ty "int") = some true := rfl
  have h2 : isiT cls (.int i) (.ty "bool") = some false := rfl
  simp [r_is_integer, bodyFn, b_is_integer, isiC, h1, h2]) s
theorem betw (i a b : Int) (s : S) : runFn r_is_between [] [.val (.int i), .val (.int a), .val (.int b)] s = .ok (.val (.bl (decide (a ≤ i ∧ i ≤ b)))) s := run3 (io' := []) (by
  simp [r_is_between, bodyFn, b_is_between, int_ok]
  by_cases h0 : a ≤ i <;> by_cases h1 : i ≤ b <;> simp [h0, h1]) s
theorem is_call {c : Ca} (h : Wk.Nm c.1) (h0 : 1 ≤ c.2) (h1 : c.2 ≤ 9) (s : S) : runFn r_is_call [] [.val (encC c)] s = .ok (.val (.bl true)) s := run1 (io' := []) (by
  have g1 : isiT cls (encC c) (.ty "tuple") = some true := rfl
  have g2 : lenC [encC c] = some (.int 2) := rfl
  simp [r_is_call, bodyFn, b_is_call, isiC, g1, g2, is_name h, betw, h0, h1]) s
theorem is_function {t : List Fu} (G : Good t) {f : Fu} (hf : f ∈ t) (s : S) : runFn r_is_function [] [.val (encF f)] s = .ok (.val (.bl true)) s := run1 (io' := []) (by
  have h := G.fu f hf
  have h1 : isiT cls (encF f) (.ty "tuple") = some true := rfl
  have h2 : lenC [encF f] = some (.int 3) := rfl
  have h3 : isiT cls (.tup (f.2.2.map encC)) (.ty "tuple") = some true := rfl
  have hl := h.len
  have q := lc_all (vs := [1]) (fi := iOf (DL.bin atD (eVar 0) (mret (.int 2)))) (p := .nm 1) (fe := rD (mCall 1 r_is_call [] (gVal (eVar 1) (mret [])))) (s := ⟨[.val (encF f), .no], []⟩) f.2.2 encC (fun _ => .bl true) (sl := [.val (encF f), .no]) (io := []) (slB := fun c => [.val (encF f), .val (encC c)])
    (by simp) (ln_small (by omega)) (fun c hc io => rfl) (fun c hc z => by simp [is_call (G.ca hf hc) (h.ca c hc).2.1 (h.ca c hc).2.2]) (fun c hc => rfl) rfl (fun c hc => rfl)
  have g4 := allC_yes f.2.2
  have g5 : ¬ (4 : Int) < (f.2.2.length : Int) := by omega
  have hlo := h.lo
  have hhi := h.hi
  generalize f.2.2.map (fun _ => D.bl true) = L at q g4
  simp [r_is_function, bodyFn, b_is_function, List.replicate, isiC, h1, h2, h3, is_name h.nm, betw, hlo, hhi, g5, q, g4]) s
theorem names_in {t : List Fu} (h : t.length ≤ 1000) (s : S) : runFn r_names_in [] [.val (encT t)] s = .ok (.own (.lst ((nms t).map .str))) s := run1 (io' := []) (by
  have q := lc_all (vs := [1]) (fi := iOf (eVar 0)) (p := .nm 1) (fe := DL.bin atD (eVar 1) (mret (.int 0))) (s := ⟨[.val (encT t), .no], []⟩) t encF (fun f => .str f.1) (sl := [.val (encT t), .no]) (io := []) (slB := fun f => [.val (encT t), .val (encF f)])
    (by simp [encT]) (ln_small h) (fun c hc io => rfl) (fun c hc z => by simp) (fun c hc => rfl) rfl (fun c hc => rfl)
  simp [r_names_in, bodyFn, b_names_in, List.replicate, q, nms, Function.comp_def]) s
theorem enum_map (xs : List Fu) : (k : Nat) → enumFrom k (xs.map encF) = (xs.mapIdx fun i f => (k + i, f)).map fun p => .tup [.int (p.1 : Nat), encF p.2] := by
  induction xs with
  | nil => intro k; rfl
  | cons f xs ih =>
    intro k
    simp only [List.map_cons, enumFrom, ih, List.mapIdx_cons]
    simp [Function.comp_def, Nat.add_assoc, Nat.add_comm 1]
theorem cut_take (t : List Fu) (i : Nat) (h : i ≤ t.length) : slD (encT t) none (some (i : Int)) = some (encT (t.take i)) := by
  have e1 : HT.sIx (t.map encF).length 0 none = 0 := rfl
  have e2 : HT.sIx (t.map encF).length (t.map encF).length (some (i : Int)) = i := by
    rw [HT.sIx_nat]
    simp
    omega
  simp only [encT, slD, cutG, e1, e2]
  simp [List.map_take]
abbrev prs (t : List Fu) : List (Nat × Fu) := t.mapIdx fun i f => (0 + i, f)
theorem prs_mem {t : List Fu} {p : Nat × Fu} (h : p ∈ prs t) : ∃ hi : p.1 < t.length, t[p.1] = p.2 := by
  obtain ⟨i, hi, e⟩ := List.mem_mapIdx.mp h
  subst e
  refine ⟨by simpa using hi, ?_⟩
  simp
theorem fresh_at {t : List Fu} (hn : (nms t).Nodup) {i : Nat} (hi : i < t.length) : t[i].1 ∉ nms (t.take i) := fun h => by
  obtain ⟨f, hf, e⟩ := List.mem_map.mp h
  obtain ⟨j, hj, e2⟩ := List.mem_iff_getElem.mp hf
  rw [List.getElem_take] at e2
  simp only [List.length_take] at hj
  have := (List.pairwise_iff_getElem.mp hn) j i (by simp [nms]; omega) (by simpa [nms] using hi) (by omega)
  simp only [nms, List.getElem_map] at this
  exact this (by rw [e2]; exact e)
abbrev Wf (t : List Fu) : S := ⟨[.val (encT t), .no, .no, .no], []⟩
theorem wf_1 {t : List Fu} (G : Good t) (i : Nat) (hi : i < t.length) : b_wrong_function_1 ⟨[.val (encT t), .val (.int (i : Int)), .val (encF t[i]), .no], []⟩ = .nx ⟨[.val (encT t), .val (.int (i : Int)), .val (encF t[i]), .no], []⟩ := by
  have hm := List.getElem_mem hi
  have hf := (G.fu _ hm).nm
  have h6 : ¬ (i : Int) = 6 := by have := G.hi; omega
  have hc := cut_take t i (by omega)
  have hn := fun s => names_in (t := t.take i) (by have := G.hi; simp; omega) s
  have hi' := fun s => is_function G hm s
  have hin := in_strs (x := t[i].1) (ns := nms (t.take i)) hf.ok (fun x hx => (G.nm x (by
    obtain ⟨g, hg, rfl⟩ := List.mem_map.mp hx
    exact List.mem_map.mpr ⟨g, List.mem_of_mem_take hg, rfl⟩)).ok)
  rw [decide_eq_false (fresh_at G.nd hi)] at hin
  generalize t[i] = f at *
  generalize nms (t.take i) = L at *
  generalize (i : Int) = j at *
  simp [b_wrong_function_1, hi', h6, slice, pSome, dI, hc, hn, cdL, hin]
theorem wf_2 {t : List Fu} (G : Good t) (i : Nat) (hi : i < t.length) : b_wrong_function_2 ⟨[.val (encT t), .val (.int (i : Int)), .val (encF t[i]), .no], []⟩ = .nx ⟨[.val (encT t), .val (.int (i : Int)), .val (encF t[i]), .no], []⟩ := by
  have hm := List.getElem_mem hi
  have hg := G.fu t[i] hm
  have hca : ∀ c ∈ (t[i]).2.2, Wk.Nm c.1 := fun c hc => G.ca hm hc
  have hn := fun s => names_in (t := t) (by have := G.hi; omega) s
  generalize t[i] = f at *
  generalize (i : Int) = j at *
  have hl := hg.len
  have q := lc_all (vs := [3]) (fi := iOf (DL.bin atD (eVar 2) (mret (.int 2)))) (p := .nm 3) (fe := DL.bin inD (DL.bin atD (eVar 3) (mret (.int 0))) (rD (mCall 1 r_names_in [] (gVal (eVar 0) (mret []))))) (s := ⟨[.val (encT t), .val (.int j), .val (encF f), .no], []⟩) f.2.2 encC (fun _ => .bl true) (sl := [.val (encT t), .val (.int j), .val (encF f), .no]) (io := []) (slB := fun c => [.val (encT t), .val (.int j), .val (encF f), .val (encC c)])
    (by simp) (ln_small (by omega)) (fun c hc io => rfl) (fun c hc z => by
      have hin := in_strs (x := c.1) (ns := nms t) (hca c hc).ok (fun x hx => (G.nm x hx).ok)
      rw [decide_eq_true (show c.1 ∈ nms t from (hg.ca c hc).1)] at hin
      generalize nms t = L at *
      simp [hn, cdL, hin]) (fun c hc => rfl) rfl (fun c hc => rfl)
  have g4 := allC_yes f.2.2
  generalize f.2.2.map (fun _ => D.bl true) = L at q g4
  simp [b_wrong_function_2, q, g4]
theorem wf_loop {t : List Fu} (C : S → Out) (hC : ∀ (i : Nat) (hi : i < t.length), C ⟨[.val (encT t), .val (.int (i : Int)), .val (encF t[i]), .no], []⟩ = .nx ⟨[.val (encT t), .val (.int (i : Int)), .val (encF t[i]), .no], []⟩) :
    forD (.tp (.cons (.nm 1) (.cons (.nm 2) .nil))) (wipeO [1, 2] C) (enumFrom 0 (t.map encF)) (Wf t) = .nx (Wf t) := by
  rw [enum_map]
  refine forD_same (fun p : Nat × Fu => .tup [.int (p.1 : Nat), encF p.2]) _ _ fun p hp => ?_
  obtain ⟨hi, he⟩ := prs_mem (t := t) hp
  refine ⟨⟨[.val (encT t), .val (.int (p.1 : Int)), .val (encF p.2), .no], []⟩, rfl, ?_⟩
  have := hC p.1 hi
  rw [he] at this
  rw [q_wipeO, this]
  rfl
theorem wrong_function {t : List Fu} (G : Good t) (s : S) : runFn r_wrong_function [] [.val (encT t)] s = .ok (.val .non) s := run1 (io' := []) (by
  have e3 : iEnu (aCons (eVar 0) (mret [])) (Wf t) = .ok (enumFrom 0 (t.map encF)) (Wf t) := by
    simp [listOf1, encT]
  refine fn_of (s1 := Wf t) ?_
  refine seq_nx (s1 := Wf t) (for_of (ds := enumFrom 0 (t.map encF)) (s1 := Wf t) e3 (wf_loop _ (wf_1 G))) ?_
  refine seq_nx (s1 := Wf t) (for_of (ds := enumFrom 0 (t.map encF)) (s1 := Wf t) e3 (wf_loop _ (wf_2 G))) rfl) s
theorem check_functions {t : List Fu} (G : Good t) (s : S) : runFn r_check_functions [] [.val (encT t)] s = .ok (.val .non) s := run1 (io' := []) (by
  have h1 : isiT cls (encT t) (.ty "tuple") = some true := rfl
  have h2 : lenC [encT t] = some (.int t.length) := by simp [encT]
  have h3 : ¬ t = [] := by have := G.lo; intro e; subst e; simp at this
  simp [r_check_functions, bodyFn, b_check_functions, List.replicate, isiC, h1, h2, h3, wrong_function G, isntD, D.isNon]) s
theorem mk_prg {t : List Fu} (G : Good t) (s : S) : runMake "Program" r_Program_init [] [.val (encT t)] s = .ok (.own (.ins "Program" (prF t))) s := make1 (io' := []) (by
  simp [r_Program_init, bodyFn, b_Program_init, check_functions G, putD, prF]) s
end Wk
set_option maxHeartbeats 4000000
/-! Programs as texts. -/
namespace Wk
open PySem PyProof.Rows L2 DL
def CaB (c : Ca) : Prop := Wk.Nm c.1 ∧ 1 ≤ c.2 ∧ c.2 ≤ 9
structure FB (f : Fu) : Prop where
  nm : Wk.Nm f.1
  lo : 1 ≤ f.2.1
  hi : f.2.1 ≤ 50
  len : f.2.2.length ≤ 4
  ca : ∀ c ∈ f.2.2, CaB c
theorem Good.fb {t : List Fu} (G : Good t) : ∀ f ∈ t, FB f := fun f hf => by
  obtain ⟨a, b, c, d, e⟩ := G.fu f hf
  refine ⟨a, b, c, d, fun q hq => ?_⟩
  obtain ⟨e1, e2, e3⟩ := e q hq
  obtain ⟨g, hg, he⟩ := List.mem_map.mp e1
  exact ⟨he ▸ (G.fu g hg).nm, e2, e3⟩
def num (i : Int) : Str := Str.ofString (toString i)
/-! small -/
theorem sm_C {c : Ca} (h : CaB c) (n : Nat) : (encC c).sm (n + 1) = true := by
  have h1 : (c.1.cps.toList.all fun x => decide (x < 1114112)) = true := List.all_eq_true.mpr fun x hx => by
    have := h.1.2.2 x hx
    simp; omega
  have h2 := h.2.1
  have h3 := h.2.2
  have h4 : -999999999999 ≤ c.2 := by omega
  have h5 : c.2 ≤ 999999999999 := by omega
  cases n <;> simp [encC, D.sm, D.sms, h1, h4, h5]
theorem sm_Cs {cs : List Ca} (h : ∀ c ∈ cs, CaB c) (n : Nat) : (D.tup (cs.map encC)).sm (n + 2) = true := by
  simp only [D.sm]
  exact sms_all _ fun d hd => by
    obtain ⟨c, hc, rfl⟩ := List.mem_map.mp hd
    exact sm_C (h c hc) n
theorem sm_N {x : Str} (h : Wk.Nm x) (n : Nat) : (D.str x).sm n = true := by
  have h1 : (x.cps.toList.all fun x => decide (x < 1114112)) = true := List.all_eq_true.mpr fun y hy => by
    have := h.2.2 y hy
    simp; omega
  cases n <;> simp [D.sm, h1]
theorem sm_F {f : Fu} (h : FB f) (n : Nat) : (encF f).sm (n + 3) = true := by
  have h1 := sm_N h.nm (n + 2)
  have h2 := sm_Cs h.ca n
  have h3 := h.lo
  have h4 := h.hi
  have h5 : -999999999999 ≤ f.2.1 := by omega
  have h6 : f.2.1 ≤ 999999999999 := by omega
  show (D.tup _).sm ((n + 2) + 1) = true
  rw [D.sm]
  simp only [D.sms, h1, h2, Bool.and_true, Bool.true_and]
  cases n <;> simp [D.sm, h5, h6]
theorem sm_T {t : List Fu} (h : ∀ f ∈ t, FB f) (n : Nat) : (encT t).sm (n + 4) = true := by
  unfold encT
  rw [D.sm]
  exact sms_all _ fun d hd => by
    obtain ⟨c, hc, rfl⟩ := List.mem_map.mp hd
    exact sm_F (h c hc) n
theorem bk_F {f : Fu} (h : FB f) : (encF f).bk ≤ 60 := by
  have h1 : D.bks (f.2.2.map encC) ≤ (f.2.2.map encC).length * (10 + 1) := bks_le _ fun d hd => by
    obtain ⟨c, hc, rfl⟩ := List.mem_map.mp hd
    have := (h.ca c hc).1.2.1
    simp only [encC, D.bk, D.bks]
    omega
  have h2 := h.nm.2.1
  have h3 := h.len
  simp only [encF, D.bk, D.bks]
  simp at h1
  omega
theorem bk_T {t : List Fu} (h : ∀ f ∈ t, FB f) (h6 : t.length ≤ 6) : (encT t).bk ≤ 400 := by
  have h1 : D.bks (t.map encF) ≤ (t.map encF).length * (60 + 1) := bks_le _ fun d hd => by
    obtain ⟨c, hc, rfl⟩ := List.mem_map.mp hd
    exact bk_F (h c hc)
  simp only [encT, D.bk]
  simp at h1
  omega
def hd (f : Fu) : Str := f.1 ++ " " ++ num f.2.1
theorem P_functions (t : List Fu) : r_Program_functions [.val (prg t)] [] = .rt (.val (encT t)) [] := by
  simp [r_Program_functions, bodyFn, b_Program_functions, fld_prg]
/-! other programs -/
theorem FuOk.mono {ns ms : List Str} {f : Fu} (h : FuOk ns f) (hm : ∀ x ∈ ns, x ∈ ms) : FuOk ms f := ⟨h.nm, h.lo, h.hi, h.len, fun c hc => ⟨hm _ (h.ca c hc).1, (h.ca c hc).2⟩⟩
theorem Good.perm {t t' : List Fu} (G : Good t) (p : t'.Perm t) : Good t' := by
  have pm := p.map (·.1)
  refine ⟨by rw [p.length_eq]; exact G.lo, by rw [p.length_eq]; exact G.hi, pm.nodup_iff.mpr G.nd, fun f hf => (G.fu f (p.mem_iff.mp hf)).mono fun x hx => pm.mem_iff.mpr hx⟩
theorem Good.swap {a b : List Fu} {f g : Fu} (G : Good (a ++ f :: b)) (hn : g.1 = f.1) (hg : FuOk (nms (a ++ f :: b)) g) : Good (a ++ g :: b) := by
  have e : nms (a ++ g :: b) = nms (a ++ f :: b) := by simp [hn]
  refine ⟨by rw [List.length_append, List.length_cons]; omega, by have := G.hi; simpa using this, ?_, fun x hx => ?_⟩
  · show (nms (a ++ g :: b)).Nodup
    rw [e]; exact G.nd
  · show FuOk (nms (a ++ g :: b)) x
    rw [e]
    rcases List.mem_append.mp hx with hx | hx
    · exact G.fu x (List.mem_append_left _ hx)
    · rcases List.mem_cons.mp hx with rfl | hx
      · exact hg
      · exact G.fu x (List.mem_append_right _ (.tail _ hx))
theorem cutG_take {α : Type} (xs : List α) (i : Nat) (h : i ≤ xs.length) : cutG xs none (some (i : Int)) = xs.take i := by
  have e1 : HT.sIx xs.length 0 none = 0 := rfl
  have e2 : HT.sIx xs.length xs.length (some (i : Int)) = i := by
    rw [HT.sIx_nat]
    omega
  simp only [cutG, e1, e2, List.drop_zero, Nat.sub_zero]
end Wk
set_option maxHeartbeats 4000000
/-! What is told. -/
namespace Wk
open PySem PyProof.Rows L2 DL
theorem told_back {d : D} {z : Str} {fE : M D} {s s' : S} (h : fE s = .ok d s') (hz : reprZ [d] = some (.str z)) : toldM csX 4 1 3 b__law_told_R b__law_told_S fE s = .ok (.own (.lst [.str "back", .str z])) s' := by
  have l2 : 2 ≤ LN := by decide
  refine told_ok (s2 := ⟨[.no, .val d, .no, .no], []⟩) h ?_
  simp [b__law_told_R, slotsT, List.replicate, hz, l2]
end Wk
set_option maxHeartbeats 4000000
namespace Wk
open PySem PyProof.Rows L2 DL
theorem has_not {c : Nat} {y : Str} (h : c ∉ TL.tl y) : hasS ⟨#[c]⟩ y = false := by
  have hp := TL.partition_none (y := ⟨#[c]⟩) (s := c) (S := []) rfl (a := y) h
  unfold Txt.partition at hp
  unfold hasS
  cases ho : Builtin.Str.occurrences y ⟨#[c]⟩ 0 y.length 1 with
  | nil => rfl
  | cons i r =>
    rw [ho] at hp
    simp only [Prod.mk.injEq] at hp
    have := congrArg TL.tl hp.2.1
    rw [show TL.tl Str.empty = [] from by decide +kernel] at this
    cases this
def abcB (c : Nat) : Bool := decide (97 ≤ c ∧ c ≤ 122)
theorem has_abcB (c : Nat) : hasS ⟨#[c]⟩ "abcdefghijklmnopqrstuvwxyz" = abcB c := by
  by_cases h : 97 ≤ c ∧ c ≤ 122
  · rw [has_abc h.1 h.2]; simp [abcB, h]
  · rw [has_not]
    · simp [abcB, h]
    · intro hm
      have : TL.tl ("abcdefghijklmnopqrstuvwxyz" : Str) = (List.range 26).map (97 + ·) := abc
      rw [this] at hm
      obtain ⟨k, hk, rfl⟩ := List.mem_map.mp hm
      have := List.mem_range.mp hk
      exact h ⟨by omega, by omega⟩
theorem allC_bl {α : Type} (f : α → Bool) (xs : List α) : allC [.lst (xs.map fun x => D.bl (f x))] = some (.bl (xs.all f)) := by
  have : ∀ xs : List α, blsD (xs.map fun x => D.bl (f x)) = some (xs.map f) := fun xs => by
    induction xs with
    | nil => rfl
    | cons x xs ih => simp [blsD, ih]
  simp [allC, this]
/-- whether a text is a name -/
def nmB (x : Str) : Bool := decide (0 < x.length ∧ x.length ≤ 8) && x.cps.toList.all abcB
theorem nmB_iff {x : Str} : nmB x = true ↔ Wk.Nm x := by
  unfold nmB Wk.Nm
  simp only [Bool.and_eq_true, decide_eq_true_eq, List.all_eq_true, abcB]
  exact ⟨fun ⟨⟨a, b⟩, c⟩ => ⟨a, b, c⟩, fun ⟨a, b, c⟩ => ⟨⟨a, b⟩, c⟩⟩
theorem nm_run {x : Str} (hl : x.length ≤ 5000) (s : S) : runFn r_is_name [] [.val (.str x)] s = .ok (.val (.bl (nmB x))) s := run1 (io' := []) (by
  have e0 : x.length = x.cps.toList.length := by rw [Array.length_toList]; rfl
  have g1 : x.length ≤ LN := by simp only [LN]; omega
  have q := lc_all (vs := [1]) (fi := iOf (eVar 0)) (p := .nm 1) (fe := DL.bin inD (eVar 1) (mret (.str "abcdefghijklmnopqrstuvwxyz"))) (s := ⟨[.val (.str x), .no], []⟩) x.cps.toList (fun c : Nat => .str ⟨#[c]⟩) (fun c => .bl (abcB c)) (sl := [.val (.str x), .no]) (io := []) (slB := fun c => [.val (.str x), .val (.str ⟨#[c]⟩)])
    (by simp [sgnD]) (by rw [← e0]; exact g1) (fun c hc io => rfl) (fun c hc z => by simp [inD, has_abcB]) (fun c hc => rfl) rfl (fun c hc => rfl)
  have h3 : isiT cls (.str x) (.ty "str") = some true := rfl
  have g4 := allC_bl abcB x.cps.toList
  have hb : nmB x = (decide (0 < x.length ∧ x.length ≤ 8) && x.cps.toList.all abcB) := rfl
  rw [hb]
  generalize x.cps.toList.all abcB = ba at *
  generalize x.cps.toList.map (fun c => D.bl (abcB c)) = L at q g4
  by_cases a : 0 < x.length
  · by_cases b : x.length ≤ 8
    · have b' : (x.length : Int) < 9 := by omega
      simp [r_is_name, bodyFn, b_is_name, List.replicate, isiC, h3, g1, a, b, b', q, g4]
    · have b' : ¬ (x.length : Int) < 9 := by omega
      simp [r_is_name, bodyFn, b_is_name, List.replicate, isiC, h3, g1, a, b, b', q, g4]
  · simp [r_is_name, bodyFn, b_is_name, List.replicate, isiC, h3, g1, a, q, g4]) s
theorem ch_ne (L : List Nat) : L.filter (fun c => !abcB c) = [] ↔ L.all abcB = true := by
  simp [List.filter_eq_nil_iff]
theorem lnm_run {x : Str} (hx : PyData.strOk x = true) (hl : x.length ≤ 5000) (s : S) : runFn r__law_is_name [] [.val (.str x)] s = .ok (.val (.bl (nmB x))) s := run1 (io' := []) (by
  have e0 : x.length = x.cps.toList.length := by rw [Array.length_toList]; rfl
  have g1 : x.length ≤ LN := by simp only [LN]; omega
  have q := eLcL_pure (vs := [1]) (fi := iOf (eVar 0)) (p := .nm 1) (t := asB (DL.bin notInD (eVar 1) (mret (.str "abcdefghijklmnopqrstuvwxyz")))) (fe := eVar 1) (s := ⟨[.val (.str x), .no], []⟩) (e := fun c : Nat => .str ⟨#[c]⟩) x.cps.toList [.val (.str x), .no] [.val (.str x), .no] [] (fun c => [.val (.str x), .val (.str ⟨#[c]⟩)]) (fun c => !abcB c) (fun c => .str ⟨#[c]⟩)
    (by simp [sgnD]) (by rw [← e0]; exact g1) (fun c hc io => rfl) (fun c hc z => by simp [notInD, has_abcB]) (fun c hc _ z => by simp) (fun c hc => rfl) rfl (fun c hc => rfl) rfl
  have h3 : isiT cls (.str x) (.ty "str") = some true := rfl
  have hb : nmB x = (decide (0 < x.length ∧ x.length ≤ 8) && x.cps.toList.all abcB) := rfl
  have he : eqD (.lst ((x.cps.toList.filter fun c => !abcB c).map fun c => D.str ⟨#[c]⟩)) (.lst []) = some (.bl (x.cps.toList.all abcB)) := by
    have ho : (D.lst ((x.cps.toList.filter fun c => !abcB c).map fun c => D.str ⟨#[c]⟩)).ok 10 = true := by
      show D.oks 9 _ = true
      rw [oks_all, List.all_eq_true]
      intro d hd
      obtain ⟨c, hc, rfl⟩ := List.mem_map.mp hd
      have h2 : (x.cps.all fun c => decide (c < 1114112)) = true := hx
      rw [← Array.all_toList] at h2
      have := List.all_eq_true.mp h2 c (List.mem_filter.mp hc).1
      show PyData.strOk ⟨#[c]⟩ = true
      exact strOk_of (List.all_eq_true.mpr fun d hd => by simp at hd; subst hd; exact this)
    rw [eqD_ok ho (by simp [D.ok, D.oks])]
    cases hf : x.cps.toList.filter fun c => !abcB c with
    | nil => rw [(ch_ne _).mp hf]; rfl
    | cons c r =>
      have : x.cps.toList.all abcB = false := by
        rw [Bool.eq_false_iff]
        intro h
        rw [(ch_ne _).mpr h] at hf
        cases hf
      rw [this]; rfl
  rw [hb]
  generalize x.cps.toList.all abcB = ba at *
  generalize ((x.cps.toList.filter fun c => !abcB c).map fun c => D.str ⟨#[c]⟩) = L at q he
  by_cases a : 0 < x.length
  · have a' : (1 : Int) ≤ (x.length : Int) := by omega
    by_cases b : x.length ≤ 8
    · have b' : (x.length : Int) ≤ 8 := by omega
      simp [r__law_is_name, bodyFn, b__law_is_name, List.replicate, isiC, h3, g1, a, a', b, b', q, he]
    · have b' : ¬ (x.length : Int) ≤ 8 := by omega
      simp [r__law_is_name, bodyFn, b__law_is_name, List.replicate, isiC, h3, g1, a, a', b, b']
  · have a' : ¬ (1 : Int) ≤ (x.length : Int) := by omega
    simp [r__law_is_name, bodyFn, b__law_is_name, List.replicate, isiC, h3, g1, a, a']) s
/-- a loop that ends at the first thing that is bad -/
theorem loop_find {p : Pat} {f : S → Out} (e : Nat → D) (st : Nat → S) (bad : Nat → Bool) (v : Nat → RV) (n : Nat)
    (step : ∀ i < n, (∀ j < i, bad j = false) → ∃ s1, p.bind (e i) (st i) = some s1 ∧ (bad i = false → f s1 = .nx (st (i + 1))) ∧ (bad i = true → ∃ s2, f s1 = .rt (v i) s2)) :
    ((∀ i < n, bad i = false) → forD p f ((List.range n).map e) (st 0) = .nx (st n)) ∧ (∀ i < n, bad i = true → (∀ j < i, bad j = false) → ∃ s2, forD p f ((List.range n).map e) (st 0) = .rt (v i) s2) := by
  have key : ∀ m k, k + m = n → (∀ j < k, bad j = false) → ((∀ i, k ≤ i → i < n → bad i = false) → forD p f ((List.range' k m).map e) (st k) = .nx (st n)) ∧ (∀ i, k ≤ i → i < n → bad i = true → (∀ j < i, bad j = false) → ∃ s2, forD p f ((List.range' k m).map e) (st k) = .rt (v i) s2) := by
    intro m
    induction m with
    | zero =>
      intro k hk hb
      have : k = n := by omega
      subst this
      exact ⟨fun _ => rfl, fun i h1 h2 => by omega⟩
    | succ m ih =>
      intro k hk hb
      obtain ⟨s1, e1, e2, e3⟩ := step k (by omega) hb
      rw [List.range'_succ, List.map_cons]
      cases hbk : bad k with
      | true =>
        refine ⟨fun h => (by have := h k (Nat.le_refl _) (by omega); rw [hbk] at this; cases this), fun i h1 h2 h3 h4 => ?_⟩
        by_cases hik : i = k
        · subst hik
          obtain ⟨s2, e4⟩ := e3 h3
          exact ⟨s2, by simp only [forD, e1, e4]⟩
        · have := h4 k (by omega)
          rw [hbk] at this; cases this
      | false =>
        obtain ⟨i1, i2⟩ := ih (k + 1) (by omega) fun j hj => by
          by_cases h : j = k
          · rw [h]; exact hbk
          · exact hb j (by omega)
        have e4 := e2 hbk
        refine ⟨fun h => ?_, fun i h1 h2 h3 h4 => ?_⟩
        · simp only [forD, e1, e4]
          exact i1 fun i a b => h i (by omega) b
        · have hik : i ≠ k := fun e => by subst e; rw [hbk] at h3; cases h3
          obtain ⟨s2, e5⟩ := i2 i (by omega) h2 h3 h4
          exact ⟨s2, by simp only [forD, e1, e4]; exact e5⟩
  rw [List.range_eq_range']
  obtain ⟨a, b⟩ := key n 0 (by omega) fun j hj => by omega
  exact ⟨fun h => a fun i _ hi => h i hi, fun i hi h1 h2 => b i (by omega) hi h1 h2⟩
theorem first_or (b : Nat → Bool) : (n : Nat) → (∀ i < n, b i = false) ∨ ∃ i < n, b i = true ∧ ∀ j < i, b j = false
  | 0 => .inl fun i h => by omega
  | n + 1 => by
    rcases first_or b n with h | ⟨i, h1, h2, h3⟩
    · cases hb : b n with
      | true => exact .inr ⟨n, by omega, hb, h⟩
      | false =>
        refine .inl fun i hi => ?_
        by_cases e : i = n
        · rw [e]; exact hb
        · exact h i (by omega)
    · exact .inr ⟨i, by omega, h2, h3⟩
theorem p62b : (100001 : Int) ≤ 2 ^ 62 := by decide +kernel
theorem rng1_big (k : Nat) (h : k ≤ 100000) : rng1 [.int (k : Int)] = some ((List.range k).map fun i : Nat => D.int (0 + (i : Int))) := by
  have hr : rngD 0 k = (List.range k).map fun i : Nat => D.int (0 + (i : Int)) := rfl
  rw [← hr]
  have hk0 : (0 : Int) ≤ (k : Int) := Int.natCast_nonneg k
  have hk1 : (k : Int) < 100001 := by omega
  have hk2 : (k : Int).toNat = k := Int.toNat_natCast k
  revert hk0 hk1 hk2
  generalize (k : Int) = j
  intro hk0 hk1 hk2
  unfold rng1
  dsimp only
  rw [if_pos ⟨Int.le_trans n62 hk0, Int.lt_of_lt_of_le hk1 p62b⟩, hk2]
theorem enum_rng : (L : List D) → (k : Nat) → enumFrom k L = (List.range L.length).map fun i : Nat => .tup [.int ((k + i : Nat) : Int), L.getD i .non]
  | [], k => rfl
  | x :: L, k => by
    simp only [enumFrom, enum_rng L (k + 1), List.length_cons, List.range_succ_eq_map, List.map_cons, List.map_map]
    refine (List.cons.injEq _ _ _ _).mpr ⟨rfl, List.map_congr_left fun i _ => ?_⟩
    simp only [Function.comp, List.getD_cons_succ]
    rw [show k + 1 + i = k + (i + 1) by omega]
def winB (d : D) (a b : Int) : Bool := match d with
  | .int i => decide (a ≤ i ∧ i ≤ b)
  | _ => false
/-! any data -/
mutual
def datB : D → Bool
  | .non => true
  | .bl _ => true
  | .int _ => true
  | .str x => PyData.strOk x && decide (x.length ≤ 5000)
  | .tup xs => decide (xs.length ≤ 5000) && datsB xs
  | .lst xs => decide (xs.length ≤ 5000) && datsB xs
  | .dic [] => true
  | _ => false
def datsB : List D → Bool
  | [] => true
  | x :: xs => datB x && datsB xs
end
theorem dats_all : ∀ {xs : List D}, datsB xs = true ↔ ∀ x ∈ xs, datB x = true
  | [] => by simp [datsB]
  | x :: xs => by simp [datsB, dats_all (xs := xs)]
inductive Dat : D → Prop
  | non : Dat .non
  | bl (b : Bool) : Dat (.bl b)
  | int (i : Int) : Dat (.int i)
  | str (x : Str) (h : PyData.strOk x = true) (l : x.length ≤ 5000) : Dat (.str x)
  | tup (xs : List D) (l : xs.length ≤ 5000) (h : ∀ x ∈ xs, datB x = true) : Dat (.tup xs)
  | lst (xs : List D) : Dat (.lst xs)
  | dic : Dat (.dic [])
theorem Dat.of {d : D} (h : datB d = true) : Dat d := by
  cases d with
  | non => exact .non
  | bl b => exact .bl b
  | int i => exact .int i
  | str x =>
    simp only [datB, Bool.and_eq_true, decide_eq_true_eq] at h
    exact .str x h.1 h.2
  | tup xs =>
    simp only [datB, Bool.and_eq_true, decide_eq_true_eq] at h
    exact .tup xs h.1 (dats_all.mp h.2)
  | lst xs => exact .lst xs
  | dic ks =>
    cases ks with
    | nil => exact .dic
    | cons k ks => simp [datB] at h
  | _ => simp [datB] at h
def isStr : D → Bool
  | .str _ => true
  | _ => false
def isTup : D → Bool
  | .tup _ => true
  | _ => false
theorem Dat.tyS {d : D} (h : Dat d) : isiT cls d (.ty "str") = some (isStr d) := by cases h <;> rfl
theorem Dat.tyT {d : D} (h : Dat d) : isiT cls d (.ty "tuple") = some (isTup d) := by cases h <;> rfl
def nmD : D → Bool
  | .str x => nmB x
  | _ => false
theorem nmD_run {d : D} (h : Dat d) (s : S) : runFn r_is_name [] [.val d] s = .ok (.val (.bl (nmD d))) s := by
  have t := h.tyS
  cases h with
  | str x o l => exact nm_run l s
  | _ => exact run1 (io' := []) (by
      simp only [isStr] at t
      simp [r_is_name, bodyFn, b_is_name, List.replicate, isiC, t, nmD]) s
theorem lnmD_run {d : D} (h : Dat d) (s : S) : runFn r__law_is_name [] [.val d] s = .ok (.val (.bl (nmD d))) s := by
  have t := h.tyS
  cases h with
  | str x o l => exact lnm_run o l s
  | _ => exact run1 (io' := []) (by
      simp only [isStr] at t
      simp [r__law_is_name, bodyFn, b__law_is_name, List.replicate, isiC, t, nmD]) s
theorem Dat.betw {d : D} (h : Dat d) (a b : Int) (s : S) : runFn r_is_between [] [.val d, .val (.int a), .val (.int b)] s = .ok (.val (.bl (winB d a b))) s := by
  have gen : ∀ d : D, (isiT cls d (.ty "int") = some false ∨ (isiT cls d (.ty "int") = some true ∧ isiT cls d (.ty "bool") = some true)) → ∀ s, runFn r_is_between [] [.val d, .val (.int a), .val (.int b)] s = .ok (.val (.bl false)) s := fun d h s => by
    have e : ∀ s, runFn r_is_integer [] [.val d] s = .ok (.val (.bl false)) s := fun s => run1 (io' := []) (by
      rcases h with h | ⟨h, h'⟩
      · simp [r_is_integer, bodyFn, b_is_integer, isiC, h]
      · simp [r_is_integer, bodyFn, b_is_integer, isiC, h, h']) s
    exact run3 (io' := []) (by simp [r_is_between, bodyFn, b_is_between, e]) s
  cases h with
  | int i => exact Wk.betw i a b s
  | bl b => exact gen _ (.inr ⟨rfl, rfl⟩) s
  | non => exact gen _ (.inl rfl) s
  | str => exact gen _ (.inl rfl) s
  | tup => exact gen _ (.inl rfl) s
  | lst => exact gen _ (.inl rfl) s
  | dic => exact gen _ (.inl rfl) s
theorem Dat.within {d : D} (h : Dat d) (a b : Int) (s : S) : runFn r__law_within [] [.val d, .val (.int a), .val (.int b)] s = .ok (.val (.bl (winB d a b))) s := by
  have gen : ∀ d : D, (isiT cls d (.ty "int") = some false ∨ (isiT cls d (.ty "int") = some true ∧ isiT cls d (.ty "bool") = some true)) → ∀ s, runFn r__law_within [] [.val d, .val (.int a), .val (.int b)] s = .ok (.val (.bl false)) s := fun d h s => run3 (io' := []) (by
    rcases h with h | ⟨h, h'⟩
    · simp [r__law_within, bodyFn, b__law_within, isiC, h]
    · simp [r__law_within, bodyFn, b__law_within, isiC, h, h']) s
  cases h with
  | int i =>
    refine run3 (io' := []) ?_ s
    have h1 : isiT cls (.int i) (.ty "int") = some true := rfl
    have h2 : isiT cls (.int i) (.ty "bool") = some false := rfl
    simp [r__law_within, bodyFn, b__law_within, isiC, h1, h2]
    by_cases h0 : a ≤ i <;> by_cases h1 : i ≤ b <;> simp [h0, h1, winB]
  | bl b => exact gen _ (.inr ⟨rfl, rfl⟩) s
  | non => exact gen _ (.inl rfl) s
  | str => exact gen _ (.inl rfl) s
  | tup => exact gen _ (.inl rfl) s
  | lst => exact gen _ (.inl rfl) s
  | dic => exact gen _ (.inl rfl) s
/-! what a thing is -/
def nmOf : D → Str
  | .tup (.str a :: _) => a
  | _ => ""
def calB : D → Bool
  | .tup [a, n] => nmD a && winB n 1 9
  | _ => false
def clsD : D → List D
  | .tup [_, _, .tup cs] => cs
  | _ => []
def csB : D → Bool
  | .tup cs => decide (cs.length ≤ 4) && cs.all calB
  | _ => false
def funB : D → Bool
  | .tup [a, n, c] => nmD a && winB n 1 50 && csB c
  | _ => false
theorem cal_ne {xs : List D} (h : xs.length ≠ 2) : calB (.tup xs) = false := by
  match xs, h with
  | [], _ => rfl
  | [_], _ => rfl
  | [_, _], h => simp at h
  | _ :: _ :: _ :: _, _ => rfl
theorem fun_ne {xs : List D} (h : xs.length ≠ 3) : funB (.tup xs) = false := by
  match xs, h with
  | [], _ => rfl
  | [_], _ => rfl
  | [_, _], _ => rfl
  | [_, _, _], h => simp at h
  | _ :: _ :: _ :: _ :: _, _ => rfl
theorem cal_run {d : D} (h : Dat d) (s : S) : runFn r_is_call [] [.val d] s = .ok (.val (.bl (calB d))) s := by
  have t := h.tyT
  cases h with
  | tup xs l hx =>
    by_cases h2 : xs.length = 2
    · obtain ⟨a, n, rfl⟩ : ∃ a n, xs = [a, n] := by
        match xs, h2 with
        | [a, n], _ => exact ⟨a, n, rfl⟩
      have ha := Dat.of (hx a (by simp))
      have hn := Dat.of (hx n (by simp))
      refine run1 (io' := []) ?_ s
      have g1 : isiT cls (.tup [a, n]) (.ty "tuple") = some true := rfl
      have g2 : lenC [.tup [a, n]] = some (.int 2) := rfl
      have e0 : atD (.tup [a, n]) (.int 0) = some a := rfl
      have e1 : atD (.tup [a, n]) (.int 1) = some n := rfl
      have nr := fun s => nmD_run ha s
      have br := fun s => hn.betw 1 9 s
      have ev : calB (.tup [a, n]) = (nmD a && winB n 1 9) := rfl
      rw [ev]
      generalize winB n 1 9 = bn at *
      generalize nmD a = ba at *
      generalize D.tup [a, n] = E at *
      cases ba <;> simp [r_is_call, bodyFn, b_is_call, isiC, g1, g2, e0, e1, nr, br]
    · rw [cal_ne h2]
      refine run1 (io' := []) ?_ s
      have h2' : ¬ (xs.length : Int) = 2 := by omega
      have g2 : lenC [.tup xs] = some (.int (xs.length : Int)) := by simp
      simp only [isTup] at t
      generalize (xs.length : Int) = k at *
      generalize D.tup xs = E at *
      simp [r_is_call, bodyFn, b_is_call, isiC, t, g2, h2']
  | _ => exact run1 (io' := []) (by
      simp only [isTup] at t
      simp [r_is_call, bodyFn, b_is_call, isiC, t, calB]) s
theorem fun_is {d : D} (h : Dat d) (s : S) : runFn r_is_function [] [.val d] s = .ok (.val (.bl (funB d))) s := by
  have t := h.tyT
  cases h with
  | tup xs l hx =>
    by_cases h3 : xs.length = 3
    · obtain ⟨a, n, c, rfl⟩ : ∃ a n c, xs = [a, n, c] := by
        match xs, h3 with
        | [a, n, c], _ => exact ⟨a, n, c, rfl⟩
      have ha := Dat.of (hx a (by simp))
      have hn := Dat.of (hx n (by simp))
      have hc := Dat.of (hx c (by simp))
      refine run1 (io' := []) ?_ s
      have h1 : isiT cls (.tup [a, n, c]) (.ty "tuple") = some true := rfl
      have h2 : lenC [.tup [a, n, c]] = some (.int 3) := rfl
      have e0 : atD (.tup [a, n, c]) (.int 0) = some a := rfl
      have e1 : atD (.tup [a, n, c]) (.int 1) = some n := rfl
      have e2 : atD (.tup [a, n, c]) (.int 2) = some c := rfl
      have nr := fun s => nmD_run ha s
      have br := fun s => hn.betw 1 50 s
      have ev : funB (.tup [a, n, c]) = (nmD a && winB n 1 50 && csB c) := rfl
      have t3 := hc.tyT
      rw [ev]
      cases hc with
      | tup cs lc hcs =>
        have q := lc_all (vs := [1]) (fi := iOf (DL.bin atD (eVar 0) (mret (.int 2)))) (p := .nm 1) (fe := rD (mCall 1 r_is_call [] (gVal (eVar 1) (mret [])))) (s := ⟨[.val (.tup [a, n, .tup cs]), .no], []⟩) cs (fun c => c) (fun c => .bl (calB c)) (sl := [.val (.tup [a, n, .tup cs]), .no]) (io := []) (slB := fun c => [.val (.tup [a, n, .tup cs]), .val c])
          (by simp [e2]) (by simp only [LN]; omega) (fun c hc io => rfl) (fun c hc' z => by simp [cal_run (Dat.of (hcs c hc'))]) (fun c hc => rfl) rfl (fun c hc => rfl)
        have g4 := allC_bl calB cs
        have hl4 : (4 < (cs.length : Int)) ↔ ¬ cs.length ≤ 4 := by omega
        have hlc : lenC [.tup cs] = some (.int (cs.length : Int)) := by simp
        have ec : csB (.tup cs) = (decide (cs.length ≤ 4) && cs.all calB) := rfl
        rw [ec]
        simp only [isTup] at t3
        generalize winB n 1 50 = bn at *
        generalize cs.all calB = bc at *
        generalize cs.map (fun c => D.bl (calB c)) = L at q g4
        generalize nmD a = ba at *
        generalize hE : D.tup [a, n, .tup cs] = E at *
        generalize hC : D.tup cs = C at *
        cases ba with
        | false => simp [r_is_function, bodyFn, b_is_function, List.replicate, isiC, h1, h2, t3, e0, e1, e2, nr, br]
        | true =>
          cases bn with
          | false => simp [r_is_function, bodyFn, b_is_function, List.replicate, isiC, h1, h2, t3, e0, e1, e2, nr, br]
          | true =>
            by_cases h : cs.length ≤ 4
            · simp [r_is_function, bodyFn, b_is_function, List.replicate, isiC, h1, h2, t3, e0, e1, e2, nr, br, hlc, hl4, h, q, g4]
            · simp [r_is_function, bodyFn, b_is_function, List.replicate, isiC, h1, h2, t3, e0, e1, e2, nr, br, hlc, hl4, h]
      | _ =>
        simp only [isTup] at t3
        simp only [csB, Bool.and_false]
        generalize winB n 1 50 = bn at *
        generalize nmD a = ba at *
        cases ba <;> cases bn <;> simp [r_is_function, bodyFn, b_is_function, List.replicate, isiC, h1, h2, t3, e0, e1, e2, nr, br]
    · rw [fun_ne h3]
      refine run1 (io' := []) ?_ s
      have h3' : ¬ (xs.length : Int) = 3 := by omega
      have g2 : lenC [.tup xs] = some (.int (xs.length : Int)) := by simp
      simp only [isTup] at t
      generalize (xs.length : Int) = k at *
      generalize D.tup xs = E at *
      simp [r_is_function, bodyFn, b_is_function, List.replicate, isiC, t, g2, h3']
  | _ => exact run1 (io' := []) (by
      simp only [isTup] at t
      simp [r_is_function, bodyFn, b_is_function, List.replicate, isiC, t, funB]) s
theorem nmD_str {d : D} (h : nmD d = true) : ∃ x, d = .str x ∧ Wk.Nm x := by
  cases d with
  | str x => exact ⟨x, rfl, nmB_iff.mp h⟩
  | _ => cases h
theorem winB_int {d : D} {a b : Int} (h : winB d a b = true) : ∃ i : Int, d = .int i ∧ a ≤ i ∧ i ≤ b := by
  cases d with
  | int i => exact ⟨i, rfl, by simpa [winB] using h⟩
  | _ => cases h
theorem cal_shape {d : D} (h : calB d = true) : ∃ k : Ca, CaB k ∧ d = encC k := by
  unfold calB at h
  split at h
  · rename_i a n
    rw [Bool.and_eq_true] at h
    obtain ⟨x, rfl, hx⟩ := nmD_str h.1
    obtain ⟨i, rfl, hi⟩ := winB_int h.2
    exact ⟨(x, i), ⟨hx, hi.1, hi.2⟩, rfl⟩
  · cases h
theorem fun_shape {d : D} (h : funB d = true) : ∃ f : Fu, FB f ∧ d = encF f := by
  unfold funB at h
  split at h
  · rename_i a n c
    rw [Bool.and_eq_true, Bool.and_eq_true] at h
    obtain ⟨x, rfl, hx⟩ := nmD_str h.1.1
    obtain ⟨i, rfl, hi⟩ := winB_int h.1.2
    have hc := h.2
    unfold csB at hc
    split at hc
    · rename_i cs
      rw [Bool.and_eq_true, decide_eq_true_eq, List.all_eq_true] at hc
      have key : ∀ cs : List D, (∀ c ∈ cs, calB c = true) → ∃ ks : List Ca, cs = ks.map encC ∧ ∀ k ∈ ks, CaB k := by
        intro cs
        induction cs with
        | nil => intro _; exact ⟨[], rfl, fun k hk => nomatch hk⟩
        | cons c cs ih =>
          intro h2
          obtain ⟨ks, rfl, hk⟩ := ih fun x hx => h2 x (.tail _ hx)
          obtain ⟨k, K, rfl⟩ := cal_shape (h2 c List.mem_cons_self)
          exact ⟨k :: ks, rfl, fun q hq => by
            rcases List.mem_cons.mp hq with rfl | hq
            · exact K
            · exact hk q hq⟩
      obtain ⟨ks, rfl, hk⟩ := key cs hc.2
      exact ⟨(x, i, ks), ⟨hx, hi.1, hi.2, by simpa using hc.1, hk⟩, rfl⟩
    · cases hc
  · cases h
end Wk
set_option maxHeartbeats 4000000
namespace Wk
open PySem PyProof.Rows L2 DL
def badF (L : List D) (i : Nat) : Bool := !funB (L.getD i .non) || decide (i = 6) || decide (nmOf (L.getD i .non) ∈ (L.take i).map nmOf)
def badC (L : List D) (i : Nat) : Bool := !((clsD (L.getD i .non)).all fun c => decide (nmOf c ∈ L.map nmOf))
theorem getD_in {L : List D} {i : Nat} (h : i < L.length) : L.getD i .non ∈ L := by
  rw [List.getD_eq_getElem?_getD, List.getElem?_eq_getElem h]
  exact List.getElem_mem _
theorem take_fun {L : List D} {i : Nat} (hi : i ≤ L.length) (h : ∀ j < i, badF L j = false) : ∀ d ∈ L.take i, funB d = true := fun d hd => by
  obtain ⟨j, hj, rfl⟩ := List.mem_iff_getElem.mp hd
  simp only [List.length_take] at hj
  have := h j (by omega)
  simp only [badF, Bool.or_eq_false_iff] at this
  have h1 := this.1.1
  have e : L.getD j .non = (L.take i)[j]'(by simp; omega) := by simp [show j < L.length by omega]
  rw [e] at h1
  simpa using h1
theorem in_dec {x : Str} {ns : List Str} (hx : PyData.strOk x = true) (hn : ∀ x ∈ ns, PyData.strOk x = true) : inD (.str x) (.lst (ns.map .str)) = some (.bl (decide (x ∈ ns))) := in_strs hx hn
theorem notIn_dec {x : Str} {ns : List Str} (hx : PyData.strOk x = true) (hn : ∀ x ∈ ns, PyData.strOk x = true) : notInD (.str x) (.lst (ns.map .str)) = some (.bl (!decide (x ∈ ns))) := notIn_strs hx hn
structure FL (L : List D) : Prop where
  fu : ∀ d ∈ L, Dat d
  len : L.length ≤ 5001
theorem nm_ok {d : D} (h : Dat d) (hb : funB d = true) : atD d (.int 0) = some (.str (nmOf d)) ∧ PyData.strOk (nmOf d) = true ∧ ∃ cs, atD d (.int 2) = some (.tup cs) ∧ clsD d = cs ∧ (∀ c ∈ cs, ∃ k : Ca, CaB k ∧ c = encC k) ∧ cs.length ≤ 4 := by
  obtain ⟨f, F, rfl⟩ := fun_shape hb
  refine ⟨rfl, F.nm.ok, f.2.2.map encC, rfl, rfl, fun c hc => ?_, by simpa using F.len⟩
  obtain ⟨k, hk, rfl⟩ := List.mem_map.mp hc
  exact ⟨k, F.ca k hk, rfl⟩
theorem names_gen {L : List D} (hf : ∀ d ∈ L, Dat d ∧ funB d = true) (hl : L.length ≤ 5001) (s : S) : runFn r_names_in [] [.val (.tup L)] s = .ok (.own (.lst ((L.map nmOf).map .str))) s := run1 (io' := []) (by
  have q := lc_all (vs := [1]) (fi := iOf (eVar 0)) (p := .nm 1) (fe := DL.bin atD (eVar 1) (mret (.int 0))) (s := ⟨[.val (.tup L), .no], []⟩) L (fun d => d) (fun d => .str (nmOf d)) (sl := [.val (.tup L), .no]) (io := []) (slB := fun d => [.val (.tup L), .val d])
    (by simp) (by simp only [LN]; omega) (fun c hc io => rfl) (fun d hd z => by
      have := (nm_ok (hf d hd).1 (hf d hd).2).1
      simp [this]) (fun c hc => rfl) rfl (fun c hc => rfl)
  have e : (L.map nmOf).map D.str = L.map fun d => D.str (nmOf d) := by rw [List.map_map]; rfl
  rw [e]
  generalize (L.map fun d => D.str (nmOf d)) = R at *
  generalize D.tup L = T at *
  simp [r_names_in, bodyFn, b_names_in, List.replicate, q]) s
/-! the program -/
abbrev Sp4 (T : D) (x1 x2 : Sl) : S := ⟨[.val T, x1, x2, .no], []⟩
theorem wf1_core (T d T2 : D) (j : Int) (fb ib : Bool) (ns : List D) (a : D) (h1 : ∀ s, runFn r_is_function [] [.val d] s = .ok (.val (.bl fb)) s) (h2 : fb = true → atD d (.int 0) = some a ∧ slD T none (some j) = some T2 ∧ (∀ s, runFn r_names_in [] [.val T2] s = .ok (.own (.lst ns)) s) ∧ inD a (.lst ns) = some (.bl ib)) :
    wipeO [1, 2] b_wrong_function_1 (Sp4 T (.val (.int j)) (.val d)) = if (!fb || (decide (j = 6) || ib)) = true then .rt (.val (.int j)) (Sp4 T (.val (.int j)) (.val d)) else .nx (Sp4 T .no .no) := by
  cases fb with
  | false => simp [b_wrong_function_1, h1]
  | true =>
    obtain ⟨e1, e2, e3, e4⟩ := h2 rfl
    by_cases h6 : j = 6
    · subst h6
      simp [b_wrong_function_1, h1]
    · cases ib <;> simp [b_wrong_function_1, h1, h6, e1, e2, e3, e4, slice, pSome, dI, cdL]
theorem wf2_core (T d : D) (j : Int) (C : List D) (bs : D) (cb : Bool) (h1 : eLcL [3] (iOf (DL.bin atD (eVar 2) (mret (.int 2)))) (.nm 3) mYes (DL.bin inD (DL.bin atD (eVar 3) (mret (.int 0))) (rD (mCall 1 r_names_in [] (gVal (eVar 0) (mret []))))) (Sp4 T (.val (.int j)) (.val d)) = .ok C (Sp4 T (.val (.int j)) (.val d))) (h2 : allC [.lst C] = some (.bl cb)) :
    wipeO [1, 2] b_wrong_function_2 (Sp4 T (.val (.int j)) (.val d)) = if (!cb) = true then .rt (.val (.int j)) (Sp4 T (.val (.int j)) (.val d)) else .nx (Sp4 T .no .no) := by
  cases cb <;> simp [b_wrong_function_2, h1, h2]
theorem wf1_loop {L : List D} (F : FL L) : ((∀ i < L.length, badF L i = false) → forD (.tp (.cons (.nm 1) (.cons (.nm 2) .nil))) (wipeO [1, 2] b_wrong_function_1) (enumFrom 0 L) (Sp4 (.tup L) .no .no) = .nx (Sp4 (.tup L) .no .no)) ∧
    (∀ i < L.length, badF L i = true → (∀ j < i, badF L j = false) → ∃ s2, forD (.tp (.cons (.nm 1) (.cons (.nm 2) .nil))) (wipeO [1, 2] b_wrong_function_1) (enumFrom 0 L) (Sp4 (.tup L) .no .no) = .rt (.val (.int (i : Int))) s2) := by
  rw [enum_rng]
  refine loop_find (fun i => .tup [.int ((0 + i : Nat) : Int), L.getD i .non]) (fun _ => Sp4 (.tup L) .no .no) (badF L) (fun i => .val (.int (i : Int))) L.length fun i hi hp => ?_
  refine ⟨Sp4 (.tup L) (.val (.int ((0 + i : Nat) : Int))) (.val (L.getD i .non)), rfl, ?_⟩
  rw [Nat.zero_add]
  have hm := getD_in hi
  have hfu := F.fu _ hm
  have tf := take_fun (by omega) hp
  have sl : slD (.tup L) none (some (i : Int)) = some (.tup (L.take i)) := by simp only [slD]; rw [cutG_take _ _ (by omega)]
  have hf : ∀ d ∈ L.take i, Dat d ∧ funB d = true := fun d hd => ⟨F.fu d (List.mem_of_mem_take hd), tf d hd⟩
  have nr := fun s => names_gen hf (by have := F.len; simp; omega) s
  have c := wf1_core (.tup L) (L.getD i .non) (.tup (L.take i)) (i : Int) (funB (L.getD i .non)) (decide (nmOf (L.getD i .non) ∈ (L.take i).map nmOf)) (((L.take i).map nmOf).map .str) (.str (nmOf (L.getD i .non))) (fun s => fun_is hfu s) (fun hb => ⟨(nm_ok hfu hb).1, sl, nr, in_dec (nm_ok hfu hb).2.1 fun x hx => by
    obtain ⟨d, hd, rfl⟩ := List.mem_map.mp hx
    exact (nm_ok (hf d hd).1 (hf d hd).2).2.1⟩)
  have eb : badF L i = (!funB (L.getD i .non) || (decide ((i : Int) = 6) || decide (nmOf (L.getD i .non) ∈ (L.take i).map nmOf))) := by
    have : decide (i = 6) = decide ((i : Int) = 6) := decide_eq_decide.mpr (by omega)
    rw [badF, this, Bool.or_assoc]
  rw [eb]
  refine ⟨fun h => ?_, fun h => ?_⟩
  · rw [c, if_neg (by rw [h]; decide)]
  · rw [c, if_pos h]
    exact ⟨_, rfl⟩
theorem wf2_loop {L : List D} (F : FL L) (hb : ∀ d ∈ L, funB d = true) : ((∀ i < L.length, badC L i = false) → forD (.tp (.cons (.nm 1) (.cons (.nm 2) .nil))) (wipeO [1, 2] b_wrong_function_2) (enumFrom 0 L) (Sp4 (.tup L) .no .no) = .nx (Sp4 (.tup L) .no .no)) ∧
    (∀ i < L.length, badC L i = true → (∀ j < i, badC L j = false) → ∃ s2, forD (.tp (.cons (.nm 1) (.cons (.nm 2) .nil))) (wipeO [1, 2] b_wrong_function_2) (enumFrom 0 L) (Sp4 (.tup L) .no .no) = .rt (.val (.int (i : Int))) s2) := by
  rw [enum_rng]
  refine loop_find (fun i => .tup [.int ((0 + i : Nat) : Int), L.getD i .non]) (fun _ => Sp4 (.tup L) .no .no) (badC L) (fun i => .val (.int (i : Int))) L.length fun i hi hp => ?_
  refine ⟨Sp4 (.tup L) (.val (.int ((0 + i : Nat) : Int))) (.val (L.getD i .non)), rfl, ?_⟩
  rw [Nat.zero_add]
  have hm := getD_in hi
  obtain ⟨a1, a2, cs, a3, a4, a5, a6⟩ := nm_ok (F.fu _ hm) (hb _ hm)
  have hf : ∀ d ∈ L, Dat d ∧ funB d = true := fun d hd => ⟨F.fu d hd, hb d hd⟩
  have nr := fun s => names_gen hf F.len s
  have hs : ∀ x ∈ L.map nmOf, PyData.strOk x = true := fun x hx => by
    obtain ⟨d, hd, rfl⟩ := List.mem_map.mp hx
    exact (nm_ok (hf d hd).1 (hf d hd).2).2.1
  have q := lc_all (vs := [3]) (fi := iOf (DL.bin atD (eVar 2) (mret (.int 2)))) (p := .nm 3) (fe := DL.bin inD (DL.bin atD (eVar 3) (mret (.int 0))) (rD (mCall 1 r_names_in [] (gVal (eVar 0) (mret []))))) (s := Sp4 (.tup L) (.val (.int (i : Int))) (.val (L.getD i .non))) cs (fun c => c) (fun c => .bl (decide (nmOf c ∈ L.map nmOf))) (sl := [.val (.tup L), .val (.int (i : Int)), .val (L.getD i .non), .no]) (io := []) (slB := fun c => [.val (.tup L), .val (.int (i : Int)), .val (L.getD i .non), .val c])
    (by
      generalize L.getD i .non = d at *
      simp [a3]) (by simp only [LN]; omega) (fun c hc io => rfl) (fun c hc z => by
      obtain ⟨k, hk, rfl⟩ := a5 c hc
      have h1 : atD (encC k) (.int 0) = some (.str k.1) := rfl
      have h2 : nmOf (encC k) = k.1 := rfl
      have h3 := in_dec (x := k.1) hk.1.ok hs
      rw [h2]
      generalize (L.map nmOf).map D.str = R at *
      generalize decide (k.1 ∈ L.map nmOf) = bb at *
      generalize L.getD i .non = d at *
      generalize D.tup L = T at *
      simp [h1, nr, cdL, h3]) (fun c hc => rfl) rfl (fun c hc => rfl)
  have g := allC_bl (fun c => decide (nmOf c ∈ L.map nmOf)) cs
  have c := wf2_core (.tup L) (L.getD i .non) (i : Int) _ .non (cs.all fun c => decide (nmOf c ∈ L.map nmOf)) q g
  have eb : badC L i = !(cs.all fun c => decide (nmOf c ∈ L.map nmOf)) := by rw [badC, a4]
  rw [eb]
  refine ⟨fun h => ?_, fun h => ?_⟩
  · rw [c, if_neg (by rw [h]; decide)]
  · rw [c, if_pos h]
    exact ⟨_, rfl⟩
/-- the first thing that is wrong -/
inductive Wr (L : List D) : Option Nat → Prop
  | fst (i : Nat) (hi : i < L.length) (h : badF L i = true) (hp : ∀ j < i, badF L j = false) : Wr L (some i)
  | snd (i : Nat) (hi : i < L.length) (h0 : ∀ j < L.length, badF L j = false) (h : badC L i = true) (hp : ∀ j < i, badC L j = false) : Wr L (some i)
  | no (h0 : ∀ j < L.length, badF L j = false) (h1 : ∀ j < L.length, badC L j = false) : Wr L none
theorem wr_ex (L : List D) : ∃ o, Wr L o := by
  rcases first_or (badF L) L.length with h | ⟨i, a, b, c⟩
  · rcases first_or (badC L) L.length with h' | ⟨i, a, b, c⟩
    · exact ⟨_, .no h h'⟩
    · exact ⟨_, .snd i a h b c⟩
  · exact ⟨_, .fst i a b c⟩
theorem all_fun {L : List D} (h : ∀ j < L.length, badF L j = false) : ∀ d ∈ L, funB d = true := fun d hd => take_fun (Nat.le_refl _) h d (by rw [List.take_length]; exact hd)
def wrD : Option Nat → D
  | none => .non
  | some i => .int (i : Int)
theorem wf_run {L : List D} (F : FL L) {o : Option Nat} (h : Wr L o) (s : S) : runFn r_wrong_function [] [.val (.tup L)] s = .ok (.val (wrD o)) s := by
  have it : ∀ T : D, ∀ E, listOf1 [T] = some E → iEnu (aCons (eVar 0) (mret [])) (Sp4 T .no .no) = .ok (enumFrom 0 E) (Sp4 T .no .no) := fun T E hE => by simp [hE]
  have it := it (.tup L) L rfl
  have w1 := wf1_loop F
  cases h with
  | fst i hi hb hp =>
    obtain ⟨s2, e⟩ := w1.2 i hi hb hp
    exact run1 (io' := s2.io) (fn_of (s1 := s2) (seq_rt (for_of (ds := enumFrom 0 L) (s1 := Sp4 (.tup L) .no .no) it e))) s
  | snd i hi h0 hb hp =>
    obtain ⟨s2, e⟩ := (wf2_loop F (all_fun h0)).2 i hi hb hp
    exact run1 (io' := s2.io) (fn_of (s1 := s2) (seq_nx (for_of (ds := enumFrom 0 L) (s1 := Sp4 (.tup L) .no .no) it (w1.1 h0)) (seq_rt (for_of (ds := enumFrom 0 L) (s1 := Sp4 (.tup L) .no .no) it e)))) s
  | no h0 h1 =>
    exact run1 (io' := []) (fn_of (s1 := Sp4 (.tup L) .no .no) (seq_nx (for_of (ds := enumFrom 0 L) (s1 := Sp4 (.tup L) .no .no) it (w1.1 h0)) (seq_nx (for_of (ds := enumFrom 0 L) (s1 := Sp4 (.tup L) .no .no) it ((wf2_loop F (all_fun h0)).1 h1)) rfl))) s
end Wk
set_option maxHeartbeats 4000000
namespace Wk
open PySem PyProof.Rows L2 DL
/-! the law's own look -/
abbrev Sl5 (T : D) (tk : List D) (x2 x3 x4 : Sl) : S := ⟨[.val T, .own (.lst tk), x2, x3, x4], []⟩
theorem in_core (T d c a n : D) (tk : List D) (j : Int) (na wb : Bool) (h0 : isiT cls c (.ty "tuple") = some true) (h1 : lenC [c] = some (.int 2)) (h2 : atD c (.int 0) = some a) (h3 : atD c (.int 1) = some n) (h4 : ∀ s, runFn r__law_is_name [] [.val a] s = .ok (.val (.bl na)) s) (h5 : ∀ s, runFn r__law_within [] [.val n, .val (.int 1), .val (.int 9)] s = .ok (.val (.bl wb)) s) :
    wipeO [4] b__law_wrong_2 (Sl5 T tk (.val (.int j)) (.val d) (.val c)) = if (na && wb) = true then .nx (Sl5 T tk (.val (.int j)) (.val d) .no) else .rt (.val (.int j)) (Sl5 T tk (.val (.int j)) (.val d) (.val c)) := by
  cases na <;> cases wb <;> simp [b__law_wrong_2, isiC, h0, h1, h2, h3, h4, h5]
theorem cal_step {c : D} (h : Dat c) (T d : D) (tk : List D) (j : Int) : wipeO [4] b__law_wrong_2 (Sl5 T tk (.val (.int j)) (.val d) (.val c)) = if calB c = true then .nx (Sl5 T tk (.val (.int j)) (.val d) .no) else .rt (.val (.int j)) (Sl5 T tk (.val (.int j)) (.val d) (.val c)) := by
  have t := h.tyT
  cases h with
  | tup xs l hx =>
    by_cases h2 : xs.length = 2
    · obtain ⟨a, n, rfl⟩ : ∃ a n, xs = [a, n] := by
        match xs, h2 with
        | [a, n], _ => exact ⟨a, n, rfl⟩
      exact in_core T d _ _ _ tk j _ _ rfl rfl rfl rfl (fun s => lnmD_run (Dat.of (hx a (by simp))) s) (fun s => (Dat.of (hx n (by simp))).within 1 9 s)
    · rw [cal_ne h2]
      have h2' : ¬ (xs.length : Int) = 2 := by omega
      have g2 : lenC [.tup xs] = some (.int (xs.length : Int)) := by simp
      simp only [isTup] at t
      generalize (xs.length : Int) = k at *
      generalize D.tup xs = E at *
      simp [b__law_wrong_2, isiC, t, g2, h2']
  | _ =>
    simp only [isTup] at t
    simp [b__law_wrong_2, isiC, t, calB]
theorem cal_loop (T d : D) (tk : List D) (j : Int) : ∀ cs : List D, (∀ c ∈ cs, Dat c) → (cs.all calB = true → forD (.nm 4) (wipeO [4] b__law_wrong_2) cs (Sl5 T tk (.val (.int j)) (.val d) .no) = .nx (Sl5 T tk (.val (.int j)) (.val d) .no)) ∧ (cs.all calB = false → ∃ s2, forD (.nm 4) (wipeO [4] b__law_wrong_2) cs (Sl5 T tk (.val (.int j)) (.val d) .no) = .rt (.val (.int j)) s2)
  | [], _ => ⟨fun _ => rfl, fun h => by simp at h⟩
  | c :: cs, h => by
    have st := cal_step (h c List.mem_cons_self) T d tk j
    obtain ⟨i1, i2⟩ := cal_loop T d tk j cs fun x hx => h x (.tail _ hx)
    have b : (Pat.nm 4).bind c (Sl5 T tk (.val (.int j)) (.val d) .no) = some (Sl5 T tk (.val (.int j)) (.val d) (.val c)) := rfl
    cases hc : calB c with
    | true =>
      rw [hc, if_pos rfl] at st
      simp only [List.all_cons, hc, Bool.true_and, forD, b, st]
      exact ⟨i1, i2⟩
    | false =>
      rw [hc, if_neg (by decide)] at st
      simp only [List.all_cons, hc, Bool.false_and, forD, b, st]
      exact ⟨fun h => (by cases h), fun _ => ⟨_, rfl⟩⟩
def lw0 : S → Out := (sSet 3 (DL.bin atD (eVar 0) (eVar 2)))
def lw1 : S → Out := (sIf (tOrB (tNotB (tru (cal (isiC cls) (aCons (eVar 3) (aCons (mret (.ty "tuple")) (mret [])))))) (tOrB (asB (DL.bin neD (cal lenC (aCons (eVar 3) (mret []))) (mret (.int 3)))) (tOrB (tNotB (tru (rD (mCall 1 r__law_is_name [] (gVal (DL.bin atD (eVar 3) (mret (.int 0))) (mret [])))))) (tOrB (asB (binP inD (DL.bin atD (eVar 3) (mret (.int 0))) 1)) (asB (DL.bin (cmpI fun i j => decide (j < i)) (eVar 2) (mret (.int 5)))))))) (sRet (eVar 2)) sNx)
def lw2 : S → Out := (sIf (tOrB (tNotB (tru (rD (mCall 3 r__law_within [] (gVal (DL.bin atD (eVar 3) (mret (.int 1))) (gVal (mret (.int 1)) (gVal (mret (.int 50)) (mret [])))))))) (tOrB (tNotB (tru (cal (isiC cls) (aCons (DL.bin atD (eVar 3) (mret (.int 2))) (aCons (mret (.ty "tuple")) (mret [])))))) (asB (DL.bin (cmpI fun i j => decide (j < i)) (cal lenC (aCons (DL.bin atD (eVar 3) (mret (.int 2))) (mret []))) (mret (.int 4)))))) (sRet (eVar 2)) sNx)
def lw3 : S → Out := (sForW [4] (iOf (DL.bin atD (eVar 3) (mret (.int 2)))) (.nm 4) b__law_wrong_2)
def lw4 : S → Out := (sApp 1 (DL.bin atD (eVar 3) (mret (.int 0))))
theorem lw_eq : b__law_wrong_1 = sSeq lw0 (sSeq lw1 (sSeq lw2 (sSeq lw3 lw4))) := rfl
theorem lwA (T d a : D) (tk : List D) (j : Int) (na ib : Bool) (h0 : isiT cls d (.ty "tuple") = some true) (h1 : lenC [d] = some (.int 3)) (h2 : atD d (.int 0) = some a) (h4 : ∀ s, runFn r__law_is_name [] [.val a] s = .ok (.val (.bl na)) s) (h6 : na = true → inD a (.lst tk) = some (.bl ib)) :
    lw1 (Sl5 T tk (.val (.int j)) (.val d) .no) = if (!na || (ib || decide (5 < j))) = true then .rt (.val (.int j)) (Sl5 T tk (.val (.int j)) (.val d) .no) else .nx (Sl5 T tk (.val (.int j)) (.val d) .no) := by
  cases na with
  | false => simp [lw1, isiC, h0, h1, h2, h4]
  | true =>
    have h6 := h6 rfl
    cases ib with
    | true => simp [lw1, isiC, h0, h1, h2, h4, h6, cdL, cdI, cdK, flatD]
    | false =>
      by_cases h : 5 < j
      · simp [lw1, isiC, h0, h1, h2, h4, h6, h, cdL, cdI, cdK, flatD]
      · simp [lw1, isiC, h0, h1, h2, h4, h6, h, cdL, cdI, cdK, flatD]
theorem lwB (T d n C : D) (tk : List D) (j k : Int) (wb tb : Bool) (h3 : atD d (.int 1) = some n) (h5 : ∀ s, runFn r__law_within [] [.val n, .val (.int 1), .val (.int 50)] s = .ok (.val (.bl wb)) s) (h7 : atD d (.int 2) = some C) (h8 : isiT cls C (.ty "tuple") = some tb) (h9 : tb = true → lenC [C] = some (.int k)) :
    lw2 (Sl5 T tk (.val (.int j)) (.val d) .no) = if (!wb || (!tb || decide (4 < k))) = true then .rt (.val (.int j)) (Sl5 T tk (.val (.int j)) (.val d) .no) else .nx (Sl5 T tk (.val (.int j)) (.val d) .no) := by
  cases wb with
  | false => simp [lw2, isiC, h3, h5]
  | true =>
    cases tb with
    | false => simp [lw2, isiC, h3, h5, h7, h8]
    | true =>
      have h9 := h9 rfl
      by_cases h : 4 < k
      · simp [lw2, isiC, h3, h5, h7, h8, h9, h]
      · simp [lw2, isiC, h3, h5, h7, h8, h9, h]
abbrev Lk5 (L : List D) (i : Nat) : S := Sl5 (.tup L) (((L.take i).map nmOf).map .str) .no .no .no
theorem take_one {L : List D} {i : Nat} (h : i < L.length) : L.take (i + 1) = L.take i ++ [L.getD i .non] := by
  rw [List.take_succ_eq_append_getElem h]
  simp [h]
theorem lw_step {L : List D} (F : FL L) (i : Nat) (hi : i < L.length) (hp : ∀ j < i, badF L j = false) :
    (badF L i = false → wipeO [2, 3, 4] b__law_wrong_1 (Sl5 (.tup L) (((L.take i).map nmOf).map .str) (.val (.int (i : Int))) .no .no) = .nx (Lk5 L (i + 1))) ∧ (badF L i = true → ∃ s2, wipeO [2, 3, 4] b__law_wrong_1 (Sl5 (.tup L) (((L.take i).map nmOf).map .str) (.val (.int (i : Int))) .no .no) = .rt (.val (.int (i : Int))) s2) := by
  have hm := getD_in hi
  have hfu := F.fu _ hm
  have e := (at_nat (xs := L) (i := i) hi).2
  have ed : L[i] = L.getD i .non := by simp [hi]
  rw [ed] at e
  have tf := take_fun (by omega) hp
  have hs : ∀ x ∈ (L.take i).map nmOf, PyData.strOk x = true := fun x hx => by
    obtain ⟨d, hd, rfl⟩ := List.mem_map.mp hx
    exact (nm_ok (F.fu d (List.mem_of_mem_take hd)) (tf d hd)).2.1
  have hi6 : i ≤ 6 := by
    refine Nat.le_of_not_lt fun h => ?_
    have := hp 6 h
    simp [badF] at this
  have htk : (((L.take i).map nmOf).map D.str).length < LN := by simp [LN]; omega
  have hnx : ((L.take (i + 1)).map nmOf).map D.str = ((L.take i).map nmOf).map D.str ++ [.str (nmOf (L.getD i .non))] := by
    rw [take_one hi]; simp
  have s0 : lw0 (Sl5 (.tup L) (((L.take i).map nmOf).map .str) (.val (.int (i : Int))) .no .no) = .nx (Sl5 (.tup L) (((L.take i).map nmOf).map .str) (.val (.int (i : Int))) (.val (L.getD i .non)) .no) := by
    generalize ((L.take i).map nmOf).map D.str = R at *
    generalize L.getD i .non = d at *
    generalize D.tup L = T at *
    simp [lw0, e]
  rw [lw_eq]
  simp only [Lk5, hnx]
  have bF : badF L i = (!funB (L.getD i .non) || (decide (i = 6) || decide (nmOf (L.getD i .non) ∈ (L.take i).map nmOf))) := by rw [badF, Bool.or_assoc]
  have rt1 : ∀ (d : D), L.getD i .non = d → funB d = false → lw1 (Sl5 (.tup L) (((L.take i).map nmOf).map .str) (.val (.int (i : Int))) (.val d) .no) = .rt (.val (.int (i : Int))) (Sl5 (.tup L) (((L.take i).map nmOf).map .str) (.val (.int (i : Int))) (.val d) .no) → (badF L i = false → wipeO [2, 3, 4] (sSeq lw0 (sSeq lw1 (sSeq lw2 (sSeq lw3 lw4)))) (Sl5 (.tup L) (((L.take i).map nmOf).map .str) (.val (.int (i : Int))) .no .no) = .nx (Sl5 (.tup L) (((L.take i).map nmOf).map .str ++ [.str (nmOf (L.getD i .non))]) .no .no .no)) ∧ (badF L i = true → ∃ s2, wipeO [2, 3, 4] (sSeq lw0 (sSeq lw1 (sSeq lw2 (sSeq lw3 lw4)))) (Sl5 (.tup L) (((L.take i).map nmOf).map .str) (.val (.int (i : Int))) .no .no) = .rt (.val (.int (i : Int))) s2) := fun d hd hf s1 => by
    have hb : badF L i = true := by rw [bF, hd, hf]; rfl
    refine ⟨fun hh => (by rw [hb] at hh; cases hh), fun _ => ?_⟩
    rw [hd] at s0
    rw [q_wipeO, seq_nx s0 (seq_rt s1)]
    exact ⟨_, rfl⟩
  have nt : ∀ d : D, isiT cls d (.ty "tuple") = some false → lw1 (Sl5 (.tup L) (((L.take i).map nmOf).map .str) (.val (.int (i : Int))) (.val d) .no) = .rt (.val (.int (i : Int))) (Sl5 (.tup L) (((L.take i).map nmOf).map .str) (.val (.int (i : Int))) (.val d) .no) := fun d h1 => by
    generalize ((L.take i).map nmOf).map D.str = R at *
    generalize D.tup L = T at *
    simp [lw1, isiC, h1]
  generalize hdd : L.getD i .non = dd at *
  cases hfu with
  | tup xs lx hx =>
    by_cases h3 : xs.length = 3
    · obtain ⟨a, n, c, rfl⟩ : ∃ a n c, xs = [a, n, c] := by
        match xs, h3 with
        | [a, n, c], _ => exact ⟨a, n, c, rfl⟩
      have ha := Dat.of (hx a (by simp))
      have hn := Dat.of (hx n (by simp))
      have hc := Dat.of (hx c (by simp))
      clear rt1 nt
      have ev : funB (.tup [a, n, c]) = (nmD a && winB n 1 50 && csB c) := rfl
      rw [ev] at bF
      have hin : nmD a = true → inD a (.lst (((L.take i).map nmOf).map .str)) = some (.bl (decide (nmOf (.tup [a, n, c]) ∈ (L.take i).map nmOf))) ∧ a = .str (nmOf (.tup [a, n, c])) := fun hna => by
        obtain ⟨x, rfl, hxn⟩ := nmD_str hna
        exact ⟨in_dec hxn.ok hs, rfl⟩
      have A := lwA (.tup L) (.tup [a, n, c]) a (((L.take i).map nmOf).map .str) (i : Int) (nmD a) (decide (nmOf (.tup [a, n, c]) ∈ (L.take i).map nmOf)) rfl rfl rfl (fun s => lnmD_run ha s) (fun h => (hin h).1)
      have i5 : decide (5 < (i : Int)) = decide (i = 6) := decide_eq_decide.mpr (by omega)
      rw [i5] at A
      have wr := fun s => hn.within 1 50 s
      have tc := hc.tyT
      have e2 : atD (.tup [a, n, c]) (.int 2) = some c := rfl
      have e1 : atD (.tup [a, n, c]) (.int 1) = some n := rfl
      have e0 : atD (.tup [a, n, c]) (.int 0) = some a := rfl
      have s4 : nmD a = true → lw4 (Sl5 (.tup L) (((L.take i).map nmOf).map .str) (.val (.int (i : Int))) (.val (.tup [a, n, c])) .no) = .nx (Sl5 (.tup L) (((L.take i).map nmOf).map .str ++ [.str (nmOf (.tup [a, n, c]))]) (.val (.int (i : Int))) (.val (.tup [a, n, c])) .no) := fun hna => by
        have ea := (hin hna).2
        rw [← ea]
        clear A ea hin
        generalize ((L.take i).map nmOf).map D.str = R at *
        generalize D.tup L = T at *
        generalize D.tup [a, n, c] = E at *
        simp [lw4, e0, htk, cdL, cdI, cdK]
      rw [bF]
      generalize decide (nmOf (.tup [a, n, c]) ∈ (L.take i).map nmOf) = ib at *
      generalize decide (i = 6) = i6 at *
      cases hna : nmD a with
      | false =>
        rw [hna] at A
        simp only [Bool.not_false, Bool.true_or, if_true] at A
        refine ⟨fun hh => (by simp at hh), fun _ => ?_⟩
        rw [q_wipeO, seq_nx s0 (seq_rt A)]
        exact ⟨_, rfl⟩
      | true =>
        have s4 := s4 hna
        rw [hna] at A
        cases hii : (ib || i6) with
        | true =>
          simp only [Bool.not_true, Bool.false_or, hii, if_true] at A
          refine ⟨fun hh => (by exfalso; cases ib <;> cases i6 <;> simp at hii hh), fun _ => ?_⟩
          rw [q_wipeO, seq_nx s0 (seq_rt A)]
          exact ⟨_, rfl⟩
        | false =>
          simp only [Bool.not_true, Bool.false_or, hii, Bool.false_eq_true, if_false] at A
          have i6f : (i6 || ib) = false := by cases ib <;> cases i6 <;> simp at hii ⊢
          rw [i6f]
          have Bt : ∀ k : Int, (isTup c = true → lenC [c] = some (.int k)) → _ := fun k hk => lwB (.tup L) (.tup [a, n, c]) n c (((L.take i).map nmOf).map .str) (i : Int) k (winB n 1 50) (isTup c) e1 wr e2 tc hk
          cases hc with
          | tup cs lc hcs =>
            have B := Bt (cs.length : Int) (fun _ => by simp)
            obtain ⟨c1, c2⟩ := cal_loop (.tup L) (.tup [a, n, .tup cs]) (((L.take i).map nmOf).map .str) (i : Int) cs fun x hx => Dat.of (hcs x hx)
            have i4 : decide (4 < (cs.length : Int)) = !decide (cs.length ≤ 4) := by
              by_cases h : cs.length ≤ 4
              · have : ¬ 4 < (cs.length : Int) := by omega
                simp [h, this]
              · have : 4 < (cs.length : Int) := by omega
                simp [h, this]
            rw [i4] at B
            have fl : ∀ o, forD (.nm 4) (wipeO [4] b__law_wrong_2) cs (Sl5 (.tup L) (((L.take i).map nmOf).map .str) (.val (.int (i : Int))) (.val (.tup [a, n, .tup cs])) .no) = o → lw3 (Sl5 (.tup L) (((L.take i).map nmOf).map .str) (.val (.int (i : Int))) (.val (.tup [a, n, .tup cs])) .no) = o := fun o ho => by
              exact for_of (ds := cs) (s1 := Sl5 (.tup L) (((L.take i).map nmOf).map .str) (.val (.int (i : Int))) (.val (.tup [a, n, .tup cs])) .no) (by
                clear A B c1 c2 ho s4 s0
                generalize ((L.take i).map nmOf).map D.str = R at *
                generalize D.tup L = T at *
                generalize hE : D.tup [a, n, .tup cs] = E at *
                simp [e2]) ho
            have ec : csB (.tup cs) = (decide (cs.length ≤ 4) && cs.all calB) := rfl
            rw [ec]
            simp only [isTup, Bool.not_true, Bool.false_or] at B
            generalize decide (cs.length ≤ 4) = l4 at *
            generalize winB n 1 50 = wb at *
            cases hB : (!wb || !l4) with
            | true =>
              rw [hB, if_pos rfl] at B
              refine ⟨fun hh => (by exfalso; cases wb <;> cases l4 <;> simp at hB hh), fun _ => ?_⟩
              rw [q_wipeO, seq_nx s0 (seq_nx A (seq_rt B))]
              exact ⟨_, rfl⟩
            | false =>
              rw [hB, if_neg (by decide)] at B
              cases hC : cs.all calB with
              | true =>
                have := fl _ (c1 hC)
                refine ⟨fun _ => by rw [q_wipeO, seq_nx s0 (seq_nx A (seq_nx B (seq_nx this s4)))]; rfl, fun hh => ?_⟩
                exfalso
                cases wb <;> cases l4 <;> simp at hB hh
              | false =>
                obtain ⟨s2, e2'⟩ := c2 hC
                have := fl _ e2'
                refine ⟨fun hh => ?_, fun _ => ⟨s2, by rw [q_wipeO, seq_nx s0 (seq_nx A (seq_nx B (seq_rt this)))]⟩⟩
                exfalso
                simp at hh
          | _ =>
            have B := Bt 0 (fun h => by cases h)
            simp only [isTup, Bool.not_false, Bool.true_or, Bool.or_true, if_true] at B
            refine ⟨fun hh => (by exfalso; simp [csB] at hh), fun _ => ?_⟩
            rw [q_wipeO, seq_nx s0 (seq_nx A (seq_rt B))]
            exact ⟨_, rfl⟩
    · refine rt1 _ rfl (fun_ne h3) ?_
      have h3' : ¬ (xs.length : Int) = 3 := by omega
      have t1 : isiT cls (.tup xs) (.ty "tuple") = some true := rfl
      have g2 : lenC [.tup xs] = some (.int (xs.length : Int)) := by simp
      clear rt1 nt s0 bF
      generalize ((L.take i).map nmOf).map D.str = R at *
      generalize (xs.length : Int) = k at *
      generalize D.tup xs = E at *
      generalize D.tup L = T at *
      simp [lw1, isiC, t1, g2, h3']
  | _ => exact rt1 _ rfl rfl (nt _ rfl)
theorem lw2_core (T d : D) (tk C : List D) (j : Int) (nb : Bool) (q : eLcL [4] (iOf (DL.bin atD (DL.bin atD (eVar 0) (eVar 2)) (mret (.int 2)))) (.nm 4) (asB (binP notInD (DL.bin atD (eVar 4) (mret (.int 0))) 1)) (eVar 4) (Sl5 T tk (.val (.int j)) .no .no) = .ok C (Sl5 T tk (.val (.int j)) .no .no)) (h : neD (.lst C) (.lst []) = some (.bl nb)) :
    wipeO [2] b__law_wrong_3 (Sl5 T tk (.val (.int j)) .no .no) = if nb = true then .rt (.val (.int j)) (Sl5 T tk (.val (.int j)) .no .no) else .nx (Sl5 T tk .no .no .no) := by
  have l0 : 0 ≤ LN := by decide
  cases nb <;> simp [b__law_wrong_3, q, h, l0]
theorem lw2_step {L : List D} (F : FL L) (hb : ∀ d ∈ L, funB d = true) (i : Nat) (hi : i < L.length) :
    wipeO [2] b__law_wrong_3 (Sl5 (.tup L) ((L.map nmOf).map .str) (.val (.int (i : Int))) .no .no) = if badC L i = true then .rt (.val (.int (i : Int))) (Sl5 (.tup L) ((L.map nmOf).map .str) (.val (.int (i : Int))) .no .no) else .nx (Sl5 (.tup L) ((L.map nmOf).map .str) .no .no .no) := by
  have hm := getD_in hi
  obtain ⟨a1, a2, cs, a3, a4, a5, a6⟩ := nm_ok (F.fu _ hm) (hb _ hm)
  have e := (at_nat (xs := L) (i := i) hi).2
  have ed : L[i] = L.getD i .non := by simp [hi]
  rw [ed] at e
  have hs : ∀ x ∈ L.map nmOf, PyData.strOk x = true := fun x hx => by
    obtain ⟨d, hd, rfl⟩ := List.mem_map.mp hx
    exact (nm_ok (F.fu d hd) (hb d hd)).2.1
  have q := eLcL_pure (vs := [4]) (fi := iOf (DL.bin atD (DL.bin atD (eVar 0) (eVar 2)) (mret (.int 2)))) (p := .nm 4) (t := asB (binP notInD (DL.bin atD (eVar 4) (mret (.int 0))) 1)) (fe := eVar 4) (s := Sl5 (.tup L) ((L.map nmOf).map .str) (.val (.int (i : Int))) .no .no) (e := fun c : D => c) cs [.val (.tup L), .own (.lst ((L.map nmOf).map .str)), .val (.int (i : Int)), .no, .no] [.val (.tup L), .own (.lst ((L.map nmOf).map .str)), .val (.int (i : Int)), .no, .no] [] (fun c => [.val (.tup L), .own (.lst ((L.map nmOf).map .str)), .val (.int (i : Int)), .no, .val c]) (fun c => !decide (nmOf c ∈ L.map nmOf)) (fun c => c)
    (by
      generalize (L.map nmOf).map D.str = R at *
      generalize L.getD i .non = d at *
      generalize D.tup L = T at *
      simp [e, a3]) (by simp only [LN]; omega) (fun c hc io => rfl) (fun c hc z => by
      obtain ⟨k, hk, rfl⟩ := a5 c hc
      have h1 : atD (encC k) (.int 0) = some (.str k.1) := rfl
      have h2 : nmOf (encC k) = k.1 := rfl
      have h3 := notIn_dec (x := k.1) hk.1.ok hs
      rw [h2]
      generalize (L.map nmOf).map D.str = R at *
      generalize decide (k.1 ∈ L.map nmOf) = bb at *
      generalize D.tup L = T at *
      simp [h1, h3, cdL, cdI, cdK, flatD]) (fun c hc _ z => by simp) (fun c hc => rfl) rfl (fun c hc => rfl) rfl
  rw [List.map_id'] at q
  have ho : D.oks 9 (cs.filter fun c => !decide (nmOf c ∈ L.map nmOf)) = true := by
    rw [oks_all, List.all_eq_true]
    intro c hc
    obtain ⟨k, hk, rfl⟩ := a5 c (List.mem_filter.mp hc).1
    exact (sm_ok _ 9 9 (by decide) (sm_C hk 8)).1
  have hn : neD (.lst (cs.filter fun c => !decide (nmOf c ∈ L.map nmOf))) (.lst []) = some (.bl (badC L i)) := by
    rw [neD_ok (by rw [D.ok]; exact ho) (by simp [D.ok, D.oks])]
    have eb : badC L i = !(cs.all fun c => decide (nmOf c ∈ L.map nmOf)) := by rw [badC, a4]
    rw [eb]
    cases hf : cs.filter fun c => !decide (nmOf c ∈ L.map nmOf) with
    | nil =>
      have : (cs.all fun c => decide (nmOf c ∈ L.map nmOf)) = true := by
        rw [List.all_eq_true]
        intro c hc
        have := List.filter_eq_nil_iff.mp hf c hc
        simpa using this
      rw [this]; rfl
    | cons c r =>
      have : (cs.all fun c => decide (nmOf c ∈ L.map nmOf)) = false := by
        rw [Bool.eq_false_iff]
        intro h
        have hc : c ∈ cs.filter fun c => !decide (nmOf c ∈ L.map nmOf) := by rw [hf]; exact List.mem_cons_self
        obtain ⟨h1, h2⟩ := List.mem_filter.mp hc
        rw [List.all_eq_true.mp h c h1] at h2
        cases h2
      rw [this]; rfl
  exact lw2_core _ .non _ _ _ _ q hn
def lwD : Option Nat → D
  | none => .int (-1)
  | some i => .int (i : Int)
def lv0 : S → Out := (sSetO 1 (oLst (mret [])))
def lv1 : S → Out := (sForW [2, 3, 4] (iRng rng1 (aCons (cal lenC (aCons (eVar 0) (mret []))) (mret []))) (.nm 2) b__law_wrong_1)
def lv2 : S → Out := (sForW [2] (iRng rng1 (aCons (cal lenC (aCons (eVar 0) (mret []))) (mret []))) (.nm 2) b__law_wrong_3)
def lv3 : S → Out := (sRet (un negD (mret (.int 1))))
theorem lv_eq : b__law_wrong = sSeq lv0 (sSeq lv1 (sSeq lv2 lv3)) := rfl
theorem iR_of (R : List D → Option (List D)) (T : D) (tk : List D) (n : Int) (E : List D) (h1 : lenC [T] = some (.int n)) (h2 : R [.int n] = some E) : iRng R (aCons (cal lenC (aCons (eVar 0) (mret []))) (mret [])) (Sl5 T tk .no .no .no) = .ok E (Sl5 T tk .no .no .no) := by simp [h1, h2]
theorem lv1_of {T : D} {tk E : List D} {n : Int} {o : Out} (h1 : lenC [T] = some (.int n)) (h2 : rng1 [.int n] = some E) (e : forD (.nm 2) (wipeO [2, 3, 4] b__law_wrong_1) E (Sl5 T tk .no .no .no) = o) : lv1 (Sl5 T tk .no .no .no) = o := for_of (ds := E) (s1 := Sl5 T tk .no .no .no) (iR_of rng1 T tk n E h1 h2) e
theorem lv2_of {T : D} {tk E : List D} {n : Int} {o : Out} (h1 : lenC [T] = some (.int n)) (h2 : rng1 [.int n] = some E) (e : forD (.nm 2) (wipeO [2] b__law_wrong_3) E (Sl5 T tk .no .no .no) = o) : lv2 (Sl5 T tk .no .no .no) = o := for_of (ds := E) (s1 := Sl5 T tk .no .no .no) (iR_of rng1 T tk n E h1 h2) e
theorem lw_run {L : List D} (F : FL L) {o : Option Nat} (h : Wr L o) (s : S) : runFn r__law_wrong [] [.val (.tup L)] s = .ok (.val (lwD o)) s := by
  have hr := rng1_big L.length (by have := F.len; omega)
  have rl : rngD 0 L.length = (List.range L.length).map fun i : Nat => D.int (0 + (i : Int)) := rfl
  have hn : lenC [.tup L] = some (.int (L.length : Int)) := by simp
  have s0 : lv0 (⟨[.val (.tup L), .no, .no, .no, .no], []⟩ : S) = .nx (Sl5 (.tup L) [] .no .no .no) := by
    generalize D.tup L = T at *
    simp [lv0]
  have w1 := loop_find (p := .nm 2) (f := wipeO [2, 3, 4] b__law_wrong_1) (fun i : Nat => .int (0 + (i : Int))) (fun i => Lk5 L i) (badF L) (fun i => .val (.int (i : Int))) L.length (fun i hi hp => by
    refine ⟨Sl5 (.tup L) (((L.take i).map nmOf).map .str) (.val (.int (0 + (i : Int)))) .no .no, rfl, ?_⟩
    rw [Int.zero_add]
    exact lw_step F i hi hp)
  have k0 : Lk5 L 0 = Sl5 (.tup L) [] .no .no .no := rfl
  have kn : Lk5 L L.length = Sl5 (.tup L) ((L.map nmOf).map .str) .no .no .no := by simp only [Lk5, List.take_length]
  rw [k0, kn] at w1
  have w2 : (∀ d ∈ L, funB d = true) → _ := fun hb => loop_find (p := .nm 2) (f := wipeO [2] b__law_wrong_3) (fun i : Nat => .int (0 + (i : Int))) (fun _ => Sl5 (.tup L) ((L.map nmOf).map .str) .no .no .no) (badC L) (fun i => .val (.int (i : Int))) L.length (fun i hi hp => by
    refine ⟨Sl5 (.tup L) ((L.map nmOf).map .str) (.val (.int (0 + (i : Int)))) .no .no, rfl, ?_⟩
    rw [Int.zero_add, lw2_step F hb i hi]
    refine ⟨fun h => by rw [h]; rfl, fun h => by rw [h]; exact ⟨_, rfl⟩⟩)
  cases h with
  | fst i hi hb hp =>
    obtain ⟨s2, e⟩ := w1.2 i hi hb hp
    refine run1 (io' := s2.io) (fn_of (s1 := s2) ?_) s
    rw [lv_eq]
    exact seq_nx s0 (seq_rt (lv1_of hn hr e))
  | snd i hi h0 hb hp =>
    obtain ⟨s2, e⟩ := (w2 (all_fun h0)).2 i hi hb hp
    refine run1 (io' := s2.io) (fn_of (s1 := s2) ?_) s
    rw [lv_eq]
    exact seq_nx s0 (seq_nx (lv1_of hn hr (w1.1 h0)) (seq_rt (lv2_of hn hr e)))
  | no h0 h1 =>
    refine run1 (io' := []) (fn_of (s1 := Sl5 (.tup L) ((L.map nmOf).map .str) .no .no .no) ?_) s
    rw [lv_eq]
    exact seq_nx s0 (seq_nx (lv1_of hn hr (w1.1 h0)) (seq_nx (lv2_of hn hr ((w2 (all_fun h0)).1 h1)) rfl))
/-- nothing wrong: the functions of a program -/
theorem wr_good {L : List D} (F : FL L) (hne : L ≠ []) (h : Wr L none) : ∃ t : List Fu, Good t ∧ L = t.map encF := by
  cases h with
  | no h0 h1 =>
    have hb := all_fun h0
    have key : ∀ L : List D, (∀ d ∈ L, Dat d ∧ funB d = true) → ∃ t : List Fu, L = t.map encF ∧ ∀ f ∈ t, FB f := by
      intro L
      induction L with
      | nil => intro _; exact ⟨[], rfl, fun f hf => nomatch hf⟩
      | cons d L ih =>
        intro h
        obtain ⟨t, rfl, ht⟩ := ih fun x hx => h x (.tail _ hx)
        obtain ⟨f, Fb, rfl⟩ := fun_shape (h d List.mem_cons_self).2
        exact ⟨f :: t, rfl, fun g hg => by
          rcases List.mem_cons.mp hg with rfl | hg
          · exact Fb
          · exact ht g hg⟩
    obtain ⟨t, rfl, ht⟩ := key L fun d hd => ⟨F.fu d hd, hb d hd⟩
    have hnm : (t.map encF).map nmOf = t.map (·.1) := by rw [List.map_map]; rfl
    have g : ∀ i (hi : i < t.length), (t.map encF).getD i .non = encF t[i] := fun i hi => by simp [hi]
    refine ⟨t, ⟨?_, ?_, ?_, fun f hf => ?_⟩, rfl⟩
    · cases t with
      | nil => exact absurd rfl hne
      | cons f t => simp
    · refine Nat.le_of_not_lt fun h => ?_
      have := h0 6 (by simpa using h)
      simp [badF] at this
    · rw [List.nodup_iff_pairwise_ne, List.pairwise_iff_getElem]
      intro i j hi hj hij e
      simp only [List.length_map] at hi hj
      have := h0 j (by simpa using hj)
      simp only [badF, Bool.or_eq_false_iff, decide_eq_false_iff_not, g j hj] at this
      refine this.2 ?_
      rw [← List.map_take, List.map_map]
      refine List.mem_map.mpr ⟨t[i], ?_, ?_⟩
      · rw [List.mem_iff_getElem]
        exact ⟨i, by simp; omega, by simp⟩
      · simp only [List.getElem_map] at e
        exact e
    · have Fb := ht f hf
      refine ⟨Fb.nm, Fb.lo, Fb.hi, Fb.len, fun c hc => ⟨?_, (Fb.ca c hc).2⟩⟩
      obtain ⟨i, hi, rfl⟩ := List.mem_iff_getElem.mp hf
      have := h1 i (by simpa using hi)
      simp only [badC, g i hi, Bool.not_eq_false'] at this
      have := List.all_eq_true.mp this (encC c) (List.mem_map.mpr ⟨c, hc, rfl⟩)
      have e : nmOf (encC c) = c.1 := rfl
      rw [hnm, e] at this
      exact of_decide_eq_true this
end Wk
set_option maxHeartbeats 4000000
namespace Wk
open PySem PyProof.Rows L2 DL
/-! small data, empty dicts and 10 ** 31 among them -/
mutual
def sY : Nat → D → Bool
  | _, .non => true
  | _, .bl _ => true
  | _, .int i => (decide (-999999999999 ≤ i) && decide (i ≤ 999999999999)) || decide (i = 10 ^ 31)
  | _, .str x => x.cps.toList.all fun c => decide (c < 1114112)
  | n + 1, .tup xs => sYs n xs
  | n + 1, .lst xs => sYs n xs
  | _, .dic [] => true
  | _, _ => false
def sYs : Nat → List D → Bool
  | _, [] => true
  | n, x :: xs => sY n x && sYs n xs
end
theorem sYs_all {n : Nat} : {ds : List D} → (sYs n ds = true ↔ ∀ d ∈ ds, sY n d = true)
  | [] => by simp [sYs]
  | d :: ds => by simp [sYs, sYs_all (ds := ds)]
theorem big_len : (PyData.shown (.int (10 ^ 31))).length ≤ 40 := by decide +kernel
theorem big_log : ((10 ^ 31 : Int)).natAbs.log2 < 1920 := by decide +kernel
mutual
theorem sY_ok : (d : D) → (n m : Nat) → n ≤ m → sY n d = true → d.okY m = true ∧ d.py.showable = true ∧ d.py.leavesShort 40 = true ∧ d.py.bulk = d.bk
  | .non, n, m, hm, h => by cases m <;> exact ⟨by simp [D.okY], rfl, rfl, rfl⟩
  | .bl b, n, m, hm, h => by
    cases m <;> exact ⟨by simp [D.okY], rfl, by simp [D.py, PyData.leavesShort], rfl⟩
  | .int i, n, m, hm, h => by
    have h' : (-999999999999 ≤ i ∧ i ≤ 999999999999) ∨ i = 10 ^ 31 := by cases n <;> simpa [sY] using h
    rcases h' with h' | rfl
    · have h2 : (PyData.shown (.int i)).length ≤ 13 := PyData.shown_int_le2 h'.1 h'.2
      have h3 : i.natAbs.log2 < 1920 := by
        have : i.natAbs < 2 ^ 1920 := Nat.lt_of_lt_of_le (by omega : i.natAbs < 2 ^ 64) (Nat.pow_le_pow_right (by decide) (by decide))
        by_cases hz : i.natAbs = 0
        · rw [hz]; decide
        · exact (Nat.log2_lt hz).mpr this
      have h4 : (PyData.shown (.int i)).length ≤ 40 := by omega
      cases m <;> exact ⟨by simp [D.okY], by simp [D.py, PyData.showable, h3], by simp [D.py, PyData.leavesShort, h4], rfl⟩
    · have h3 := big_log
      have h4 := big_len
      generalize (10 ^ 31 : Int) = i at *
      cases m <;> exact ⟨by simp [D.okY], by simp [D.py, PyData.showable, h3], by simp [D.py, PyData.leavesShort, h4], rfl⟩
  | .str x, n, m, hm, h => by
    have h' : (x.cps.toList.all fun c => decide (c < 1114112)) = true := by cases n <;> simpa only [sY] using h
    have h2 := strOk_of h'
    have h3 : ∀ c ∈ x.cps.toList, c < 16 ^ 8 := fun c hc => by
      have := List.all_eq_true.mp h' c hc
      simp at this
      omega
    cases m <;> exact ⟨by simp [D.okY, h2], rfl, by simp only [D.py, PyData.leavesShort, List.all_eq_true, decide_eq_true_eq]; exact h3, rfl⟩
  | .tup xs, n, m, hm, h => by
    cases n with
    | zero => simp [sY] at h
    | succ n =>
      cases m with
      | zero => omega
      | succ m =>
        obtain ⟨a, b, c, d⟩ := sYs_ok xs n m (by omega) (by simpa [sY] using h)
        exact ⟨by simpa [D.okY] using a, by simpa [D.py, PyData.showable] using b, by simpa [D.py, PyData.leavesShort] using c, by simpa [D.py, PyData.bulk, D.bk] using d⟩
  | .lst xs, n, m, hm, h => by
    cases n with
    | zero => simp [sY] at h
    | succ n =>
      cases m with
      | zero => omega
      | succ m =>
        obtain ⟨a, b, c, d⟩ := sYs_ok xs n m (by omega) (by simpa [sY] using h)
        exact ⟨by simpa [D.okY] using a, by simpa [D.py, PyData.showable] using b, by simpa [D.py, PyData.leavesShort] using c, by simpa [D.py, PyData.bulk, D.bk] using d⟩
  | .dic [], n, m, hm, h => by cases m <;> exact ⟨by simp [D.okY], rfl, rfl, rfl⟩
  | .dic (_ :: _), n, m, hm, h => by cases n <;> simp [sY] at h
  | .ty _, n, m, hm, h => by cases n <;> simp [sY] at h
  | .glo _, n, m, hm, h => by cases n <;> simp [sY] at h
  | .ins _ _, n, m, hm, h => by cases n <;> simp [sY] at h
  | .tdc _, n, m, hm, h => by cases n <;> simp [sY] at h
  | .exn _ _, n, m, hm, h => by cases n <;> simp [sY] at h
theorem sYs_ok : (ds : List D) → (n m : Nat) → n ≤ m → sYs n ds = true → D.oksY m ds = true ∧ PyData.showableAll (D.pys ds) = true ∧ PyData.leavesShortAll 40 (D.pys ds) = true ∧ PyData.bulkAll (D.pys ds) = D.bks ds
  | [], n, m, hm, h => by simp [D.oksY, D.pys, PyData.showableAll, PyData.leavesShortAll, PyData.bulkAll, D.bks]
  | x :: xs, n, m, hm, h => by
    have h' : sY n x = true ∧ sYs n xs = true := by simpa [sYs] using h
    obtain ⟨a, b, c, d⟩ := sY_ok x n m hm h'.1
    obtain ⟨a', b', c', d'⟩ := sYs_ok xs n m hm h'.2
    exact ⟨by simp [D.oksY, a, a'], by simp [D.pys, PyData.showableAll, b, b'], by simp [D.pys, PyData.leavesShortAll, c, c'], by simp [D.pys, PyData.bulkAll, D.bks, d, d']⟩
end
mutual
theorem shY_ok : (d : D) → (n : Nat) → d.okY n = true → PyData.strOk d.py.shown = true
  | .non, _, _ => by decide +kernel
  | .bl b, _, _ => by cases b <;> decide +kernel
  | .int i, _, _ => ofS_ok (toString i)
  | .str x, n, h => repr_ok (by cases n <;> simpa [D.okY] using h)
  | .tup xs, n, h => by
    cases n with
    | zero => simp [D.okY] at h
    | succ n =>
      have := shYs_ok xs n (by simpa [D.okY] using h)
      show PyData.strOk (tupleText (PyData.shownAll (D.pys xs))) = true
      unfold tupleText
      refine sapp_ok (sapp_ok (ofS_ok _) (sjoin_ok (ofS_ok _) _ this)) ?_
      split <;> exact ofS_ok _
  | .lst xs, n, h => by
    cases n with
    | zero => simp [D.okY] at h
    | succ n =>
      have := shYs_ok xs n (by simpa [D.okY] using h)
      show PyData.strOk (listText (PyData.shownAll (D.pys xs))) = true
      unfold listText
      exact sapp_ok (from_ok _ _ _ (ofS_ok _) this) (ofS_ok _)
  | .dic [], _, _ => by decide +kernel
  | .dic (_ :: _), n, h => by cases n <;> simp [D.okY] at h
  | .ty _, n, h => by cases n <;> simp [D.okY] at h
  | .glo _, n, h => by cases n <;> simp [D.okY] at h
  | .ins _ _, n, h => by cases n <;> simp [D.okY] at h
  | .tdc _, n, h => by cases n <;> simp [D.okY] at h
  | .exn _ _, n, h => by cases n <;> simp [D.okY] at h
theorem shYs_ok : (ds : List D) → (n : Nat) → D.oksY n ds = true → ∀ t ∈ PyData.shownAll (D.pys ds), PyData.strOk t = true
  | [], _, _ => by intro t ht; simp [D.pys, PyData.shownAll] at ht
  | d :: ds, n, h => by
    have h : d.okY n = true ∧ D.oksY n ds = true := by simpa [D.oksY] using h
    intro t ht
    simp only [D.pys, PyData.shownAll, List.mem_cons] at ht
    rcases ht with rfl | ht
    · exact shY_ok d n h.1
    · exact shYs_ok ds n h.2 t ht
end
theorem reprY_of {d : D} {n : Nat} (hn : n ≤ 10) (h : sY n d = true) (hb : d.bk ≤ 20000) : reprY [d] = some (.str d.py.shown) ∧ PyData.strOk d.py.shown = true := by
  obtain ⟨h1, h2, h3, h4⟩ := sY_ok d n 10 hn h
  have h5 := PyData.shown_le_bulk 40 (by decide) d.py h3
  have h6 : d.py.shown.length ≤ LN := by
    rw [h4] at h5
    simp only [LN]
    omega
  exact ⟨by simp only [reprY, h1, h2, h6, decide_true, Bool.and_true, if_true], shY_ok d 10 h1⟩
mutual
theorem sY_dat : (d : D) → (n : Nat) → sY n d = true → d.bk ≤ 5000 → datB d = true
  | .non, _, _, _ => rfl
  | .bl _, _, _, _ => rfl
  | .int _, _, _, _ => rfl
  | .str x, n, h, hb => by
    have h' : (x.cps.toList.all fun c => decide (c < 1114112)) = true := by cases n <;> simpa only [sY] using h
    have hb : x.length ≤ 5000 := hb
    simp [datB, strOk_of h', hb]
  | .tup xs, n, h, hb => by
    cases n with
    | zero => simp [sY] at h
    | succ n =>
      obtain ⟨h1, h2⟩ := sYs_dat xs n (by simpa [sY] using h) hb
      simp [datB, h1, h2]
  | .lst xs, n, h, hb => by
    cases n with
    | zero => simp [sY] at h
    | succ n =>
      obtain ⟨h1, h2⟩ := sYs_dat xs n (by simpa [sY] using h) hb
      simp [datB, h1, h2]
  | .dic [], _, _, _ => rfl
  | .dic (_ :: _), n, h, _ => by cases n <;> simp [sY] at h
  | .ty _, n, h, _ => by cases n <;> simp [sY] at h
  | .glo _, n, h, _ => by cases n <;> simp [sY] at h
  | .ins _ _, n, h, _ => by cases n <;> simp [sY] at h
  | .tdc _, n, h, _ => by cases n <;> simp [sY] at h
  | .exn _ _, n, h, _ => by cases n <;> simp [sY] at h
theorem sYs_dat : (ds : List D) → (n : Nat) → sYs n ds = true → D.bks ds ≤ 5000 → ds.length ≤ 5000 ∧ datsB ds = true
  | [], _, _, _ => ⟨by decide, rfl⟩
  | x :: xs, n, h, hb => by
    have h' : sY n x = true ∧ sYs n xs = true := by simpa [sYs] using h
    have hb' : x.bk + 1 + D.bks xs ≤ 5000 := hb
    have h1 := sY_dat x n h'.1 (by omega)
    obtain ⟨h2, h3⟩ := sYs_dat xs n h'.2 (by omega)
    have hl := bks_len xs
    exact ⟨by simp; omega, by simp [datsB, h1, h3]⟩
theorem bks_len : (ds : List D) → ds.length ≤ D.bks ds
  | [] => Nat.le_refl _
  | x :: xs => by
    have := bks_len xs
    show xs.length + 1 ≤ x.bk + 1 + D.bks xs
    omega
end
/-- small: of this depth, of this bulk -/
structure Sm (n k : Nat) (d : D) : Prop where
  sy : sY n d = true
  bk : d.bk ≤ k
theorem Sm.of {n k : Nat} {d : D} (h : (sY n d && decide (d.bk ≤ k)) = true) : Sm n k d := by
  rw [Bool.and_eq_true, decide_eq_true_eq] at h
  exact ⟨h.1, h.2⟩
theorem Sm.up {n k l : Nat} {d : D} (h : Sm n k d) (hk : k ≤ l) : Sm n l d := ⟨h.sy, Nat.le_trans h.bk hk⟩
theorem sm_tup {n k : Nat} {xs : List D} (h : ∀ x ∈ xs, Sm n k x) : Sm (n + 1) (xs.length * (k + 1)) (.tup xs) := ⟨by simpa [sY] using sYs_all.mpr fun x hx => (h x hx).sy, bks_le xs fun x hx => (h x hx).bk⟩
theorem sm_lst {n k : Nat} {xs : List D} (h : ∀ x ∈ xs, Sm n k x) : Sm (n + 1) (xs.length * (k + 1)) (.lst xs) := ⟨by simpa [sY] using sYs_all.mpr fun x hx => (h x hx).sy, bks_le xs fun x hx => (h x hx).bk⟩
theorem sm_nm {n k : Nat} {x : Str} (h : Wk.Nm x) (hk : 8 ≤ k) : Sm n k (.str x) := by
  refine ⟨?_, ?_⟩
  · have : (x.cps.all fun c => decide (c < 1114112)) = true := h.ok
    rw [← Array.all_toList] at this
    cases n <;> simpa only [sY] using this
  · have := h.2.1
    show x.length ≤ k
    omega
theorem sm_int {n k : Nat} {i : Int} (h0 : -1000 ≤ i) (h1 : i ≤ 1000) : Sm n k (.int i) := by
  refine ⟨?_, Nat.zero_le _⟩
  have a : -999999999999 ≤ i := by omega
  have b : i ≤ 999999999999 := by omega
  cases n <;> simp [sY, a, b]
theorem Sm.dat {n k : Nat} {d : D} (h : Sm n k d) (hk : k ≤ 5000) : Dat d := Dat.of (sY_dat d n h.sy (Nat.le_trans h.bk hk))
/-! the functions of a program -/
theorem sm_C' {c : Ca} (h : Wk.Nm c.1) (h0 : 1 ≤ c.2) (h1 : c.2 ≤ 9) : Sm 1 18 (encC c) := by
  refine (sm_tup (k := 8) fun x hx => ?_).up (by simp)
  simp only [List.mem_cons, List.not_mem_nil, or_false] at hx
  rcases hx with rfl | rfl
  · exact sm_nm h (Nat.le_refl _)
  · exact sm_int (by omega) (by omega)
theorem sm_F' {t : List Fu} (G : Good t) {f : Fu} (hf : f ∈ t) : Sm 3 400 (encF f) := by
  have F := G.fu f hf
  refine (sm_tup (k := 80) fun x hx => ?_).up (by simp)
  simp only [List.mem_cons, List.not_mem_nil, or_false] at hx
  rcases hx with rfl | rfl | rfl
  · exact sm_nm F.nm (by decide)
  · have h1 := F.lo
    have h2 := F.hi
    exact sm_int (by omega) (by omega)
  · have h1 := F.len
    refine (sm_tup (k := 18) fun x hx => ?_).up (by simp; omega)
    obtain ⟨c, hc, rfl⟩ := List.mem_map.mp hx
    have h2 := F.ca c hc
    exact sm_C' (G.ca hf hc) h2.2.1 h2.2.2
/-! told -/
theorem cls_functions (fs : List (Str × D)) (s : S) : runFn r__law_class [] [.val (.exn "InvalidFunctions" fs)] s = .ok (.val (.str "functions")) s := run1 (io' := []) (by kernel_rfl) s
theorem xf_index (d : D) : xfD csX "index" (.exn "InvalidFunctions" [("index", d)]) = some d := by
  have h1 : csX.contains "InvalidFunctions" = true := by decide +kernel
  have h2 : xFld.contains "index" = true := by decide +kernel
  unfold xfD
  simp only [h1, h2]
  rfl
theorem told_functions {d : D} {z : Str} {fE : M D} {s s' : S} (h : fE s = .exc "InvalidFunctions" [("index", d)] s') (hz : reprZ [d] = some (.str z)) : toldM csX 4 1 3 b__law_told_R b__law_told_S fE s = .ok (.own (.lst [.str "functions", .str z])) s' := by
  have ht : PyData.strOk "functions" = true := by decide +kernel
  have hm : ([.str "functions", .str "rules", .str "seen", .str "changes"] : List D).any (sameK (.str "functions")) = true := by decide +kernel
  have l4 : 4 ≤ LN := by decide
  have l2 : 2 ≤ LN := by decide
  have hf := xf_index d
  have e : b__law_told_S (slotsT 4 3 (.exn "InvalidFunctions" [("index", d)])) = .rt (.own (.lst [.str "functions", .str z])) ⟨[.no, .no, .val (.str "functions"), .val (.exn "InvalidFunctions" [("index", d)])], []⟩ := by
    refine seq_nx (s1 := ⟨[.no, .no, .val (.str "functions"), .val (.exn "InvalidFunctions" [("index", d)])], []⟩) (by simp [slotsT, List.replicate, cls_functions]) ?_
    refine seq_rt ?_
    simp [l2, l4, in_lstS ht, hm, hf, hz]
  exact told_exc h (by decide +kernel) e rfl
end Wk
set_option maxHeartbeats 4000000
namespace Wk
open PySem PyProof.Rows L2 DL
/-! the odd value -/
def oddM : List D := [.non, .bl true, .bl false, .str "", .str "a", .str "A", .int 0, .int (-1), .int 7, .int (10 ^ 31), .tup [], .lst [], .dic [], .tup [.int 0], .tup [.str "a"], .tup [.str "a", .int 1], .lst [.str "a", .int 1, .tup []], .lst [.int 0]]
theorem odd_sm : ∀ d ∈ oddM, Sm 3 400 d := fun d hd => Sm.of (List.all_eq_true.mp (by decide +kernel : (oddM.all fun d => sY 3 d && decide (d.bk ≤ 400)) = true) d hd)
theorem p1031 : powD (.int 10) (.int 31) = some (.int (10 ^ 31)) := by
  show (if (0 : Int) ≤ 31 ∧ (31 : Int) ≤ 1000 ∧ (10 : Int).natAbs < 2 ^ 64 then some (D.int ((10 : Int) ^ (31 : Int).toNat)) else none) = _
  rw [if_pos (by decide +kernel)]
  rfl
theorem odd_draw {n : Nat} (c : Cell) (hv : Vat n c) (hn : n + 5 ≤ 900000) : ∃ d c', d ∈ oddM ∧ Vat (n + 1) c' ∧ r__law_odd [.io 0] [c] = .rt (.val d) [c'] := by
  obtain ⟨v, c1, j1, j2, v1, e1⟩ := run_ladle' c 18 hv (by omega) (by omega) (by omega)
  obtain ⟨d, hd, e, _⟩ := at_map (e := fun d : D => d) (xs := oddM) j1 (by simpa [oddM] using j2)
  rw [List.map_id'] at e
  refine ⟨d, c1, hd, v1, fn_of (s1 := ⟨[.io 0, .val (.lst oddM)], [c1]⟩) ?_⟩
  have l3 : 3 ≤ LN := by decide
  have l2 : 2 ≤ LN := by decide
  have l1 : 1 ≤ LN := by decide
  have l0 : 0 ≤ LN := by decide
  have l18 : 18 ≤ LN := by decide
  have ng : negD (.int 1) = some (.int (-1)) := rfl
  refine seq_nx (s1 := ⟨[.io 0, .val (.lst oddM)], [c]⟩) ?_ ?_
  · have e0 : ∀ x : D, powD (.int 10) (.int 31) = some x → sSet 1 (eLst (aCons (mret .non) (aCons (mret (.bl true)) (aCons (mret (.bl false)) (aCons (mret (.str "")) (aCons (mret (.str "a")) (aCons (mret (.str "A")) (aCons (mret (.int 0)) (aCons (un negD (mret (.int 1))) (aCons (mret (.int 7)) (aCons (DL.bin powD (mret (.int 10)) (mret (.int 31))) (aCons (eTup (mret [])) (aCons (eLst (mret [])) (aCons (mret (.dic [])) (aCons (eTup (aCons (mret (.int 0)) (mret []))) (aCons (eTup (aCons (mret (.str "a")) (mret []))) (aCons (eTup (aCons (mret (.str "a")) (aCons (mret (.int 1)) (mret [])))) (aCons (eLst (aCons (mret (.str "a")) (aCons (mret (.int 1)) (aCons (eTup (mret [])) (mret []))))) (aCons (eLst (aCons (mret (.int 0)) (mret []))) (mret [])))))))))))))))))))) ⟨[.io 0, .no], [c]⟩ = .nx ⟨[.io 0, .val (.lst [.non, .bl true, .bl false, .str "", .str "a", .str "A", .int 0, .int (-1), .int 7, x, .tup [], .lst [], .dic [], .tup [.int 0], .tup [.str "a"], .tup [.str "a", .int 1], .lst [.str "a", .int 1, .tup []], .lst [.int 0]])], [c]⟩ := fun x hx => by
      generalize powD = pw at *
      simp [hx, ng, l0, l1, l2, l3, l18]
    exact e0 _ p1031
  · generalize oddM = L at *
    simp [e1, e]
/-! a function bent -/
theorem at_list {L : List D} {v : Int} (h0 : 0 ≤ v) (h1 : v < L.length) : ∃ d ∈ L, atD (.lst L) (.int v) = some d := by
  obtain ⟨d, hd, e, _⟩ := at_map (e := fun d : D => d) (xs := L) h0 h1
  rw [List.map_id'] at e
  exact ⟨d, hd, e⟩
theorem all_sm {n k : Nat} {L : List D} (h : (L.all fun d => sY n d && decide (d.bk ≤ k)) = true) : ∀ d ∈ L, Sm n k d := fun d hd => Sm.of (List.all_eq_true.mp h d hd)
abbrev oneC (w0 : Str) : D := .tup [.tup [.str w0, .int 2]]
abbrev oneD (x w0 : Str) : D := .tup [.str x, .int 3, oneC w0]
abbrev Sb (one W way x4 x5 x6 : Sl) (c : Cell) : S := ⟨[.io 0, one, W, way, x4, x5, x6], [c]⟩
theorem sm_one {w0 : Str} (h : Wk.Nm w0) : Sm 2 19 (oneC w0) := by
  have h := sm_C' (c := (w0, 2)) h (by simp) (by simp)
  exact (sm_tup (xs := [encC (w0, 2)]) fun x hx => by
    simp only [List.mem_cons, List.not_mem_nil, or_false] at hx
    subst hx; exact h).up (by simp)
theorem sm_3 {a b d : D} (ha : Sm 2 130 a) (hb : Sm 2 130 b) (hd : Sm 2 130 d) : Sm 3 400 (.tup [a, b, d]) := (sm_tup (xs := [a, b, d]) fun x hx => by
    simp only [List.mem_cons, List.not_mem_nil, or_false] at hx
    rcases hx with rfl | rfl | rfl <;> assumption).up (by simp)
theorem skip_eq (k : Int) (r : S → Out) (j : Int) (one W x4 x5 x6 : Sl) (c : Cell) (h : k ≠ j) : sIf (asB (DL.bin eqD (eVar 3) (mret (.int j)))) r sNx (Sb one W (.val (.int k)) x4 x5 x6 c) = .nx (Sb one W (.val (.int k)) x4 x5 x6 c) := by simp [h]
theorem take_eq (k : Int) (r : S → Out) (one W x4 x5 x6 : Sl) (c : Cell) : sIf (asB (DL.bin eqD (eVar 3) (mret (.int k)))) r sNx (Sb one W (.val (.int k)) x4 x5 x6 c) = r (Sb one W (.val (.int k)) x4 x5 x6 c) := by simp
def res (o : Out) (n : Nat) : Prop := ∃ d c' s, Sm 3 400 d ∧ Vat n c' ∧ o = .rt (.val d) s ∧ s.io = [c']
def bn0 : S → Out := (sSet 3 (rD (mCall 2 r__law_ladle [] (gSl 0 (gVal (mret (.int 9)) (mret []))))))
def bn1 : S → Out := (sIf (asB (DL.bin eqD (eVar 3) (mret (.int 0)))) (sRetR (mCall 1 r__law_odd [] (gSl 0 (mret [])))) sNx)
def bn2 : S → Out := (sIf (asB (DL.bin eqD (eVar 3) (mret (.int 1)))) (sRet (eTup (aCons (DL.bin atD (eVar 1) (mret (.int 0))) (aCons (DL.bin atD (eLst (aCons (mret (.int 0)) (aCons (mret (.int 51)) (aCons (mret (.bl true)) (aCons (mret .non) (aCons (mret (.str "1")) (aCons (un negD (mret (.int 1))) (aCons (mret (.int 50)) (aCons (mret (.int 1)) (mret [])))))))))) (rD (mCall 2 r__law_ladle [] (gSl 0 (gVal (mret (.int 8)) (mret [])))))) (aCons (DL.bin atD (eVar 1) (mret (.int 2))) (mret [])))))) sNx)
def bn3 : S → Out := (sIf (asB (DL.bin eqD (eVar 3) (mret (.int 2)))) (sRet (eTup (aCons (DL.bin atD (eLst (aCons (mret .non) (aCons (mret (.str "")) (aCons (mret (.str "A")) (aCons (mret (.str "a1")) (aCons (mret (.str "abcdefghi")) (aCons (mret (.str "a b")) (aCons (eTup (aCons (mret (.str "a")) (mret []))) (aCons (mret (.str "a_")) (mret [])))))))))) (rD (mCall 2 r__law_ladle [] (gSl 0 (gVal (mret (.int 8)) (mret [])))))) (aCons (DL.bin atD (eVar 1) (mret (.int 1))) (aCons (DL.bin atD (eVar 1) (mret (.int 2))) (mret [])))))) sNx)
def bn4 : S → Out := (sIf (asB (DL.bin eqD (eVar 3) (mret (.int 3)))) (sRet (eTup (aCons (DL.bin atD (eVar 2) (rD (mCall 2 r__law_ladle [] (gSl 0 (gVal (cal lenC (aCons (eVar 2) (mret []))) (mret [])))))) (aCons (DL.bin atD (eVar 1) (mret (.int 1))) (aCons (DL.bin atD (eVar 1) (mret (.int 2))) (mret [])))))) sNx)
def bn5 : S → Out := (sIf (asB (DL.bin eqD (eVar 3) (mret (.int 4)))) (sRet (DL.bin atD (eLst (aCons (calL lstC (aCons (eVar 1) (mret []))) (aCons (DL.bin addD (eVar 1) (eTup (aCons (mret (.int 1)) (mret [])))) (aCons (slice (eVar 1) (mret none) (pSome (mret (.int 2)))) (aCons (un revD (eVar 1)) (mret [])))))) (rD (mCall 2 r__law_ladle [] (gSl 0 (gVal (mret (.int 4)) (mret []))))))) sNx)
def bn6 : S → Out := (sIf (asB (DL.bin eqD (eVar 3) (mret (.int 5)))) (sRet (DL.bin addD (slice (eVar 1) (mret none) (pSome (mret (.int 2)))) (eTup (aCons (DL.bin atD (eLst (aCons (calL lstC (aCons (DL.bin atD (eVar 1) (mret (.int 2))) (mret []))) (aCons (mret .non) (aCons (DL.bin addD (DL.bin mulD (DL.bin atD (eVar 1) (mret (.int 2))) (mret (.int 5))) (DL.bin mulT (eTup (aCons (eTup (aCons (mret (.str "a")) (aCons (mret (.int 1)) (mret [])))) (mret []))) (mret (.int 5)))) (aCons (mret (.str "")) (aCons (mret (.int 3)) (mret []))))))) (rD (mCall 2 r__law_ladle [] (gSl 0 (gVal (mret (.int 5)) (mret [])))))) (mret []))))) sNx)
def bn7 : S → Out := (sIf (asB (DL.bin (cmpI fun i j => decide (i < j)) (eVar 3) (mret (.int 8)))) (sSeq (sSet 4 (DL.bin atD (eLst (aCons (DL.bin atD (eVar 2) (rD (mCall 2 r__law_ladle [] (gSl 0 (gVal (cal lenC (aCons (eVar 2) (mret []))) (mret [])))))) (aCons (mret (.str "zz")) (aCons (mret (.str "none")) (aCons (mret (.str "z")) (aCons (DL.bin atD (eVar 2) (mret (.int 0))) (mret []))))))) (rD (mCall 2 r__law_ladle [] (gSl 0 (gVal (mret (.int 5)) (mret []))))))) (sSeq (sSet 5 (eTup (aCons (eVar 4) (aCons (DL.bin atD (eLst (aCons (mret (.int 1)) (aCons (mret (.int 9)) (aCons (mret (.int 0)) (aCons (mret (.int 10)) (aCons (mret (.bl true)) (aCons (mret .non) (aCons (mret (.str "2")) (aCons (mret (.int 2)) (mret [])))))))))) (rD (mCall 2 r__law_ladle [] (gSl 0 (gVal (mret (.int 8)) (mret [])))))) (mret []))))) (sSeq (sSet 6 (DL.bin atD (eLst (aCons (eVar 5) (aCons (eVar 5) (aCons (eVar 5) (aCons (calL lstC (aCons (eVar 5) (mret []))) (aCons (slice (eVar 5) (mret none) (pSome (mret (.int 1)))) (aCons (DL.bin addD (eVar 5) (eTup (aCons (mret (.int 1)) (mret [])))) (mret [])))))))) (rD (mCall 2 r__law_ladle [] (gSl 0 (gVal (mret (.int 6)) (mret []))))))) (sRet (DL.bin addD (slice (eVar 1) (mret none) (pSome (mret (.int 2)))) (eTup (aCons (slice (DL.bin addD (DL.bin atD (eVar 1) (mret (.int 2))) (eTup (aCons (eVar 6) (mret [])))) (pSome (un negD (mret (.int 4)))) (mret none)) (mret [])))))))) sNx)
def bn8 : S → Out := (sRet (eVar 1))
theorem bn_eq : b__law_bent = sSeq bn0 (sSeq bn1 (sSeq bn2 (sSeq bn3 (sSeq bn4 (sSeq bn5 (sSeq bn6 (sSeq bn7 bn8))))))) := rfl
def bm0 : S → Out := (sSet 4 (DL.bin atD (eLst (aCons (DL.bin atD (eVar 2) (rD (mCall 2 r__law_ladle [] (gSl 0 (gVal (cal lenC (aCons (eVar 2) (mret []))) (mret [])))))) (aCons (mret (.str "zz")) (aCons (mret (.str "none")) (aCons (mret (.str "z")) (aCons (DL.bin atD (eVar 2) (mret (.int 0))) (mret []))))))) (rD (mCall 2 r__law_ladle [] (gSl 0 (gVal (mret (.int 5)) (mret [])))))))
def bm1 : S → Out := (sSet 5 (eTup (aCons (eVar 4) (aCons (DL.bin atD (eLst (aCons (mret (.int 1)) (aCons (mret (.int 9)) (aCons (mret (.int 0)) (aCons (mret (.int 10)) (aCons (mret (.bl true)) (aCons (mret .non) (aCons (mret (.str "2")) (aCons (mret (.int 2)) (mret [])))))))))) (rD (mCall 2 r__law_ladle [] (gSl 0 (gVal (mret (.int 8)) (mret [])))))) (mret [])))))
def bm2 : S → Out := (sSet 6 (DL.bin atD (eLst (aCons (eVar 5) (aCons (eVar 5) (aCons (eVar 5) (aCons (calL lstC (aCons (eVar 5) (mret []))) (aCons (slice (eVar 5) (mret none) (pSome (mret (.int 1)))) (aCons (DL.bin addD (eVar 5) (eTup (aCons (mret (.int 1)) (mret [])))) (mret [])))))))) (rD (mCall 2 r__law_ladle [] (gSl 0 (gVal (mret (.int 6)) (mret [])))))))
def bm3 : S → Out := (sRet (DL.bin addD (slice (eVar 1) (mret none) (pSome (mret (.int 2)))) (eTup (aCons (slice (DL.bin addD (DL.bin atD (eVar 1) (mret (.int 2))) (eTup (aCons (eVar 6) (mret [])))) (pSome (un negD (mret (.int 4)))) (mret none)) (mret [])))))
theorem bn7_eq : bn7 = sIf (asB (DL.bin (cmpI fun i j => decide (i < j)) (eVar 3) (mret (.int 8)))) (sSeq bm0 (sSeq bm1 (sSeq bm2 bm3))) sNx := rfl
section
variable {x w0 : Str} {ws : List Str} {n : Nat} {c : Cell}
theorem ln8 (k : Nat) (h : k ≤ 100) : k ≤ LN := by simp only [LN]; omega
theorem way0 (hv : Vat n c) (hn : n + 10 ≤ 900000) (one W x4 x5 x6 : Sl) : res (bn1 (Sb one W (.val (.int 0)) x4 x5 x6 c)) (n + 1) := by
  obtain ⟨d, c', h1, h2, h3⟩ := odd_draw c hv (by omega)
  refine ⟨d, c', Sb one W (.val (.int 0)) x4 x5 x6 c', odd_sm d h1, h2, ?_, rfl⟩
  rw [bn1, take_eq]
  simp [run_vat1 h3]
theorem way1 (hx : Wk.Nm x) (hw : Wk.Nm w0) (hv : Vat n c) (hn : n + 10 ≤ 900000) (W x4 x5 x6 : Sl) : res (bn2 (Sb (.val (oneD x w0)) W (.val (.int 1)) x4 x5 x6 c)) (n + 1) := by
  obtain ⟨v, c', j1, j2, h2, h3⟩ := run_ladle' c 8 hv (by omega) (by omega) (by omega)
  obtain ⟨d, hd, ed⟩ := at_list (L := [.int 0, .int 51, .bl true, .non, .str "1", .int (-1), .int 50, .int 1]) j1 (by simpa using j2)
  have sd := all_sm (n := 2) (k := 130) (by decide +kernel) d hd
  refine ⟨.tup [.str x, d, oneC w0], c', Sb (.val (oneD x w0)) W (.val (.int 1)) x4 x5 x6 c', sm_3 (sm_nm hx (by decide)) sd ((sm_one hw).up (by decide)), h2, ?_, rfl⟩
  rw [bn2, take_eq]
  have a0 : atD (oneD x w0) (.int 0) = some (.str x) := rfl
  have a2 : atD (oneD x w0) (.int 2) = some (oneC w0) := rfl
  have ng : negD (.int 1) = some (.int (-1)) := rfl
  have l3 : 3 ≤ LN := ln8 _ (by decide)
  have l8 : 8 ≤ LN := ln8 _ (by decide)
  generalize oneD x w0 = O at *
  generalize oneC w0 = C at *
  simp [a0, a2, h3, ed, ng, l3, l8]
theorem way2 (hx : Wk.Nm x) (hw : Wk.Nm w0) (hv : Vat n c) (hn : n + 10 ≤ 900000) (W x4 x5 x6 : Sl) : res (bn3 (Sb (.val (oneD x w0)) W (.val (.int 2)) x4 x5 x6 c)) (n + 1) := by
  obtain ⟨v, c', j1, j2, h2, h3⟩ := run_ladle' c 8 hv (by omega) (by omega) (by omega)
  obtain ⟨d, hd, ed⟩ := at_list (L := [.non, .str "", .str "A", .str "a1", .str "abcdefghi", .str "a b", .tup [.str "a"], .str "a_"]) j1 (by simpa using j2)
  have sd := all_sm (n := 2) (k := 130) (by decide +kernel) d hd
  refine ⟨.tup [d, .int 3, oneC w0], c', Sb (.val (oneD x w0)) W (.val (.int 2)) x4 x5 x6 c', sm_3 sd (sm_int (by decide) (by decide)) ((sm_one hw).up (by decide)), h2, ?_, rfl⟩
  rw [bn3, take_eq]
  have a0 : atD (oneD x w0) (.int 1) = some (.int 3) := rfl
  have a2 : atD (oneD x w0) (.int 2) = some (oneC w0) := rfl
  have l1 : 1 ≤ LN := ln8 _ (by decide)
  have l3 : 3 ≤ LN := ln8 _ (by decide)
  have l8 : 8 ≤ LN := ln8 _ (by decide)
  generalize oneD x w0 = O at *
  generalize oneC w0 = C at *
  simp [a0, a2, h3, ed, l1, l3, l8]
theorem way3 (hx : Wk.Nm x) (hw : Wk.Nm w0) (hws : ∀ y ∈ ws, Wk.Nm y) (hl : 0 < ws.length) (hl2 : ws.length ≤ 100) (hv : Vat n c) (hn : n + 10 ≤ 900000) (x4 x5 x6 : Sl) : res (bn4 (Sb (.val (oneD x w0)) (.val (.lst (ws.map .str))) (.val (.int 3)) x4 x5 x6 c)) (n + 1) := by
  obtain ⟨v, c', j1, j2, h2, h3⟩ := run_ladle' c (ws.length : Int) hv (by omega) (by omega) (by omega)
  obtain ⟨y, hy, ey, _⟩ := at_map (e := D.str) (xs := ws) j1 (by simpa using j2)
  refine ⟨.tup [.str y, .int 3, oneC w0], c', Sb (.val (oneD x w0)) (.val (.lst (ws.map .str))) (.val (.int 3)) x4 x5 x6 c', sm_3 (sm_nm (hws y hy) (by decide)) (sm_int (by decide) (by decide)) ((sm_one hw).up (by decide)), h2, ?_, rfl⟩
  rw [bn4, take_eq]
  have a0 : atD (oneD x w0) (.int 1) = some (.int 3) := rfl
  have a2 : atD (oneD x w0) (.int 2) = some (oneC w0) := rfl
  have hle : lenC [.lst (ws.map D.str)] = some (.int (ws.length : Int)) := by simp
  have l3 : 3 ≤ LN := ln8 _ (by decide)
  generalize oneD x w0 = O at *
  generalize oneC w0 = C at *
  generalize D.lst (ws.map .str) = W at *
  generalize (ws.length : Int) = k at *
  simp [a0, a2, h3, ey, hle, l3]
theorem way4 (hx : Wk.Nm x) (hw : Wk.Nm w0) (hv : Vat n c) (hn : n + 10 ≤ 900000) (W x4 x5 x6 : Sl) : res (bn5 (Sb (.val (oneD x w0)) W (.val (.int 4)) x4 x5 x6 c)) (n + 1) := by
  obtain ⟨v, c', j1, j2, h2, h3⟩ := run_ladle' c 4 hv (by omega) (by omega) (by omega)
  have a0 : Sm 2 90 (.str x) := sm_nm hx (by decide)
  have a1 : Sm 2 90 (.int 3) := sm_int (by decide) (by decide)
  have a1' : Sm 2 90 (.int 1) := sm_int (by decide) (by decide)
  have a2 : Sm 2 90 (oneC w0) := (sm_one hw).up (by decide)
  obtain ⟨d, hd, ed⟩ := at_list (L := [.lst [.str x, .int 3, oneC w0], .tup [.str x, .int 3, oneC w0, .int 1], .tup [.str x, .int 3], .tup [oneC w0, .int 3, .str x]]) j1 (by simpa using j2)
  have sd : Sm 3 400 d := by
    simp only [List.mem_cons, List.not_mem_nil, or_false] at hd
    rcases hd with rfl | rfl | rfl | rfl
    · exact (sm_lst (k := 90) fun y hy => by
        simp only [List.mem_cons, List.not_mem_nil, or_false] at hy
        rcases hy with rfl | rfl | rfl <;> assumption).up (by simp)
    · exact (sm_tup (k := 90) fun y hy => by
        simp only [List.mem_cons, List.not_mem_nil, or_false] at hy
        rcases hy with rfl | rfl | rfl | rfl <;> assumption).up (by simp)
    · exact (sm_tup (k := 90) fun y hy => by
        simp only [List.mem_cons, List.not_mem_nil, or_false] at hy
        rcases hy with rfl | rfl <;> assumption).up (by simp)
    · exact (sm_tup (k := 90) fun y hy => by
        simp only [List.mem_cons, List.not_mem_nil, or_false] at hy
        rcases hy with rfl | rfl | rfl <;> assumption).up (by simp)
  refine ⟨d, c', Sb (.val (oneD x w0)) W (.val (.int 4)) x4 x5 x6 c', sd, h2, ?_, rfl⟩
  rw [bn5, take_eq]
  have l1 : 1 ≤ LN := ln8 _ (by decide)
  have l4 : 4 ≤ LN := ln8 _ (by decide)
  have l3 : 3 ≤ LN := ln8 _ (by decide)
  have e1 : lstC [oneD x w0] = some [.str x, .int 3, oneC w0] := rfl
  have e2 : addD (oneD x w0) (.tup [.int 1]) = some (.tup [.str x, .int 3, oneC w0, .int 1]) := rfl
  have e3 : slD (oneD x w0) none (some 2) = some (.tup [.str x, .int 3]) := rfl
  have e4 : revD (oneD x w0) = some (.tup [oneC w0, .int 3, .str x]) := rfl
  generalize oneD x w0 = O at *
  generalize oneC w0 = C at *
  simp [h3, ed, e1, e2, e3, e4, l1, l3, l4, slice, pSome, dI]
end
end Wk
set_option maxHeartbeats 4000000
namespace Wk
open PySem PyProof.Rows L2 DL
section
variable {x w0 : Str} {ws : List Str} {n : Nat} {c : Cell}
theorem way5 (hx : Wk.Nm x) (hw : Wk.Nm w0) (hv : Vat n c) (hn : n + 10 ≤ 900000) (W x4 x5 x6 : Sl) : res (bn6 (Sb (.val (oneD x w0)) W (.val (.int 5)) x4 x5 x6 c)) (n + 1) := by
  obtain ⟨v, c', j1, j2, h2, h3⟩ := run_ladle' c 5 hv (by omega) (by omega) (by omega)
  let k1 : D := .tup [.str w0, .int 2]
  let k2 : D := .tup [.str "a", .int 1]
  have b1 : Sm 1 18 k1 := sm_C' (c := (w0, 2)) hw (by simp) (by simp)
  have b2 : Sm 1 18 k2 := Sm.of (by decide +kernel)
  obtain ⟨d, hd, ed⟩ := at_list (L := [.lst [k1], .non, .tup [k1, k1, k1, k1, k1, k2, k2, k2, k2, k2], .str "", .int 3]) j1 (by simpa using j2)
  have sd : Sm 2 190 d := by
    simp only [List.mem_cons, List.not_mem_nil, or_false] at hd
    rcases hd with rfl | rfl | rfl | rfl | rfl
    · exact (sm_lst (k := 18) fun y hy => by
        simp only [List.mem_cons, List.not_mem_nil, or_false] at hy
        subst hy; assumption).up (by simp)
    · exact Sm.of (by decide +kernel)
    · exact (sm_tup (k := 18) fun y hy => by
        simp only [List.mem_cons, List.not_mem_nil, or_false] at hy
        rcases hy with rfl | rfl | rfl | rfl | rfl | rfl | rfl | rfl | rfl | rfl <;> assumption).up (by simp)
    · exact Sm.of (by decide +kernel)
    · exact Sm.of (by decide +kernel)
  have sm : Sm 3 400 (.tup [.str x, .int 3, d]) := by
    have h8 := hx.2.1
    have a0 : Sm 2 8 (.str x) := sm_nm hx (by decide)
    refine ⟨?_, ?_⟩
    · have a1 : Sm 2 0 (.int 3) := sm_int (by decide) (by decide)
      show (sY 2 (.str x) && (sY 2 (.int 3) && (sY 2 d && true))) = true
      rw [a0.sy, a1.sy, sd.sy]
      rfl
    · have h1 := a0.bk
      have h2 := sd.bk
      show (D.str x).bk + 1 + (0 + 1 + (d.bk + 1 + 0)) ≤ 400
      omega
  refine ⟨.tup [.str x, .int 3, d], c', Sb (.val (oneD x w0)) W (.val (.int 5)) x4 x5 x6 c', sm, h2, ?_, rfl⟩
  rw [bn6, take_eq]
  have l1 : 1 ≤ LN := ln8 _ (by decide)
  have l2 : 2 ≤ LN := ln8 _ (by decide)
  have l5 : 5 ≤ LN := ln8 _ (by decide)
  have a2 : atD (oneD x w0) (.int 2) = some (.tup [k1]) := rfl
  have e1 : lstC [.tup [k1]] = some [k1] := rfl
  have e3 : slD (oneD x w0) none (some 2) = some (.tup [.str x, .int 3]) := rfl
  have e4 : mulD (.tup [k1]) (.int 5) = some (.tup [k1, k1, k1, k1, k1]) := rfl
  have e5 : mulT (.tup [.tup [.str "a", .int 1]]) (.int 5) = some (.tup [k2, k2, k2, k2, k2]) := rfl
  have e6 : addD (.tup [k1, k1, k1, k1, k1]) (.tup [k2, k2, k2, k2, k2]) = some (.tup [k1, k1, k1, k1, k1, k2, k2, k2, k2, k2]) := rfl
  have e7 : addD (.tup [.str x, .int 3]) (.tup [d]) = some (.tup [.str x, .int 3, d]) := rfl
  clear sd sm hd
  generalize oneD x w0 = O at *
  generalize hk2 : k2 = K2 at *
  generalize hk1 : k1 = K1 at *
  clear hk1 hk2 b1 b2
  generalize D.tup [K2, K2, K2, K2, K2] = T2 at *
  generalize D.tup [K1, K1, K1, K1, K1] = T1 at *
  generalize D.tup [K1, K1, K1, K1, K1, K2, K2, K2, K2, K2] = T3 at *
  generalize D.tup [K1] = TK at *
  simp [h3, ed, a2, e1, e3, e4, e5, e6, e7, l1, l2, l5, slice, pSome, dI]
/-- a call, as it is drawn -/
theorem way67 (k : Int) (h67 : k = 6 ∨ k = 7) (hx : Wk.Nm x) (hw : Wk.Nm w0) (hws : ∀ y ∈ ws, Wk.Nm y) (h0 : ws[0]? = some w0) (hl2 : ws.length ≤ 100) (hv : Vat n c) (hn : n + 10 ≤ 900000) : res (bn7 (Sb (.val (oneD x w0)) (.val (.lst (ws.map .str))) (.val (.int k)) .no .no .no c)) (n + 4) := by
  have hl : 0 < ws.length := by
    cases ws with
    | nil => cases h0
    | cons y ys => simp
  have hk8 : k < 8 := by omega
  obtain ⟨v, c1, j1, j2, h2, h3⟩ := run_ladle' c (ws.length : Int) hv (by omega) (by omega) (by omega)
  obtain ⟨y, hy, ey, _⟩ := at_map (e := D.str) (xs := ws) j1 (by simpa using j2)
  obtain ⟨v2, c2, i1, i2, h5, h6⟩ := run_ladle' c1 5 h2 (by omega) (by omega) (by omega)
  have hw0 : atD (.lst (ws.map D.str)) (.int 0) = some (.str w0) := by
    have := (at_nat (xs := ws.map D.str) (i := 0) (by simpa using hl)).1
    rw [show ((0 : Nat) : Int) = 0 from rfl] at this
    rw [this, List.getElem_map]
    rw [List.getElem?_eq_getElem hl] at h0
    rw [Option.some.inj h0]
  obtain ⟨a, ha, ea⟩ := at_list (L := [.str y, .str "zz", .str "none", .str "z", .str w0]) i1 (by simpa using i2)
  have sa : Sm 0 8 a := by
    simp only [List.mem_cons, List.not_mem_nil, or_false] at ha
    rcases ha with rfl | rfl | rfl | rfl | rfl
    · exact sm_nm (hws _ hy) (by decide)
    · exact Sm.of (by decide +kernel)
    · exact Sm.of (by decide +kernel)
    · exact Sm.of (by decide +kernel)
    · exact sm_nm hw (by decide)
  obtain ⟨v3, c3, g1, g2, h7, h8⟩ := run_ladle' c2 8 h5 (by omega) (by omega) (by omega)
  obtain ⟨b, hb, eb⟩ := at_list (L := [.int 1, .int 9, .int 0, .int 10, .bl true, .non, .str "2", .int 2]) g1 (by simpa using g2)
  have sb : Sm 0 8 b := all_sm (by decide +kernel) b hb
  obtain ⟨v4, c4, f1, f2, h9, h10⟩ := run_ladle' c3 6 h7 (by omega) (by omega) (by omega)
  obtain ⟨d, hd, ed⟩ := at_list (L := [.tup [a, b], .tup [a, b], .tup [a, b], .lst [a, b], .tup [a], .tup [a, b, .int 1]]) f1 (by simpa using f2)
  have si : Sm 0 8 (.int 1) := sm_int (by decide) (by decide)
  have sd : Sm 1 40 d := by
    have q2 : ∀ z ∈ [a, b], Sm 0 8 z := fun z hz => by
      simp only [List.mem_cons, List.not_mem_nil, or_false] at hz
      rcases hz with rfl | rfl <;> assumption
    simp only [List.mem_cons, List.not_mem_nil, or_false] at hd
    rcases hd with rfl | rfl | rfl | rfl | rfl | rfl
    · exact (sm_tup q2).up (by simp)
    · exact (sm_tup q2).up (by simp)
    · exact (sm_tup q2).up (by simp)
    · exact (sm_lst q2).up (by simp)
    · exact (sm_tup (k := 8) fun z hz => by
        simp only [List.mem_cons, List.not_mem_nil, or_false] at hz
        subst hz; exact sa).up (by simp)
    · exact (sm_tup (k := 8) fun z hz => by
        simp only [List.mem_cons, List.not_mem_nil, or_false] at hz
        rcases hz with rfl | rfl | rfl <;> assumption).up (by simp)
  have b1 : Sm 1 40 (.tup [.str w0, .int 2]) := (sm_C' (c := (w0, 2)) hw (by simp) (by simp)).up (by decide)
  have sm : Sm 3 400 (.tup [.str x, .int 3, .tup [.tup [.str w0, .int 2], d]]) := sm_3 (sm_nm hx (by decide)) (sm_int (by decide) (by decide)) ((sm_tup (k := 40) fun z hz => by
    simp only [List.mem_cons, List.not_mem_nil, or_false] at hz
    rcases hz with rfl | rfl <;> assumption).up (by simp))
  refine ⟨_, c4, Sb (.val (oneD x w0)) (.val (.lst (ws.map .str))) (.val (.int k)) (.val a) (.val (.tup [a, b])) (.val d) c4, sm, h9, ?_, rfl⟩
  have l1 : 1 ≤ LN := ln8 _ (by decide)
  have l2 : 2 ≤ LN := ln8 _ (by decide)
  have l5 : 5 ≤ LN := ln8 _ (by decide)
  have l6 : 6 ≤ LN := ln8 _ (by decide)
  have l8 : 8 ≤ LN := ln8 _ (by decide)
  have hle : lenC [.lst (ws.map D.str)] = some (.int (ws.length : Int)) := by simp
  have a2 : atD (oneD x w0) (.int 2) = some (oneC w0) := rfl
  have e3 : slD (oneD x w0) none (some 2) = some (.tup [.str x, .int 3]) := rfl
  have e1 : lstC [.tup [a, b]] = some [a, b] := rfl
  have e2 : slD (.tup [a, b]) none (some 1) = some (.tup [a]) := rfl
  have e4 : addD (.tup [a, b]) (.tup [.int 1]) = some (.tup [a, b, .int 1]) := rfl
  have e5 : addD (oneC w0) (.tup [d]) = some (.tup [.tup [.str w0, .int 2], d]) := rfl
  have e6 : slD (.tup [.tup [.str w0, .int 2], d]) (some (-4)) none = some (.tup [.tup [.str w0, .int 2], d]) := rfl
  have e7 : addD (.tup [.str x, .int 3]) (.tup [.tup [.tup [.str w0, .int 2], d]]) = some (.tup [.str x, .int 3, .tup [.tup [.str w0, .int 2], d]]) := rfl
  have ng : negD (.int 4) = some (.int (-4)) := rfl
  clear sd sm b1 hd ha hb sa sb
  generalize D.tup [.str x, .int 3, .tup [.tup [.str w0, .int 2], d]] = R at *
  generalize D.tup [.tup [.str w0, .int 2], d] = R2 at *
  generalize oneD x w0 = O at *
  generalize oneC w0 = C at *
  generalize D.lst (ws.map .str) = W at *
  generalize (ws.length : Int) = m at *
  have s0 : bm0 (Sb (.val O) (.val W) (.val (.int k)) .no .no .no c) = .nx (Sb (.val O) (.val W) (.val (.int k)) (.val a) .no .no c2) := by
    simp [bm0, hle, h3, ey, hw0, h6, ea, l5]
  have s1 : bm1 (Sb (.val O) (.val W) (.val (.int k)) (.val a) .no .no c2) = .nx (Sb (.val O) (.val W) (.val (.int k)) (.val a) (.val (.tup [a, b])) .no c3) := by
    simp [bm1, h8, eb, l8, l2]
  have s2 : bm2 (Sb (.val O) (.val W) (.val (.int k)) (.val a) (.val (.tup [a, b])) .no c3) = .nx (Sb (.val O) (.val W) (.val (.int k)) (.val a) (.val (.tup [a, b])) (.val d) c4) := by
    generalize hT : D.tup [a, b] = T at *
    simp [bm2, e1, e2, e4, h10, ed, l6, l1, slice, pSome, dI]
  have s3 : bm3 (Sb (.val O) (.val W) (.val (.int k)) (.val a) (.val (.tup [a, b])) (.val d) c4) = .rt (.val R) (Sb (.val O) (.val W) (.val (.int k)) (.val a) (.val (.tup [a, b])) (.val d) c4) := by
    generalize hT : D.tup [a, b] = T at *
    simp [bm3, a2, e3, e5, e6, e7, ng, l1, slice, pSome, dI]
  have s4 := seq_nx s0 (seq_nx s1 (seq_nx s2 s3))
  rw [bn7_eq]
  generalize sSeq bm0 (sSeq bm1 (sSeq bm2 bm3)) = F at *
  simp [hk8, s4]
end
/-- a function bent -/
theorem bent {n : Nat} (c : Cell) {x w0 : Str} {ws : List Str} (hx : Wk.Nm x) (hws : ∀ y ∈ ws, Wk.Nm y) (h0 : ws[0]? = some w0) (hl2 : ws.length ≤ 100) (hv : Vat n c) (hn : n + 20 ≤ 900000) :
    ∃ d c', Sm 3 400 d ∧ Vat (n + 5) c' ∧ r__law_bent [.io 0, .val (oneD x w0), .val (.lst (ws.map .str))] [c] = .rt (.val d) [c'] := by
  have hl : 0 < ws.length := by
    cases ws with
    | nil => cases h0
    | cons y ys => simp
  have hw : Wk.Nm w0 := hws _ (List.mem_of_getElem? h0)
  obtain ⟨v, c1, j1, j2, v1, e1⟩ := run_ladle' c 9 hv (by omega) (by omega) (by omega)
  have s0 : bn0 (Sb (.val (oneD x w0)) (.val (.lst (ws.map .str))) .no .no .no .no c) = .nx (Sb (.val (oneD x w0)) (.val (.lst (ws.map .str))) (.val (.int v)) .no .no .no c1) := by
    generalize oneD x w0 = O at *
    generalize D.lst (ws.map .str) = W at *
    simp [bn0, e1]
  have fin : ∀ o, res o (n + 5) → b__law_bent (Sb (.val (oneD x w0)) (.val (.lst (ws.map .str))) .no .no .no .no c) = o → ∃ d c', Sm 3 400 d ∧ Vat (n + 5) c' ∧ r__law_bent [.io 0, .val (oneD x w0), .val (.lst (ws.map .str))] [c] = .rt (.val d) [c'] := fun o ho h => by
    obtain ⟨d, c', s, k1, k2, rfl, k4⟩ := ho
    refine ⟨d, c', k1, k2, ?_⟩
    rw [← k4]
    exact fn_of h
  have rs : ∀ {o : Out} {m : Nat}, m ≤ n + 5 → res o m → ∃ d c' s, Sm 3 400 d ∧ Vat (n + 5) c' ∧ o = .rt (.val d) s ∧ s.io = [c'] := fun hm ⟨d, c', s, k1, k2, k3, k4⟩ => ⟨d, c', s, k1, k2.mono hm, k3, k4⟩
  have use : ∀ {f g : S → Out} {s : S} {m : Nat}, m ≤ n + 5 → res (f s) m → ∃ o, res o (n + 5) ∧ sSeq f g s = o := fun hm h => by
    obtain ⟨d, c', s', k1, k2, k3, k4⟩ := rs hm h
    exact ⟨_, ⟨d, c', s', k1, k2, rfl, k4⟩, seq_rt k3⟩
  suffices ∃ o, res o (n + 5) ∧ sSeq bn1 (sSeq bn2 (sSeq bn3 (sSeq bn4 (sSeq bn5 (sSeq bn6 (sSeq bn7 bn8)))))) (Sb (.val (oneD x w0)) (.val (.lst (ws.map .str))) (.val (.int v)) .no .no .no c1) = o by
    obtain ⟨o, ho, e⟩ := this
    refine fin o ho ?_
    rw [bn_eq]
    exact seq_nx s0 e
  by_cases h : v = 0
  · subst h; exact use (by omega) (way0 v1 (by omega) _ _ _ _ _)
  rw [seq_nx (show bn1 (Sb (.val (oneD x w0)) (.val (.lst (ws.map .str))) (.val (.int v)) .no .no .no c1) = .nx (Sb (.val (oneD x w0)) (.val (.lst (ws.map .str))) (.val (.int v)) .no .no .no c1) from skip_eq v _ 0 _ _ _ _ _ _ h) rfl]
  by_cases h : v = 1
  · subst h; exact use (by omega) (way1 hx hw v1 (by omega) _ _ _ _)
  rw [seq_nx (show bn2 (Sb (.val (oneD x w0)) (.val (.lst (ws.map .str))) (.val (.int v)) .no .no .no c1) = .nx (Sb (.val (oneD x w0)) (.val (.lst (ws.map .str))) (.val (.int v)) .no .no .no c1) from skip_eq v _ 1 _ _ _ _ _ _ h) rfl]
  by_cases h : v = 2
  · subst h; exact use (by omega) (way2 hx hw v1 (by omega) _ _ _ _)
  rw [seq_nx (show bn3 (Sb (.val (oneD x w0)) (.val (.lst (ws.map .str))) (.val (.int v)) .no .no .no c1) = .nx (Sb (.val (oneD x w0)) (.val (.lst (ws.map .str))) (.val (.int v)) .no .no .no c1) from skip_eq v _ 2 _ _ _ _ _ _ h) rfl]
  by_cases h : v = 3
  · subst h; exact use (by omega) (way3 hx hw hws hl hl2 v1 (by omega) _ _ _)
  rw [seq_nx (show bn4 (Sb (.val (oneD x w0)) (.val (.lst (ws.map .str))) (.val (.int v)) .no .no .no c1) = .nx (Sb (.val (oneD x w0)) (.val (.lst (ws.map .str))) (.val (.int v)) .no .no .no c1) from skip_eq v _ 3 _ _ _ _ _ _ h) rfl]
  by_cases h : v = 4
  · subst h; exact use (by omega) (way4 hx hw v1 (by omega) _ _ _ _)
  rw [seq_nx (show bn5 (Sb (.val (oneD x w0)) (.val (.lst (ws.map .str))) (.val (.int v)) .no .no .no c1) = .nx (Sb (.val (oneD x w0)) (.val (.lst (ws.map .str))) (.val (.int v)) .no .no .no c1) from skip_eq v _ 4 _ _ _ _ _ _ h) rfl]
  by_cases h : v = 5
  · subst h; exact use (by omega) (way5 hx hw v1 (by omega) _ _ _ _)
  rw [seq_nx (show bn6 (Sb (.val (oneD x w0)) (.val (.lst (ws.map .str))) (.val (.int v)) .no .no .no c1) = .nx (Sb (.val (oneD x w0)) (.val (.lst (ws.map .str))) (.val (.int v)) .no .no .no c1) from skip_eq v _ 5 _ _ _ _ _ _ h) rfl]
  by_cases h : v = 8
  · subst h
    have s7 : bn7 (Sb (.val (oneD x w0)) (.val (.lst (ws.map .str))) (.val (.int 8)) .no .no .no c1) = .nx (Sb (.val (oneD x w0)) (.val (.lst (ws.map .str))) (.val (.int 8)) .no .no .no c1) := by
      rw [bn7_eq]
      generalize sSeq bm0 (sSeq bm1 (sSeq bm2 bm3)) = F at *
      simp
    refine ⟨_, ⟨oneD x w0, c1, Sb (.val (oneD x w0)) (.val (.lst (ws.map .str))) (.val (.int 8)) .no .no .no c1, sm_3 (sm_nm hx (by decide)) (sm_int (by decide) (by decide)) ((sm_one hw).up (by decide)), v1.mono (by omega), rfl, rfl⟩, ?_⟩
    rw [seq_nx s7 rfl]
    simp [bn8]
  · exact use (by omega) (way67 v (by omega) hx hw hws h0 hl2 v1 (by omega))
end Wk
set_option maxHeartbeats 4000000
namespace Wk
open PySem PyProof.Rows L2 DL
def tu0 : S → Out := (sSetO 2 (calN lstC (aCons (rD (mCall 4 r__law_table [] (gSl 0 (gVal (mret (.int 5)) (gVal (mret (.int 4)) (gVal (mret (.int 9)) (mret []))))))) (mret []))))
def tu1 : S → Out := (frzO 3 (sSetO 3 (keepV 2 (oLc [10] (iOf (eVar 2)) (.nm 10) mYes (DL.bin atD (eVar 10) (mret (.int 0)))))))
def tu2 : S → Out := (sForW [4] (iRng rng1 (aCons (rD (mCall 2 r__law_ladle [] (gSl 0 (gVal (mret (.int 3)) (mret []))))) (mret []))) (.nm 4) b__law_right_2)
def tu3 : S → Out := (sForW [5, 9] (iRng rng1 (aCons (rD (mCall 2 r__law_ladle [] (gSl 0 (gVal (mret (.int 3)) (mret []))))) (mret []))) (.nm 5) b__law_right_3)
def tu4 : S → Out := (sSet 6 (cal tupC (aCons (eVar 2) (mret []))))
def tu5 : S → Out := (sIf (asB (DL.bin eqD (rD (mCall 2 r__law_ladle [] (gSl 0 (gVal (mret (.int 9)) (mret []))))) (mret (.int 0)))) (sSet 6 (DL.bin atD (eLst (aCons (eVar 2) (aCons (eTup (mret [])) (aCons (mret .non) (aCons (mret (.str "a 1")) (aCons (mret (.dic [])) (aCons (slotThen 2 (mret (.int 0)) atD) (mret [])))))))) (rD (mCall 2 r__law_ladle [] (gSl 0 (gVal (mret (.int 6)) (mret []))))))) sNx)
def tu6 : S → Out := (sSet 7 (eLst (aCons (mret (.str "back")) (aCons (cal reprY (aCons (eVar 6) (mret []))) (mret [])))))
def tu7 : S → Out := (sIf (tOrB (tNotB (tru (cal (isiC cls) (aCons (eVar 6) (aCons (mret (.ty "tuple")) (mret [])))))) (asB (DL.bin eqT0 (eVar 6) (eTup (mret []))))) (sSet 7 (eLst (aCons (mret (.str "functions")) (aCons (mret (.str "None")) (mret []))))) (sIf (asB (DL.bin (cmpI fun i j => decide (j ≤ i)) (rD (mCall 1 r__law_wrong [] (gVal (eVar 6) (mret [])))) (mret (.int 0)))) (sSet 7 (eLst (aCons (mret (.str "functions")) (aCons (cal reprZ (aCons (rD (mCall 1 r__law_wrong [] (gVal (eVar 6) (mret [])))) (mret []))) (mret []))))) sNx))
def tu8 : S → Out := (sSetO 8 (oLst (aCons (rD (toldM csX 4 1 3 b__law_told_R b__law_told_S (rD (mProp r_Program_functions (recvD "Program" "functions" (rD (mMake 2 "Program" r_Program_init [] (gVal (eVar 6) (mret []))))))))) (mret []))))
def tu9 : S → Out := (sApp 8 (rD (toldM csX 4 1 3 b__law_told_R b__law_told_S (rD (mProp r_Program_functions (recvD "Program" "functions" (rD (mMakeK 1 2 "Program" r_Program_init [0] (gVal (eVar 6) (mret []))))))))))
def tu10 : S → Out := (sIf (asB (DL.bin neD (eVar 8) (eLst (aCons (eVar 7) (aCons (eVar 7) (mret [])))))) (sRet (mret (.bl false))) sNx)
theorem tu_eq : b__law_right_1 = sSeq tu0 (sSeq tu1 (sSeq tu2 (sSeq tu3 (sSeq tu4 (sSeq tu5 (sSeq tu6 (sSeq tu7 (sSeq tu8 (sSeq tu9 tu10))))))))) := rfl
abbrev St (y1 : D) (T W : Sl) (x6 x7 x8 : Sl) (c : Cell) : S := ⟨[.io 0, .val y1, T, W, .no, .no, x6, x7, x8, .no, .no], [c]⟩
theorem two_ok {t z : Str} (ht : PyData.strOk t = true) (hz : PyData.strOk z = true) : neD (.lst [.lst [.str t, .str z], .lst [.str t, .str z]]) (.lst [.lst [.str t, .str z], .lst [.str t, .str z]]) = some (.bl false) := by
  have h : (D.lst [.lst [.str t, .str z], .lst [.str t, .str z]]).ok 10 = true := by simp [D.ok, D.oks, ht, hz]
  rw [neD_ok h h]
  simp [D.py, D.pys]
theorem own_L (L : List D) : (Cell.lst L).d = .lst L := rfl
def tu7g (r : Fn) : S → Out := (sIf (tOrB (tNotB (tru (cal (isiC cls) (aCons (eVar 6) (aCons (mret (.ty "tuple")) (mret [])))))) (asB (DL.bin eqT0 (eVar 6) (eTup (mret []))))) (sSet 7 (eLst (aCons (mret (.str "functions")) (aCons (mret (.str "None")) (mret []))))) (sIf (asB (DL.bin (cmpI fun i j => decide (j ≤ i)) (rD (mCall 1 r [] (gVal (eVar 6) (mret [])))) (mret (.int 0)))) (sSet 7 (eLst (aCons (mret (.str "functions")) (aCons (cal reprZ (aCons (rD (mCall 1 r [] (gVal (eVar 6) (mret [])))) (mret []))) (mret []))))) sNx))
theorem tu7_eq : tu7 = tu7g r__law_wrong := rfl
theorem due_of (r : Fn) {TL z : D} {v : Int} (y1 : D) (T W : Sl) (c : Cell) (hb : isiT cls TL (.ty "tuple") = some true) (e0 : eqT0 TL (.tup []) = some (.bl false)) (hz : reprY [TL] = some z) (w : ∀ s, runFn r [] [.val TL] s = .ok (.val (.int v)) s) {zi : D} (hzi : 0 ≤ v → reprZ [.int v] = some zi) :
    sSeq tu6 (tu7g r) (St y1 T W (.val TL) .no .no c) = .nx (St y1 T W (.val TL) (.val (if 0 ≤ v then .lst [.str "functions", zi] else .lst [.str "back", z])) .no c) := by
  have l2 : 2 ≤ LN := by decide
  have l0 : 0 ≤ LN := by decide
  by_cases h0 : 0 ≤ v
  · have hzi := hzi h0
    simp [tu6, tu7g, isiC, hb, hz, l2, l0, e0, w, h0, hzi]
  · simp [tu6, tu7g, isiC, hb, hz, l2, l0, e0, w, h0]
theorem reprY_val {d y : D} (h : reprY [d] = some y) : y = .str d.py.shown := by
  have h : (if (d.okY 10 && d.py.showable && decide (d.py.shown.length ≤ LN)) = true then some (.str d.py.shown) else none) = some y := h
  generalize (d.okY 10 && d.py.showable && decide (d.py.shown.length ≤ LN)) = b at h
  cases b with
  | false => simp at h
  | true => simpa using h.symm
/-! the program refuses -/
theorem mk_exc {d x : D} (h : ∀ s, runFn r_check_functions [] [.val d] s = .exc "InvalidFunctions" [("index", x)] s) (s : S) : runMake "Program" r_Program_init [] [.val d] s = .exc "InvalidFunctions" [("index", x)] s :=
  makeX_val (ds := [d]) (c1 := .ins "Program" []) (io' := []) (by
    simp [r_Program_init, bodyFn, b_Program_init, h]
    rfl) s
theorem chk_none {d : D} {b : Bool} (hb : isiT cls d (.ty "tuple") = some b) (h : b = true → lenC [d] = some (.int 0)) (s : S) : runFn r_check_functions [] [.val d] s = .exc "InvalidFunctions" [("index", .non)] s :=
  runX_val (ds := [d]) (io' := []) (by
    cases b with
    | false =>
      simp [r_check_functions, bodyFn, b_check_functions, List.replicate, isiC, hb]
      rfl
    | true =>
      have h := h rfl
      simp [r_check_functions, bodyFn, b_check_functions, List.replicate, isiC, hb, h]
      rfl) s
theorem chk_wr {L : List D} (F : FL L) (hne : L ≠ []) {i : Nat} (h : Wr L (some i)) (s : S) : runFn r_check_functions [] [.val (.tup L)] s = .exc "InvalidFunctions" [("index", .int (i : Int))] s :=
  runX_val (ds := [.tup L]) (io' := []) (by
    have hb : isiT cls (.tup L) (.ty "tuple") = some true := rfl
    have hl : lenC [.tup L] = some (.int (L.length : Int)) := by simp
    have h0 : ¬ (L.length : Int) = 0 := by
      have := List.length_pos_iff.mpr hne
      omega
    have w := fun s => wf_run F h s
    simp only [wrD] at w
    generalize (L.length : Int) = k at *
    generalize (i : Int) = j at *
    generalize D.tup L = T at *
    simp [r_check_functions, bodyFn, b_check_functions, List.replicate, isiC, hb, hl, h0, w]
    rfl) s
/-- what is due, what is told -/
structure Tell (d : D) (w z : Str) : Prop where
  ok : PyData.strOk w = true
  oz : PyData.strOk z = true
  due : ∀ y1 T W c, sSeq tu6 tu7 (St y1 T W (.val d) .no .no c) = .nx (St y1 T W (.val d) (.val (.lst [.str w, .str z])) .no c)
  t1 : ∀ s : S, s.sl[6]? = some (.val d) → toldM csX 4 1 3 b__law_told_R b__law_told_S (rD (mProp r_Program_functions (recvD "Program" "functions" (rD (mMake 2 "Program" r_Program_init [] (gVal (eVar 6) (mret []))))))) s = .ok (.own (.lst [.str w, .str z])) s
  t2 : ∀ s : S, s.sl[6]? = some (.val d) → toldM csX 4 1 3 b__law_told_R b__law_told_S (rD (mProp r_Program_functions (recvD "Program" "functions" (rD (mMakeK 1 2 "Program" r_Program_init [0] (gVal (eVar 6) (mret []))))))) s = .ok (.own (.lst [.str w, .str z])) s
theorem v6 {s : S} {d : D} (h : s.sl[6]? = some (.val d)) : eVar 6 s = .ok d s := by
  obtain ⟨sl, io⟩ := s
  have h : sl[6]? = some (.val d) := h
  simp [h]
theorem refused {d x : D} {z : Str} (h : ∀ s, runFn r_check_functions [] [.val d] s = .exc "InvalidFunctions" [("index", x)] s) (hz : reprZ [x] = some (.str z)) :
    (∀ s : S, s.sl[6]? = some (.val d) → toldM csX 4 1 3 b__law_told_R b__law_told_S (rD (mProp r_Program_functions (recvD "Program" "functions" (rD (mMake 2 "Program" r_Program_init [] (gVal (eVar 6) (mret []))))))) s = .ok (.own (.lst [.str "functions", .str z])) s) ∧
    (∀ s : S, s.sl[6]? = some (.val d) → toldM csX 4 1 3 b__law_told_R b__law_told_S (rD (mProp r_Program_functions (recvD "Program" "functions" (rD (mMakeK 1 2 "Program" r_Program_init [0] (gVal (eVar 6) (mret []))))))) s = .ok (.own (.lst [.str "functions", .str z])) s) := by
  have m := fun s => mk_exc h s
  refine ⟨fun s hs => told_functions ?_ hz, fun s hs => told_functions ?_ hz⟩
  · have v := v6 hs
    generalize eVar 6 = E6 at *
    simp [v, m]
  · have v := v6 hs
    generalize eVar 6 = E6 at *
    simp [v, m, permL]
theorem none_rep : reprZ [.non] = some (.str "None") := by rfl
theorem tell_none {d : D} {b : Bool} {z : Str} (hb : isiT cls d (.ty "tuple") = some b) (h : b = true → d = .tup []) (hz : reprY [d] = some (.str z)) : Tell d "functions" "None" := by
  obtain ⟨t1, t2⟩ := refused (fun s => chk_none hb (fun e => by rw [h e]; rfl) s) none_rep
  refine ⟨by decide +kernel, by decide +kernel, fun y1 T W c => ?_, t1, t2⟩
  have l2 : 2 ≤ LN := by decide
  have l0 : 0 ≤ LN := by decide
  cases b with
  | false => simp [tu6, tu7, isiC, hb, hz, l2]
  | true =>
    have h := h rfl
    subst h
    simp [tu6, tu7, isiC, hb, hz, l2, l0]
theorem tell_some {L : List D} (F : FL L) (hne : L ≠ []) {i : Nat} (h : Wr L (some i)) {z : Str} (hz : reprY [.tup L] = some (.str z)) : ∃ z', Tell (.tup L) "functions" z' := by
  have hi : i < L.length := by cases h <;> assumption
  have hl := F.len
  have hs : (D.int (i : Int)).sm 10 = true := by
    have a : -999999999999 ≤ (i : Int) := by omega
    have b : (i : Int) ≤ 999999999999 := by omega
    simp [D.sm, a, b]
  have hzi := reprZ_sm hs (Nat.zero_le _)
  have hoi := shown_ok (.int (i : Int)) 10 (sm_ok10 hs)
  obtain ⟨t1, t2⟩ := refused (fun s => chk_wr F hne h s) hzi
  refine ⟨_, by decide +kernel, hoi, fun y1 T W c => ?_, t1, t2⟩
  have l2 : 2 ≤ LN := by decide
  have l0 : 0 ≤ LN := by decide
  have hb : isiT cls (.tup L) (.ty "tuple") = some true := rfl
  have he : L.isEmpty = false := by
    cases L with
    | nil => exact absurd rfl hne
    | cons x xs => rfl
  have e0 : eqT0 (.tup L) (.tup []) = some (.bl false) := by rw [q_eqT0, he]
  have w := fun s => lw_run F h s
  simp only [lwD] at w
  have i0 : (0 : Int) ≤ (i : Int) := by omega
  rw [tu7_eq, due_of r__law_wrong y1 T W c hb e0 hz w (fun _ => hzi), if_pos i0]
theorem tell_good {L : List D} (F : FL L) (hne : L ≠ []) (h : Wr L none) {z : Str} (hz : reprY [.tup L] = some (.str z)) (oz : PyData.strOk z = true) : Tell (.tup L) "back" z := by
  obtain ⟨t, G, rfl⟩ := wr_good F hne h
  have et : D.tup (t.map encF) = encT t := rfl
  have h1 := sm_T G.fb 6
  have h2 := bk_T G.fb G.hi
  have hz' := reprZ_sm h1 (by omega)
  have hzz : (encT t).py.shown = z := by
    rw [et] at hz
    have := reprY_val hz
    injection this with e
    exact e.symm
  rw [hzz] at hz'
  have m := fun s => mk_prg G s
  have cd : (Cell.ins "Program" (prF t)).d = prg t := rfl
  have hf := fun s => run1 (P_functions t) s
  have hn' := no_prg t "functions"
  refine ⟨by decide +kernel, oz, fun y1 T W c => ?_, fun s hs => told_back ?_ hz', fun s hs => told_back ?_ hz'⟩
  · have l2 : 2 ≤ LN := by decide
    have l0 : 0 ≤ LN := by decide
    have hb : isiT cls (.tup (t.map encF)) (.ty "tuple") = some true := rfl
    have he : (t.map encF).isEmpty = false := by
      cases t with
      | nil => exact absurd rfl hne
      | cons x xs => rfl
    have e0 : eqT0 (.tup (t.map encF)) (.tup []) = some (.bl false) := by rw [q_eqT0, he]
    rw [tu7_eq, due_of r__law_wrong (zi := .non) y1 T W c hb e0 hz (fun s => lw_run F h s) (fun e => by exfalso; omega), if_neg (by omega)]
  · rw [et] at hs
    have v := v6 hs
    generalize (Cell.ins "Program" (prF t)) = CC at *
    generalize prg t = P' at *
    generalize encT t = E at *
    generalize eVar 6 = E6 at *
    simp [v, m, cd, hn', hf, noExc]
  · rw [et] at hs
    have v := v6 hs
    generalize (Cell.ins "Program" (prF t)) = CC at *
    generalize prg t = P' at *
    generalize encT t = E at *
    generalize eVar 6 = E6 at *
    simp [v, m, cd, hn', hf, noExc, permL]
/-- of any small thing -/
theorem tell {d : D} {n : Nat} (hn : n ≤ 9) (h : Sm n 5000 d) : ∃ w z, Tell d w z := by
  obtain ⟨hz, oz⟩ := reprY_of (by omega) h.sy (by have := h.bk; omega)
  have hd := h.dat (Nat.le_refl _)
  have ht := hd.tyT
  have none_case : isTup d = false ∨ d = .tup [] → ∃ w z, Tell d w z := fun e => ⟨_, _, tell_none ht (fun e' => by
    rcases e with e | e
    · rw [e] at e'; cases e'
    · exact e) hz⟩
  cases hd with
  | tup xs l hx =>
    by_cases he : xs = []
    · subst he; exact none_case (.inr rfl)
    · have F : FL xs := ⟨fun d hd => Dat.of (hx d hd), by omega⟩
      obtain ⟨o, ho⟩ := wr_ex xs
      cases o with
      | none => exact ⟨_, _, tell_good F he ho hz oz⟩
      | some i => exact ⟨_, tell_some F he ho hz⟩
  | _ => exact none_case (.inl rfl)
/-- the second half of a turn -/
theorem half2 {d : D} {n : Nat} (hn : n ≤ 9) (h : Sm n 5000 d) (y1 : D) (T W : Sl) (c : Cell) :
    ∃ x7 x8, sSeq tu6 (sSeq tu7 (sSeq tu8 (sSeq tu9 tu10))) (St y1 T W (.val d) .no .no c) = .nx (St y1 T W (.val d) x7 x8 c) := by
  obtain ⟨w, z, tt⟩ := tell hn h
  have hd := tt.due y1 T W c
  have ne := two_ok tt.ok tt.oz
  have l1 : 1 ≤ LN := by decide
  have l1' : 1 < LN := by decide
  have l2 : 2 ≤ LN := by decide
  have s8 : tu8 (St y1 T W (.val d) (.val (.lst [.str w, .str z])) .no c) = .nx (St y1 T W (.val d) (.val (.lst [.str w, .str z])) (.own (.lst [.lst [.str w, .str z]])) c) := by
    have h := tt.t1 (St y1 T W (.val d) (.val (.lst [.str w, .str z])) .no c) rfl
    unfold tu8
    generalize (toldM csX 4 1 3 b__law_told_R b__law_told_S (rD (mProp r_Program_functions (recvD "Program" "functions" (rD (mMake 2 "Program" r_Program_init [] (gVal (eVar 6) (mret [])))))))) = F at *
    simp [h, l1, own_L, cdL, cdI, cdK]
  have s9 : tu9 (St y1 T W (.val d) (.val (.lst [.str w, .str z])) (.own (.lst [.lst [.str w, .str z]])) c) = .nx (St y1 T W (.val d) (.val (.lst [.str w, .str z])) (.own (.lst [.lst [.str w, .str z], .lst [.str w, .str z]])) c) := by
    have h := tt.t2 (St y1 T W (.val d) (.val (.lst [.str w, .str z])) (.own (.lst [.lst [.str w, .str z]])) c) rfl
    unfold tu9
    generalize (toldM csX 4 1 3 b__law_told_R b__law_told_S (rD (mProp r_Program_functions (recvD "Program" "functions" (rD (mMakeK 1 2 "Program" r_Program_init [0] (gVal (eVar 6) (mret [])))))))) = F at *
    simp [h, l1', own_L, cdL, cdI, cdK]
  have s10 : tu10 (St y1 T W (.val d) (.val (.lst [.str w, .str z])) (.own (.lst [.lst [.str w, .str z], .lst [.str w, .str z]])) c) = .nx (St y1 T W (.val d) (.val (.lst [.str w, .str z])) (.val (.lst [.lst [.str w, .str z], .lst [.str w, .str z]])) c) := by
    simp [tu10, ne, l2, cdL, cdI, cdK]
  refine ⟨.val (.lst [.str w, .str z]), .val (.lst [.lst [.str w, .str z], .lst [.str w, .str z]]), ?_⟩
  have e : ∀ g : S → Out, sSeq tu6 (sSeq tu7 g) = sSeq (sSeq tu6 tu7) g := fun g => by
    funext s
    simp only [sSeq]
    cases tu6 s <;> rfl
  rw [e]
  exact seq_nx hd (seq_nx s8 (seq_nx s9 s10))
end Wk
set_option maxHeartbeats 4000000
namespace Wk
open PySem PyProof.Rows L2 DL
theorem Vat.lf {n : Nat} {c : Cell} (h : Vat n c) : ∃ ys : List D, c = .lst ys ∧ D.lfs ys = true := by
  obtain ⟨a, b, k, rfl, _⟩ := h
  exact ⟨_, rfl, rfl⟩
theorem str_lfs : ∀ ns : List Str, D.lfs (ns.map .str) = true
  | [] => rfl
  | n :: ns => by
    have := str_lfs ns
    show (true && D.lfs (ns.map .str)) = true
    rw [this]; rfl
abbrev S0 (y1 : D) (T W x4 x5 x9 : Sl) (c : Cell) : S := ⟨[.io 0, .val y1, T, W, x4, x5, .no, .no, .no, x9, .no], [c]⟩
theorem s1_of {t : List Fu} (G : Good t) (y1 : D) {n : Nat} {c : Cell} (hv : Vat n c) : tu1 (S0 y1 (.own (.lst (t.map encF))) .no .no .no .no c) = .nx (S0 y1 (.own (.lst (t.map encF))) (.val (.lst ((nms t).map .str))) .no .no .no c) := by
  have h6 := G.hi
  have h := lc_all (vs := [10]) (fi := iOf (eVar 2)) (p := .nm 10) (fe := DL.bin atD (eVar 10) (mret (.int 0))) (s := S0 y1 (.own (.lst (t.map encF))) .no .no .no .no c) t encF (fun f => .str f.1) (sl := [.io 0, .val y1, .val (.lst (t.map encF)), .no, .no, .no, .no, .no, .no, .no, .no]) (io := [c]) (slB := fun f => [.io 0, .val y1, .val (.lst (t.map encF)), .no, .no, .no, .no, .no, .no, .no, .val (encF f)])
    (by simp [own_L]) (ln_small (by omega)) (fun c hc io => rfl) (fun c hc z => by simp) (fun c hc => rfl) rfl (fun c hc => rfl)
  have e : (t.map fun f => D.str f.1) = (nms t).map .str := by rw [nms, List.map_map]; rfl
  rw [e] at h
  obtain ⟨ys, rfl, hy⟩ := hv.lf
  have ho : onlyO 2 0 [.io 0, .val y1, .own (.lst (t.map encF)), .no, .no, .no, .no, .no, .no, .no, .no] = true := rfl
  have hs := str_lfs (nms t)
  have hio : ioLf [.lst ys] = true := by simp [ioLf, hy]
  generalize (nms t).map D.str = N at *
  generalize t.map encF = L at *
  have k : keepV 2 (oLc [10] (iOf (eVar 2)) (.nm 10) mYes (DL.bin atD (eVar 10) (mret (.int 0)))) (S0 y1 (.own (.lst L)) .no .no .no .no (.lst ys)) = .ok (.lst N) (S0 y1 (.own (.lst L)) .no .no .no .no (.lst ys)) := by
    have h' : oLc [10] (iOf (eVar 2)) (.nm 10) mYes (DL.bin atD (eVar 10) (mret (.int 0))) (S0 y1 (.own (.lst L)) .no .no .no .no (.lst ys)) = .ok (.lst N) ⟨[.io 0, .val y1, .val (.lst L), .no, .no, .no, .no, .no, .no, .no, .no], [.lst ys]⟩ := by
      unfold oLc mbind
      rw [h]
      rfl
    unfold keepV
    simp only [List.getElem?_cons_succ, List.getElem?_cons_zero, ho, h', hs, hio, if_true, Bool.and_self]
  unfold tu1
  generalize keepV 2 (oLc [10] (iOf (eVar 2)) (.nm 10) mYes (DL.bin atD (eVar 10) (mret (.int 0)))) = F at *
  simp [k, S.frz, own_L]
theorem s2_step (y1 i : D) (W : Sl) {L : List D} {n : Nat} {c : Cell} (hl : L.length ≤ 50) (hL : ∀ d ∈ L, Sm 3 400 d) (hv : Vat n c) (hn : n + 10 ≤ 900000) :
    ∃ (L' : List D) (c' : Cell), L'.length = L.length + 1 ∧ (∀ d ∈ L', Sm 3 400 d) ∧ Vat (n + 1) c' ∧ wipeO [4] b__law_right_2 (S0 y1 (.own (.lst L)) W (.val i) .no .no c) = .nx (S0 y1 (.own (.lst L')) W .no .no .no c') := by
  obtain ⟨v, c1, j1, j2, h2, h3⟩ := run_ladle' c 4 hv (by omega) (by omega) (by omega)
  obtain ⟨d, hd, ed⟩ := at_list (L := [.str "s", .str "ss", .str "sss", .str "t"]) j1 (by simpa using j2)
  have sd : Sm 2 130 d := all_sm (by decide +kernel) d hd
  refine ⟨L ++ [.tup [d, .int 1, .tup []]], c1, by simp, fun x hx => ?_, h2, ?_⟩
  · rcases List.mem_append.mp hx with h | h
    · exact hL x h
    · simp only [List.mem_cons, List.not_mem_nil, or_false] at h
      subst h
      exact sm_3 sd (sm_int (by decide) (by decide)) (Sm.of (by decide +kernel))
  · have l4 : 4 ≤ LN := ln8 _ (by decide)
    have l3 : 3 ≤ LN := ln8 _ (by decide)
    have l0 : 0 ≤ LN := ln8 _ (by decide)
    have l0' : L.length < LN := by simp only [LN]; omega
    simp [b__law_right_2, h3, ed, l4, l3, l0, l0']
theorem s3_step (y1 i : D) {ws : List Str} {w0 : Str} (hws : ∀ y ∈ ws, Wk.Nm y) (h0 : ws[0]? = some w0) (hl2 : ws.length ≤ 100) {L : List D} {n : Nat} {c : Cell} (h1 : 0 < L.length) (hl : L.length ≤ 50) (hL : ∀ d ∈ L, Sm 3 400 d) (hv : Vat n c) (hn : n + 40 ≤ 900000) :
    ∃ (L' : List D) (c' : Cell), L'.length = L.length ∧ (∀ d ∈ L', Sm 3 400 d) ∧ Vat (n + 10) c' ∧ wipeO [5, 9] b__law_right_3 (S0 y1 (.own (.lst L)) (.val (.lst (ws.map .str))) .no (.val i) .no c) = .nx (S0 y1 (.own (.lst L')) (.val (.lst (ws.map .str))) .no .no .no c') := by
  obtain ⟨v, c1, j1, j2, v1, e1⟩ := run_ladle' c (L.length : Int) hv (by omega) (by omega) (by omega)
  obtain ⟨k, rfl⟩ : ∃ k : Nat, v = (k : Int) := ⟨v.toNat, by omega⟩
  obtain ⟨u, c2, i1, i2, v2, e2⟩ := run_ladle' c1 3 v1 (by omega) (by omega) (by omega)
  obtain ⟨x, hx, ex, _⟩ := at_map (e := D.str) (xs := (["s", "t", "u"] : List Str)) i1 (by simpa using i2)
  have nx : Wk.Nm x := by
    have : ∀ x ∈ (["s", "t", "u"] : List Str), Wk.Nm x := fun x hx => nmB_iff.mp (List.all_eq_true.mp (by decide +kernel : ((["s", "t", "u"] : List Str).all nmB) = true) x hx)
    exact this x hx
  obtain ⟨d, c3, sd, v3, e3⟩ := bent c2 nx hws h0 hl2 v2 (by omega)
  have hw0 : atD (.lst (ws.map D.str)) (.int 0) = some (.str w0) := by
    have hl : 0 < ws.length := by
      cases ws with
      | nil => cases h0
      | cons y ys => simp
    have := (at_nat (xs := ws.map D.str) (i := 0) (by simpa using hl)).1
    rw [show ((0 : Nat) : Int) = 0 from rfl] at this
    rw [this, List.getElem_map]
    rw [List.getElem?_eq_getElem hl] at h0
    rw [Option.some.inj h0]
  have ix : ixN L.length (k : Int) = some k := by
    simp [ixN]
    omega
  refine ⟨L.set k d, c3, by simp, fun z hz => ?_, v3.mono (by omega), ?_⟩
  · rcases List.mem_or_eq_of_mem_set hz with h | h
    · exact hL z h
    · rw [h]; exact sd
  · have hle : lenC [.lst L] = some (.int (L.length : Int)) := by simp
    have e3' := run_vat3 e3
    have l1 : 1 ≤ LN := ln8 _ (by decide)
    have l2 : 2 ≤ LN := ln8 _ (by decide)
    have l3 : 3 ≤ LN := ln8 _ (by decide)
    simp only [List.map_cons, List.map_nil] at ex
    generalize D.lst (ws.map .str) = W at *
    generalize ((L.length : Nat) : Int) = mi at *
    generalize ((k : Nat) : Int) = ki at *
    simp [b__law_right_3, calP, own_L, flatD, hle, e1, e2, ex, hw0, e3', l1, l2, l3, cdL, cdI, cdK]
    rw [ix]
    rfl
theorem rng_nat (v : Int) (h0 : 0 ≤ v) (h1 : v ≤ 1000) : rng1 [.int v] = some ((List.range v.toNat).map fun i : Nat => D.int (0 + (i : Int))) := rng1_int v h0 h1
theorem iR1 (R : List D → Option (List D)) (E : List D) (v : Int) (h : R [.int v] = some E) {sl : List Sl} {c0 : Cell} {io : List Cell} {s s' : S} (hs : s = ⟨.io 0 :: sl, c0 :: io⟩) (e : runFn r__law_ladle [] [.sl 0, .val (.int 3)] s = .ok (.val (.int v)) s') : iRng R (aCons (rD (mCall 2 r__law_ladle [] (gSl 0 (gVal (mret (.int 3)) (mret []))))) (mret [])) s = .ok E s' := by
  subst hs
  simp [e, h]
/-- the first half of a turn -/
theorem half1 (y1 : D) {n : Nat} {c : Cell} (hv : Vat n c) (hn : n + 1300 ≤ 900000) : ∃ d k T W c', k ≤ 9 ∧ Sm k 5000 d ∧ Vat (n + 1200) c' ∧
    ∀ r : S → Out, sSeq tu0 (sSeq tu1 (sSeq tu2 (sSeq tu3 (sSeq tu4 (sSeq tu5 r))))) (S0 y1 .no .no .no .no .no c) = r (St y1 T W (.val d) .no .no c') := by
  obtain ⟨t, c1, v1, G, hl5, _, e1⟩ := table c 5 4 9 hv (by omega) (by omega) (by omega) (by omega) (by omega) (by omega) (by omega)
  have G0 := G.lo
  have hl5 : t.length ≤ 5 := hl5
  have s0 : tu0 (S0 y1 .no .no .no .no .no c) = .nx (S0 y1 (.own (.lst (t.map encF))) .no .no .no .no c1) := by
    have e1' : ∀ sl io, runFn r__law_table [] [.sl 0, .val (.int 5), .val (.int 4), .val (.int 9)] ⟨.io 0 :: sl, c :: io⟩ = .ok (.val (encT t)) ⟨.io 0 :: sl, c1 :: io⟩ := run_vat4 e1
    have hs : lstC [encT t] = some (t.map encF) := rfl
    generalize t.map encF = L at *
    generalize encT t = T at *
    simp [tu0, e1', hs]
  have s1 := s1_of G y1 v1
  have hws : ∀ y ∈ nms t, Wk.Nm y := G.nm
  obtain ⟨w0, h0⟩ : ∃ w0, (nms t)[0]? = some w0 := ⟨(nms t)[0]'(by simpa using G0), List.getElem?_eq_getElem (by simpa using G0)⟩
  have hwl : (nms t).length ≤ 100 := by simp; omega
  have hL : ∀ d ∈ t.map encF, Sm 3 400 d := fun d hd => by
    obtain ⟨f, hf, rfl⟩ := List.mem_map.mp hd
    exact sm_F' G hf
  have hL0 : (t.map encF).length = t.length := List.length_map _
  generalize t.map encF = L at *
  generalize nms t = ws at *
  -- more
  obtain ⟨v, c2, j1, j2, v2, e2⟩ := run_ladle' c1 3 v1 (by omega) (by omega) (by omega)
  obtain ⟨L1, c3, ⟨i1, i2⟩, v3, e3⟩ := forD_vat (p := .nm 4) (f := wipeO [4] b__law_right_2) (fun i : Nat => .int (0 + (i : Int))) (fun L c => S0 y1 (.own (.lst L)) (.val (.lst (ws.map .str))) .no .no .no c) (fun pre L' => L'.length = L.length + pre.length ∧ ∀ d ∈ L', Sm 3 400 d) 10 (n + 1000 + 1) (List.range v.toNat) L c2 v2 (by simp; omega) ⟨by simp, hL⟩
    (fun pre i post hp b c m ⟨a1, a2⟩ hm hb => by
      have hlen := congrArg List.length hp
      simp at hlen
      obtain ⟨L', c', k1, k2, k3, k4⟩ := s2_step y1 (.int (0 + (i : Int))) (.val (.lst (ws.map .str))) (by omega) a2 hm (by omega)
      exact ⟨L', c', S0 y1 (.own (.lst b)) (.val (.lst (ws.map .str))) (.val (.int (0 + (i : Int)))) .no .no c, rfl, k4, ⟨by simp; omega, k2⟩, k3.mono (by omega)⟩)
  simp only [List.length_range] at i1 v3
  have s2 : tu2 (S0 y1 (.own (.lst L)) (.val (.lst (ws.map .str))) .no .no .no c1) = .nx (S0 y1 (.own (.lst L1)) (.val (.lst (ws.map .str))) .no .no .no c3) := by
    have hr := rng_nat v j1 (by omega)
    exact for_of (ds := (List.range v.toNat).map fun i : Nat => .int (0 + (i : Int))) (s1 := S0 y1 (.own (.lst L)) (.val (.lst (ws.map .str))) .no .no .no c2) (iR1 rng1 _ v hr rfl (e2 _ _)) e3
  -- again
  obtain ⟨u, c4, g1, g2, v4, e4⟩ := run_ladle' c3 3 v3 (by omega) (by omega) (by omega)
  obtain ⟨L2, c5, ⟨k1, k2⟩, v5, e5⟩ := forD_vat (p := .nm 5) (f := wipeO [5, 9] b__law_right_3) (fun i : Nat => .int (0 + (i : Int))) (fun L c => S0 y1 (.own (.lst L)) (.val (.lst (ws.map .str))) .no .no .no c) (fun pre L' => L'.length = L1.length ∧ ∀ d ∈ L', Sm 3 400 d) 40 _ (List.range u.toNat) L1 c4 v4 (by simp; omega) ⟨rfl, i2⟩
    (fun pre i post hp b c m ⟨a1, a2⟩ hm hb => by
      obtain ⟨L', c', q1, q2, q3, q4⟩ := s3_step y1 (.int (0 + (i : Int))) hws h0 hwl (L := b) (n := m) (c := c) (by omega) (by omega) a2 hm (by omega)
      exact ⟨L', c', S0 y1 (.own (.lst b)) (.val (.lst (ws.map .str))) .no (.val (.int (0 + (i : Int)))) .no c, rfl, q4, ⟨by omega, q2⟩, q3.mono (by omega)⟩)
  simp only [List.length_range] at v5
  have s3 : tu3 (S0 y1 (.own (.lst L1)) (.val (.lst (ws.map .str))) .no .no .no c3) = .nx (S0 y1 (.own (.lst L2)) (.val (.lst (ws.map .str))) .no .no .no c5) := by
    have hr := rng_nat u g1 (by omega)
    exact for_of (ds := (List.range u.toNat).map fun i : Nat => .int (0 + (i : Int))) (s1 := S0 y1 (.own (.lst L1)) (.val (.lst (ws.map .str))) .no .no .no c4) (iR1 rng1 _ u hr rfl (e4 _ _)) e5
  have hlen : L2.length ≤ 9 ∧ 0 < L2.length := by omega
  have s4 : tu4 (S0 y1 (.own (.lst L2)) (.val (.lst (ws.map .str))) .no .no .no c5) = .nx (St y1 (.val (.lst L2)) (.val (.lst (ws.map .str))) (.val (.tup L2)) .no .no c5) := by
    have ht : tupC [.lst L2] = some (.tup L2) := by simp
    generalize hW : D.lst (ws.map .str) = W at *
    simp [tu4, own_L, ht, cdL, cdI, cdK]
  have front : ∀ r : S → Out, sSeq tu0 (sSeq tu1 (sSeq tu2 (sSeq tu3 (sSeq tu4 r)))) (S0 y1 .no .no .no .no .no c) = r (St y1 (.val (.lst L2)) (.val (.lst (ws.map .str))) (.val (.tup L2)) .no .no c5) := fun r => by
    simp only [sSeq, s0, s1, s2, s3, s4]
  have sT : Sm 4 5000 (.tup L2) := (sm_tup k2).up (by omega)
  obtain ⟨b, c6, f1, f2, v6, e6⟩ := run_ladle' c5 9 v5 (by omega) (by omega) (by omega)
  have l0 : 0 ≤ LN := ln8 _ (by decide)
  have l6 : 6 ≤ LN := ln8 _ (by decide)
  by_cases hb : b = 0
  · subst hb
    obtain ⟨w, c7, q1, q2, v7, e7⟩ := run_ladle' c6 6 v6 (by omega) (by omega) (by omega)
    have ex : atD (.lst L2) (.int 0) = some (L2[0]'hlen.2) := (at_nat (xs := L2) (i := 0) hlen.2).1
    obtain ⟨d, hd, ed⟩ := at_list (L := [.lst L2, .tup [], .non, .str "a 1", .dic [], L2[0]'hlen.2]) q1 (by simpa using q2)
    have hm : L2[0]'hlen.2 ∈ L2 := List.getElem_mem _
    have s0m := k2 _ hm
    generalize L2[0]'hlen.2 = x0 at *
    have sd : ∃ k ≤ 9, Sm k 5000 d := by
      simp only [List.mem_cons, List.not_mem_nil, or_false] at hd
      rcases hd with rfl | rfl | rfl | rfl | rfl | rfl
      · exact ⟨4, by decide, (sm_lst k2).up (by omega)⟩
      · exact ⟨4, by decide, Sm.of (by decide +kernel)⟩
      · exact ⟨4, by decide, Sm.of (by decide +kernel)⟩
      · exact ⟨4, by decide, Sm.of (by decide +kernel)⟩
      · exact ⟨4, by decide, Sm.of (by decide +kernel)⟩
      · exact ⟨3, by decide, s0m.up (by decide)⟩
    obtain ⟨k, hk, sd⟩ := sd
    refine ⟨d, k, .val (.lst L2), .val (.lst (ws.map .str)), c7, hk, sd, v7.mono (by omega), fun r => ?_⟩
    rw [front]
    refine seq_nx ?_ rfl
    clear front s4 s3 s2 s1 s0 e5 e3
    generalize D.lst (ws.map .str) = W at *
    generalize D.tup L2 = TL at *
    generalize D.lst L2 = LL at *
    simp [tu5, e6, e7, ex, ed, l0, l6]
  · refine ⟨.tup L2, 4, .val (.lst L2), .val (.lst (ws.map .str)), c6, by decide, sT, v6.mono (by omega), fun r => ?_⟩
    rw [front]
    refine seq_nx ?_ rfl
    clear front s4 s3 s2 s1 s0 e5 e3
    generalize D.lst (ws.map .str) = W at *
    generalize D.tup L2 = TL at *
    generalize D.lst L2 = LL at *
    simp [tu5, e6, hb]
theorem right (c : Cell) (hv : Vat 0 c) : ∃ c', r__law_right [.io 0] [c] = .rt (.val (.bl true)) [c'] := by
  obtain ⟨_, c2, _, v2, e2⟩ := forD_vat (p := .nm 1) (f := wipeO [1, 2, 3, 4, 5, 6, 7, 8, 9] b__law_right_1) (fun i : Nat => .int (0 + (i : Int))) (fun (_ : Unit) c => (⟨[.io 0, .no, .no, .no, .no, .no, .no, .no, .no, .no, .no], [c]⟩ : S)) (fun _ _ => True) 1300 0 (List.range 5) () c hv (by simp) trivial
    (fun pre i post _ _ c m _ hm hb => by
      obtain ⟨d, k, T, W, c', hk, sd, v', h⟩ := half1 (.int (0 + (i : Int))) hm hb
      obtain ⟨x7, x8, h2⟩ := half2 hk sd (.int (0 + (i : Int))) T W c'
      refine ⟨(), c', S0 (.int (0 + (i : Int))) .no .no .no .no .no c, rfl, ?_, trivial, v'.mono (by omega)⟩
      rw [tu_eq, q_wipeO, h, h2]
      rfl)
  have hr : rng1 [.int 5] = some (rngD 0 5) := rng1_nat 5 (by decide)
  have e2 : forD (.nm 1) (wipeO [1, 2, 3, 4, 5, 6, 7, 8, 9] b__law_right_1) (rngD 0 5) ⟨[.io 0, .no, .no, .no, .no, .no, .no, .no, .no, .no, .no], [c]⟩ = .nx ⟨[.io 0, .no, .no, .no, .no, .no, .no, .no, .no, .no, .no], [c2]⟩ := e2
  refine ⟨c2, fn_of (s1 := ⟨[.io 0, .no, .no, .no, .no, .no, .no, .no, .no, .no, .no], [c2]⟩) ?_⟩
  refine seq_nx (for_of (ds := rngD 0 5) (s1 := ⟨[.io 0, .no, .no, .no, .no, .no, .no, .no, .no, .no, .no], [c]⟩) (by simp [hr, List.replicate]) e2) ?_
  simp
theorem law_true (ns : List Int) (hl : ns.length ≤ 63) : ∃ io, r_law [.val (.lst (ns.map .int))] [] = .rt (.val (.bl true)) io := law_of 5 (by decide) (by decide) rfl rfl rfl right ns hl
end Wk
set_option maxHeartbeats 4000000
namespace Wk
open PySem PySem.Spec PyProof.Rows L2 DL
def top (i : Nat) : Stmt := PySem.Challenge.pw_budgetfolds_k03_functions_refused.main.body.getD i (.Pass ⟨0, 0, 0, 0⟩)
theorem bo_ArithmeticError : bootBuiltins "ArithmeticError" = some (.type "ArithmeticError") := by kernel_rfl
theorem bo_LookupError : bootBuiltins "LookupError" = some (.type "LookupError") := by kernel_rfl
theorem bo_ValueError : bootBuiltins "ValueError" = some (.type "ValueError") := by kernel_rfl
theorem bo_abs : bootBuiltins "abs" = some (.builtin "abs") := by kernel_rfl
theorem bo_all : bootBuiltins "all" = some (.builtin "all") := by kernel_rfl
theorem bo_bool : bootBuiltins "bool" = some (.type "bool") := by kernel_rfl
theorem bo_divmod : bootBuiltins "divmod" = some (.builtin "divmod") := by kernel_rfl
theorem bo_int : bootBuiltins "int" = some (.type "int") := by kernel_rfl
theorem bo_isinstance : bootBuiltins "isinstance" = some (.builtin "isinstance") := by kernel_rfl
theorem bo_len : bootBuiltins "len" = some (.builtin "len") := by kernel_rfl
theorem bo_list : bootBuiltins "list" = some (.type "list") := by kernel_rfl
theorem bo_max : bootBuiltins "max" = some (.builtin "max") := by kernel_rfl
theorem bo_min : bootBuiltins "min" = some (.builtin "min") := by kernel_rfl
theorem bo_repr : bootBuiltins "repr" = some (.builtin "repr") := by kernel_rfl
theorem bo_str : bootBuiltins "str" = some (.type "str") := by kernel_rfl
theorem bo_tuple : bootBuiltins "tuple" = some (.type "tuple") := by kernel_rfl
structure Gs (K : PySem.W.Frag) (mg : PySem.Str → Option Value) : Prop where
  f_ArithmeticError : mg "ArithmeticError" = none
  f_LookupError : mg "LookupError" = none
  f_ValueError : mg "ValueError" = none
  f_abs : mg "abs" = none
  f_all : mg "all" = none
  f_bool : mg "bool" = none
  f_divmod : mg "divmod" = none
  f_enumerate : mg "enumerate" = none
  f_int : mg "int" = none
  f_isinstance : mg "isinstance" = none
  f_len : mg "len" = none
  f_list : mg "list" = none
  f_max : mg "max" = none
  f_min : mg "min" = none
  f_range : mg "range" = none
  f_repr : mg "repr" = none
  f_str : mg "str" = none
  f_tuple : mg "tuple" = none
  k_LETTERS : Cst K mg "LETTERS" (.str "abcdefghijklmnopqrstuvwxyz")
  k_MOST_CALLS : Cst K mg "MOST_CALLS" (.int 4)
  k_MOST_FUNCTIONS : Cst K mg "MOST_FUNCTIONS" (.int 6)
  k_MOST_SIZE : Cst K mg "MOST_SIZE" (.int 50)
  k_MOST_TIMES : Cst K mg "MOST_TIMES" (.int 9)
  c_Program : Cls K (He.ga K "Program")
  g_Program : mg "Program" = some (.ref (He.ga K "Program"))
  g_Broken : mg "Broken" = some (.ref (He.ga K "Broken"))
  g_CannotBe : mg "CannotBe" = some (.ref (He.ga K "CannotBe"))
  g_InUse : mg "InUse" = some (.ref (He.ga K "InUse"))
  g_InvalidChanges : mg "InvalidChanges" = some (.ref (He.ga K "InvalidChanges"))
  g_InvalidChoice : mg "InvalidChoice" = some (.ref (He.ga K "InvalidChoice"))
  g_InvalidClaim : mg "InvalidClaim" = some (.ref (He.ga K "InvalidClaim"))
  g_InvalidFunctions : mg "InvalidFunctions" = some (.ref (He.ga K "InvalidFunctions"))
  g_InvalidName : mg "InvalidName" = some (.ref (He.ga K "InvalidName"))
  g_InvalidNumber : mg "InvalidNumber" = some (.ref (He.ga K "InvalidNumber"))
  g_InvalidPart : mg "InvalidPart" = some (.ref (He.ga K "InvalidPart"))
  g_InvalidPlace : mg "InvalidPlace" = some (.ref (He.ga K "InvalidPlace"))
  g_InvalidRules : mg "InvalidRules" = some (.ref (He.ga K "InvalidRules"))
  g_InvalidSeen : mg "InvalidSeen" = some (.ref (He.ga K "InvalidSeen"))
  g_InvalidSite : mg "InvalidSite" = some (.ref (He.ga K "InvalidSite"))
  g_InvalidText : mg "InvalidText" = some (.ref (He.ga K "InvalidText"))
  g_InvalidWish : mg "InvalidWish" = some (.ref (He.ga K "InvalidWish"))
  g_NotAProgram : mg "NotAProgram" = some (.ref (He.ga K "NotAProgram"))
  g_NotARule : mg "NotARule" = some (.ref (He.ga K "NotARule"))
  g_NotOpen : mg "NotOpen" = some (.ref (He.ga K "NotOpen"))
  g_NotRight : mg "NotRight" = some (.ref (He.ga K "NotRight"))
  g_NotThere : mg "NotThere" = some (.ref (He.ga K "NotThere"))
  g_NothingToUndo : mg "NothingToUndo" = some (.ref (He.ga K "NothingToUndo"))
  g_OverBudget : mg "OverBudget" = some (.ref (He.ga K "OverBudget"))
  g_TooMany : mg "TooMany" = some (.ref (He.ga K "TooMany"))
  g_UnknownName : mg "UnknownName" = some (.ref (He.ga K "UnknownName"))
  na_Program_bodies : NoAttr K (He.ga K "Program") "bodies"
  isi : Isi K cls
  sysm : (K.lookup sysModules).isSome = true
structure Gx (P : Program) (K : PySem.W.Frag) : Prop where
  x_InvalidFunctions : XC K P "InvalidFunctions" "index"
  ise : IsE K csX nsX tsX
  exm : ∀ c, csX.contains c = true → PySem.W.exmAny K (.ref (He.ga K c)) [.ref (He.ga K "NotRight"), .ref (He.ga K "NotThere"), .ref (He.ga K "CannotBe")] = some true
section
variable {P : Program} {w : World} {K : PySem.W.Frag} {mg : PySem.Str → Option Value} {base : Heap}
def n__law_ladle : List PySem.Str := ["_law_vat_here", "_law_many", "_law_blend", "_law_digit"]
theorem sc__law_ladle : FnScope n__law_ladle ["_law_vat_here", "_law_many"] (defScope (top 51)) := ⟨rfl, rfl, rfl, by decide +kernel, rfl, by decide +kernel, by decide +kernel⟩
theorem ok__law_ladle {f : Addr} {fd : FuncData} (F : FunD K "_law_ladle" "_law_ladle" (defArgs (top 51)) (defBody (top 51)) (defScope (top 51)) [] [] f fd) (G : Gs K mg) (GX : Gx P K) : FnG true P w K mg base (L2.CX P w) 1 f fd ["_law_vat_here", "_law_many"] (spD K 2 r__law_ladle) := by
  refine FunD.g (N := n__law_ladle) F sc__law_ladle fun cdv A outer s H E C hgd hr hK px pw => ?_
  exact (db_cons (ds_if (dt_cmp hK o_gt (d_ixP hK (pv 0) d_int) d_int) (db_cons (ds_asg (pt := (.tp (.cons (.ix 0 0) (.cons (.nm 3) .nil)))) hK (d_callB hK c_divmod G.f_divmod bo_divmod (da_cons (d_ixP hK (pv 0) d_int) (da_cons (d_var (pv 1)) da_nil))) (pg_tp rfl (pgs_cn (pg_ixk (pv 0)) (pgs_cn (pg_nm (nm 3 sc__law_ladle.nd)) pgs_nl))))
    (db_one (ds_ret (d_var (pv 3))))) db_nil)
    (db_cons (ds_setIx hK (pv 0) d_int (d_op hK o_add (d_ixP hK (pv 0) d_int) d_int))
    (db_cons (ds_set (nm 2 sc__law_ladle.nd) (d_op hK o_add (d_op hK o_mul (d_ixP hK (pv 0) d_int) d_int) (d_op hK o_mul (d_op hK o_mul d_int (d_ixP hK (pv 0) d_int)) (d_ixP hK (pv 0) d_int))))
    (db_cons (ds_setIx hK (pv 0) d_int (d_op hK o_mod (d_callT hK c_int G.f_int bo_int (da_cons (d_var (pv 2)) da_nil)) d_int))
    (db_one (ds_ret (d_op hK o_mod (d_callT hK c_int G.f_int bo_int (da_cons (d_op hK o_fdiv (d_ixP hK (pv 0) d_int) d_int) da_nil)) (d_var (pv 1)))))))))
def n__law_words : List PySem.Str := ["_law_vat_here", "_law_many", "_law_found", "_law_at", "_law_letters", "_law_known", "_law_term", "_law_more", "_law_each", "_law_turn"]
theorem sc__law_words : FnScope n__law_words ["_law_vat_here", "_law_many"] (defScope (top 52)) := ⟨rfl, rfl, rfl, by decide +kernel, rfl, by decide +kernel, by decide +kernel⟩
theorem ok__law_words {f : Addr} {fd : FuncData} (F : FunD K "_law_words" "_law_words" (defArgs (top 52)) (defBody (top 52)) (defScope (top 52)) [] [] f fd) (G : Gs K mg) (GX : Gx P K) (h__law_ladle : CallOk true P w K mg base 1 "_law_ladle" 2 [] r__law_ladle) : FnG true P w K mg base (L2.CX P w) 2 f fd ["_law_vat_here", "_law_many"] (spD K 2 r__law_words) := by
  refine FunD.g (N := n__law_words) F sc__law_words fun cdv A outer s H E C hgd hr hK px pw => ?_
  exact (db_cons (ds_par2 rfl (nm 4 sc__law_words.nd) (nm 5 sc__law_words.nd) (by decide) rfl rfl (rs_val d_str (rs_val (d_lst (da_cons d_str (da_cons d_str (da_cons d_str (da_cons d_str (da_cons d_str (da_cons d_str (da_cons d_str (da_cons d_str da_nil))))))))) rs_nil)))
    (db_cons (ds_setO (nm 2 sc__law_words.nd) (o_lst da_nil))
    (db_cons (ds_forW (pt := (.nm 3)) [3, 6, 7] hK pw rfl (di_range1 rfl G.f_range (da_cons (d_var (pv 1)) da_nil)) (pg_nm (nm 3 sc__law_words.nd)) (db_cons (ds_set (nm 6 sc__law_words.nd) d_str)
    (db_cons (ds_forW (pt := (.nm 7)) [7] hK pw rfl (di_range1 rfl G.f_range (da_cons (d_ix hK (d_lst (da_cons d_int (da_cons d_int (da_cons d_int (da_cons d_int da_nil))))) (d_of_r (r_call hK h__law_ladle hgd (hr.mono (by decide)) rfl px (g_sl (pv 0) (g_val d_int g_nil))))) da_nil)) (pg_nm (nm 7 sc__law_words.nd)) (db_one (ds_set (nm 6 sc__law_words.nd) (d_op hK o_add (d_var (pv 6)) (d_ix hK (d_var (pv 4)) (d_of_r (r_call hK h__law_ladle hgd (hr.mono (by decide)) rfl px (g_sl (pv 0) (g_val d_int g_nil)))))))))
    (db_cons (ds_if (dt_cmp hK (o_eq hr.units) (d_of_r (r_call hK h__law_ladle hgd (hr.mono (by decide)) rfl px (g_sl (pv 0) (g_val d_int g_nil)))) d_int) (db_one (ds_set (nm 6 sc__law_words.nd) (d_ix hK (d_var (pv 5)) (d_of_r (r_call hK h__law_ladle hgd (hr.mono (by decide)) rfl px (g_sl (pv 0) (g_val d_int g_nil))))))) db_nil)
    (db_cons (ds_if (dt_cmpP hK (o_in (un65 hr)) (d_var (pv 6)) (pv 2)) (db_one (ds_set (nm 6 sc__law_words.nd) (d_ix hK (d_lc (own := [("_law_each", 8)]) (pt := (.nm 8)) hK rfl sc__law_words.nd (di_of hK (d_lc (own := [("_law_turn", 9)]) (pt := (.nm 9)) hK rfl sc__law_words.nd (di_range1 rfl G.f_range (da_cons (d_var (pv 1)) da_nil)) (blkOk_by (N := n__law_words) (sc := defScope (top 52)) (by decide +kernel)) rfl (fun _ _ _ _ _ => (pg_nm (nm 9 sc__law_words.nd))) (fun C hK _ _ _ _ _ => dts_nil) (fun C hK _ _ _ _ _ => (d_op hK o_mul d_str (d_op hK o_add (d_var (pv 9)) d_int))))) (blkOk_by (N := n__law_words) (sc := defScope (top 52)) (by decide +kernel)) rfl (fun _ _ _ _ _ => (pg_nm (nm 8 sc__law_words.nd))) (fun C hK _ _ _ _ _ => (dts_one (dt_cmpP hK (o_notin (un65 hr)) (d_var (pv 8)) (pv 2)))) (fun C hK _ _ _ _ _ => (d_var (pv 8)))) d_int))) db_nil)
    (db_one (ds_app hK (pv 2) (d_var (pv 6)))))))))
    (db_one (ds_retO (o_var (pv 2)))))))
def n__law_table : List PySem.Str := ["_law_vat_here", "_law_most", "_law_wide", "_law_big", "_law_term", "_law_words_here", "_law_found", "_law_turn", "_law_rows_here", "_law_hops", "_law_called"]
theorem sc__law_table : FnScope n__law_table ["_law_vat_here", "_law_most", "_law_wide", "_law_big"] (defScope (top 53)) := ⟨rfl, rfl, rfl, by decide +kernel, rfl, by decide +kernel, by decide +kernel⟩
theorem ok__law_table {f : Addr} {fd : FuncData} (F : FunD K "_law_table" "_law_table" (defArgs (top 53)) (defBody (top 53)) (defScope (top 53)) [] [] f fd) (G : Gs K mg) (GX : Gx P K) (h__law_words : CallOk true P w K mg base 2 "_law_words" 2 [] r__law_words) (h__law_ladle : CallOk true P w K mg base 1 "_law_ladle" 2 [] r__law_ladle) : FnG true P w K mg base (L2.CX P w) 3 f fd ["_law_vat_here", "_law_most", "_law_wide", "_law_big"] (spD K 4 r__law_table) := by
  refine FunD.g (N := n__law_table) F sc__law_table fun cdv A outer s H E C hgd hr hK px pw => ?_
  exact (db_cons (ds_par2 rfl (nm 5 sc__law_table.nd) (nm 6 sc__law_table.nd) (by decide) rfl rfl (rs_val (d_of_r (r_call hK h__law_words hgd (hr.mono (by decide)) rfl px (g_sl (pv 0) (g_val (d_op hK o_add d_int (d_of_r (r_call hK h__law_ladle hgd (hr.mono (by decide)) rfl px (g_sl (pv 0) (g_val (d_var (pv 1)) g_nil))))) g_nil)))) (rs_own hK (o_lst da_nil) (fun C hK => rs_nil))))
    (db_cons (ds_forW (pt := (.nm 4)) [4, 7, 8, 9, 10] hK pw rfl (di_of hK (d_var (pv 5))) (pg_nm (nm 4 sc__law_table.nd)) (db_cons (ds_par2 rfl (nm 8 sc__law_table.nd) (nm 9 sc__law_table.nd) (by decide) rfl rfl (rs_val (d_op hK o_add d_int (d_of_r (r_call hK h__law_ladle hgd (hr.mono (by decide)) rfl px (g_sl (pv 0) (g_val (d_var (pv 3)) g_nil))))) (rs_own hK (o_lst da_nil) (fun C hK => rs_nil))))
    (db_cons (ds_forW (pt := (.nm 7)) [7, 10] hK pw rfl (di_range1 rfl G.f_range (da_cons (d_of_r (r_call hK h__law_ladle hgd (hr.mono (by decide)) rfl px (g_sl (pv 0) (g_val (d_op hK o_add (d_var (pv 2)) d_int) g_nil)))) da_nil)) (pg_nm (nm 7 sc__law_table.nd)) (db_cons (ds_set (nm 10 sc__law_table.nd) (d_ix hK (d_var (pv 5)) (d_of_r (r_call hK h__law_ladle hgd (hr.mono (by decide)) rfl px (g_sl (pv 0) (g_val (d_callB hK c_len G.f_len bo_len (da_cons (d_var (pv 5)) da_nil)) g_nil))))))
    (db_one (ds_app hK (pv 9) (d_tup (da_cons (d_var (pv 10)) (da_cons (d_ix hK (d_lst (da_cons d_int (da_cons d_int (da_cons d_int (da_cons (d_op hK o_add d_int (d_of_r (r_call hK h__law_ladle hgd (hr.mono (by decide)) rfl px (g_sl (pv 0) (g_val d_int g_nil))))) da_nil))))) (d_of_r (r_call hK h__law_ladle hgd (hr.mono (by decide)) rfl px (g_sl (pv 0) (g_val d_int g_nil))))) da_nil)))))))
    (db_one (ds_app hK (pv 6) (d_tup (da_cons (d_var (pv 4)) (da_cons (d_var (pv 8)) (da_cons (d_callT hK c_tuple G.f_tuple bo_tuple (da_cons (d_var (pv 9)) da_nil)) da_nil)))))))))
    (db_one (ds_ret (d_callT hK c_tuple G.f_tuple bo_tuple (da_cons (d_var (pv 6)) da_nil))))))
def n__law_odd : List PySem.Str := ["_law_vat_here", "_law_menu"]
theorem sc__law_odd : FnScope n__law_odd ["_law_vat_here"] (defScope (top 56)) := ⟨rfl, rfl, rfl, by decide +kernel, rfl, by decide +kernel, by decide +kernel⟩
theorem ok__law_odd {f : Addr} {fd : FuncData} (F : FunD K "_law_odd" "_law_odd" (defArgs (top 56)) (defBody (top 56)) (defScope (top 56)) [] [] f fd) (G : Gs K mg) (GX : Gx P K) (h__law_ladle : CallOk true P w K mg base 1 "_law_ladle" 2 [] r__law_ladle) : FnG true P w K mg base (L2.CX P w) 2 f fd ["_law_vat_here"] (spD K 1 r__law_odd) := by
  refine FunD.g (N := n__law_odd) F sc__law_odd fun cdv A outer s H E C hgd hr hK px pw => ?_
  exact (db_cons (ds_set (nm 1 sc__law_odd.nd) (d_lst (da_cons d_non (da_cons d_bl (da_cons d_bl (da_cons d_str (da_cons d_str (da_cons d_str (da_cons d_int (da_cons (d_neg d_int) (da_cons d_int (da_cons (d_op hK o_pow d_int d_int) (da_cons (d_tup da_nil) (da_cons (d_lst da_nil) (da_cons d_dict0 (da_cons (d_tup (da_cons d_int da_nil)) (da_cons (d_tup (da_cons d_str da_nil)) (da_cons (d_tup (da_cons d_str (da_cons d_int da_nil))) (da_cons (d_lst (da_cons d_str (da_cons d_int (da_cons (d_tup da_nil) da_nil)))) (da_cons (d_lst (da_cons d_int da_nil)) da_nil))))))))))))))))))))
    (db_one (ds_ret (d_ix hK (d_var (pv 1)) (d_of_r (r_call hK h__law_ladle hgd (hr.mono (by decide)) rfl px (g_sl (pv 0) (g_val d_int g_nil))))))))
def n__law_bent : List PySem.Str := ["_law_vat_here", "_law_one", "_law_words_here", "_law_way", "_law_called", "_law_hop", "_law_last"]
theorem sc__law_bent : FnScope n__law_bent ["_law_vat_here", "_law_one", "_law_words_here"] (defScope (top 61)) := ⟨rfl, rfl, rfl, by decide +kernel, rfl, by decide +kernel, by decide +kernel⟩
theorem ok__law_bent {f : Addr} {fd : FuncData} (F : FunD K "_law_bent" "_law_bent" (defArgs (top 61)) (defBody (top 61)) (defScope (top 61)) [] [] f fd) (G : Gs K mg) (GX : Gx P K) (h__law_ladle : CallOk true P w K mg base 1 "_law_ladle" 2 [] r__law_ladle) (h__law_odd : CallOk true P w K mg base 2 "_law_odd" 1 [] r__law_odd) : FnG true P w K mg base (L2.CX P w) 3 f fd ["_law_vat_here", "_law_one", "_law_words_here"] (spD K 3 r__law_bent) := by
  refine FunD.g (N := n__law_bent) F sc__law_bent fun cdv A outer s H E C hgd hr hK px pw => ?_
  exact (db_cons (ds_set (nm 3 sc__law_bent.nd) (d_of_r (r_call hK h__law_ladle hgd (hr.mono (by decide)) rfl px (g_sl (pv 0) (g_val d_int g_nil)))))
    (db_cons (ds_if (dt_cmp hK (o_eq hr.units) (d_var (pv 3)) d_int) (db_one (ds_retR (r_call hK h__law_odd hgd (hr.mono (by decide)) rfl px (g_sl (pv 0) g_nil)))) db_nil)
    (db_cons (ds_if (dt_cmp hK (o_eq hr.units) (d_var (pv 3)) d_int) (db_one (ds_ret (d_tup (da_cons (d_ix hK (d_var (pv 1)) d_int) (da_cons (d_ix hK (d_lst (da_cons d_int (da_cons d_int (da_cons d_bl (da_cons d_non (da_cons d_str (da_cons (d_neg d_int) (da_cons d_int (da_cons d_int da_nil))))))))) (d_of_r (r_call hK h__law_ladle hgd (hr.mono (by decide)) rfl px (g_sl (pv 0) (g_val d_int g_nil))))) (da_cons (d_ix hK (d_var (pv 1)) d_int) da_nil)))))) db_nil)
    (db_cons (ds_if (dt_cmp hK (o_eq hr.units) (d_var (pv 3)) d_int) (db_one (ds_ret (d_tup (da_cons (d_ix hK (d_lst (da_cons d_non (da_cons d_str (da_cons d_str (da_cons d_str (da_cons d_str (da_cons d_str (da_cons (d_tup (da_cons d_str da_nil)) (da_cons d_str da_nil))))))))) (d_of_r (r_call hK h__law_ladle hgd (hr.mono (by decide)) rfl px (g_sl (pv 0) (g_val d_int g_nil))))) (da_cons (d_ix hK (d_var (pv 1)) d_int) (da_cons (d_ix hK (d_var (pv 1)) d_int) da_nil)))))) db_nil)
    (db_cons (ds_if (dt_cmp hK (o_eq hr.units) (d_var (pv 3)) d_int) (db_one (ds_ret (d_tup (da_cons (d_ix hK (d_var (pv 2)) (d_of_r (r_call hK h__law_ladle hgd (hr.mono (by decide)) rfl px (g_sl (pv 0) (g_val (d_callB hK c_len G.f_len bo_len (da_cons (d_var (pv 2)) da_nil)) g_nil))))) (da_cons (d_ix hK (d_var (pv 1)) d_int) (da_cons (d_ix hK (d_var (pv 1)) d_int) da_nil)))))) db_nil)
    (db_cons (ds_if (dt_cmp hK (o_eq hr.units) (d_var (pv 3)) d_int) (db_one (ds_ret (d_ix hK (d_lst (da_cons (d_callTL hK c_list G.f_list bo_list (da_cons (d_var (pv 1)) da_nil)) (da_cons (d_op hK o_add (d_var (pv 1)) (d_tup (da_cons d_int da_nil))) (da_cons (d_slice hK (d_var (pv 1)) dp_none (dp_some d_int)) (da_cons (d_rev hK (d_var (pv 1))) da_nil))))) (d_of_r (r_call hK h__law_ladle hgd (hr.mono (by decide)) rfl px (g_sl (pv 0) (g_val d_int g_nil))))))) db_nil)
    (db_cons (ds_if (dt_cmp hK (o_eq hr.units) (d_var (pv 3)) d_int) (db_one (ds_ret (d_op hK o_add (d_slice hK (d_var (pv 1)) dp_none (dp_some d_int)) (d_tup (da_cons (d_ix hK (d_lst (da_cons (d_callTL hK c_list G.f_list bo_list (da_cons (d_ix hK (d_var (pv 1)) d_int) da_nil)) (da_cons d_non (da_cons (d_op hK o_add (d_op hK o_mul (d_ix hK (d_var (pv 1)) d_int) d_int) (d_op hK o_mulT (d_tup (da_cons (d_tup (da_cons d_str (da_cons d_int da_nil))) da_nil)) d_int)) (da_cons d_str (da_cons d_int da_nil)))))) (d_of_r (r_call hK h__law_ladle hgd (hr.mono (by decide)) rfl px (g_sl (pv 0) (g_val d_int g_nil))))) da_nil))))) db_nil)
    (db_cons (ds_if (dt_cmp hK o_lt (d_var (pv 3)) d_int) (db_cons (ds_set (nm 4 sc__law_bent.nd) (d_ix hK (d_lst (da_cons (d_ix hK (d_var (pv 2)) (d_of_r (r_call hK h__law_ladle hgd (hr.mono (by decide)) rfl px (g_sl (pv 0) (g_val (d_callB hK c_len G.f_len bo_len (da_cons (d_var (pv 2)) da_nil)) g_nil))))) (da_cons d_str (da_cons d_str (da_cons d_str (da_cons (d_ix hK (d_var (pv 2)) d_int) da_nil)))))) (d_of_r (r_call hK h__law_ladle hgd (hr.mono (by decide)) rfl px (g_sl (pv 0) (g_val d_int g_nil))))))
    (db_cons (ds_set (nm 5 sc__law_bent.nd) (d_tup (da_cons (d_var (pv 4)) (da_cons (d_ix hK (d_lst (da_cons d_int (da_cons d_int (da_cons d_int (da_cons d_int (da_cons d_bl (da_cons d_non (da_cons d_str (da_cons d_int da_nil))))))))) (d_of_r (r_call hK h__law_ladle hgd (hr.mono (by decide)) rfl px (g_sl (pv 0) (g_val d_int g_nil))))) da_nil))))
    (db_cons (ds_set (nm 6 sc__law_bent.nd) (d_ix hK (d_lst (da_cons (d_var (pv 5)) (da_cons (d_var (pv 5)) (da_cons (d_var (pv 5)) (da_cons (d_callTL hK c_list G.f_list bo_list (da_cons (d_var (pv 5)) da_nil)) (da_cons (d_slice hK (d_var (pv 5)) dp_none (dp_some d_int)) (da_cons (d_op hK o_add (d_var (pv 5)) (d_tup (da_cons d_int da_nil))) da_nil))))))) (d_of_r (r_call hK h__law_ladle hgd (hr.mono (by decide)) rfl px (g_sl (pv 0) (g_val d_int g_nil))))))
    (db_one (ds_ret (d_op hK o_add (d_slice hK (d_var (pv 1)) dp_none (dp_some d_int)) (d_tup (da_cons (d_slice hK (d_op hK o_add (d_ix hK (d_var (pv 1)) d_int) (d_tup (da_cons (d_var (pv 6)) da_nil))) (dp_some (d_neg d_int)) dp_none) da_nil)))))))) db_nil)
    (db_one (ds_ret (d_var (pv 1))))))))))))
def n__law_bases : List PySem.Str := ["_law_e", "_law_own", "_law_plain"]
theorem sc__law_bases : FnScope n__law_bases ["_law_e"] (defScope (top 57)) := ⟨rfl, rfl, rfl, by decide +kernel, rfl, by decide +kernel, by decide +kernel⟩
theorem ok__law_bases {f : Addr} {fd : FuncData} (F : FunD K "_law_bases" "_law_bases" (defArgs (top 57)) (defBody (top 57)) (defScope (top 57)) [] [] f fd) (G : Gs K mg) (GX : Gx P K) : FnT true P w K mg base (L2.CX P w) 1 f fd ["_law_e"] (spD K 1 r__law_bases) := by
  refine FunD.t (N := n__law_bases) F sc__law_bases fun cdv A outer s H E C hgd hr hK px => ?_
  exact (db_cons (ds_set (nm 1 sc__law_bases.nd) (d_lst (da_cons (d_callB hK (c_isE GX.ise) G.f_isinstance bo_isinstance (da_cons (d_var (pv 0)) (da_cons (d_glo hK G.g_NotRight) da_nil))) (da_cons (d_callB hK (c_isE GX.ise) G.f_isinstance bo_isinstance (da_cons (d_var (pv 0)) (da_cons (d_glo hK G.g_NotThere) da_nil))) (da_cons (d_callB hK (c_isE GX.ise) G.f_isinstance bo_isinstance (da_cons (d_var (pv 0)) (da_cons (d_glo hK G.g_CannotBe) da_nil))) da_nil)))))
    (db_cons (ds_set (nm 2 sc__law_bases.nd) (d_lst (da_cons (d_callB hK (c_isE GX.ise) G.f_isinstance bo_isinstance (da_cons (d_var (pv 0)) (da_cons (d_ty G.f_ValueError bo_ValueError) da_nil))) (da_cons (d_callB hK (c_isE GX.ise) G.f_isinstance bo_isinstance (da_cons (d_var (pv 0)) (da_cons (d_ty G.f_LookupError bo_LookupError) da_nil))) (da_cons (d_callB hK (c_isE GX.ise) G.f_isinstance bo_isinstance (da_cons (d_var (pv 0)) (da_cons (d_ty G.f_ArithmeticError bo_ArithmeticError) da_nil))) da_nil)))))
    (db_one (ds_ret (d_if (dt_cmp hK (o_eq (hUn hr)) (d_var (pv 1)) (d_var (pv 2))) (d_var (pv 1)) (d_lst da_nil))))))
def n__law_class : List PySem.Str := ["_law_e", "_law_marks", "_law_at", "_law_terms"]
theorem sc__law_class : FnScope n__law_class ["_law_e"] (defScope (top 58)) := ⟨rfl, rfl, rfl, by decide +kernel, rfl, by decide +kernel, by decide +kernel⟩
theorem ok__law_class {f : Addr} {fd : FuncData} (F : FunD K "_law_class" "_law_class" (defArgs (top 58)) (defBody (top 58)) (defScope (top 58)) [] [] f fd) (G : Gs K mg) (GX : Gx P K) (h__law_bases : CallT true P w K mg base 1 "_law_bases" 1 [] r__law_bases) : FnT true P w K mg base (L2.CX P w) 2 f fd ["_law_e"] (spD K 1 r__law_class) := by
  refine FunD.t (N := n__law_class) F sc__law_class fun cdv A outer s H E C hgd hr hK px => ?_
  exact (db_cons (ds_set (nm 1 sc__law_class.nd) (d_lst (da_cons (d_callB hK (c_isE GX.ise) G.f_isinstance bo_isinstance (da_cons (d_var (pv 0)) (da_cons (d_glo hK G.g_InvalidText) da_nil))) (da_cons (d_callB hK (c_isE GX.ise) G.f_isinstance bo_isinstance (da_cons (d_var (pv 0)) (da_cons (d_glo hK G.g_InvalidPart) da_nil))) (da_cons (d_callB hK (c_isE GX.ise) G.f_isinstance bo_isinstance (da_cons (d_var (pv 0)) (da_cons (d_glo hK G.g_InvalidNumber) da_nil))) da_nil)))))
    (db_cons (ds_set (nm 1 sc__law_class.nd) (d_op hK o_add (d_var (pv 1)) (d_lst (da_cons (d_callB hK (c_isE GX.ise) G.f_isinstance bo_isinstance (da_cons (d_var (pv 0)) (da_cons (d_glo hK G.g_InvalidSite) da_nil))) (da_cons (d_callB hK (c_isE GX.ise) G.f_isinstance bo_isinstance (da_cons (d_var (pv 0)) (da_cons (d_glo hK G.g_InvalidChoice) da_nil))) (da_cons (d_callB hK (c_isE GX.ise) G.f_isinstance bo_isinstance (da_cons (d_var (pv 0)) (da_cons (d_glo hK G.g_InvalidName) da_nil))) da_nil))))))
    (db_cons (ds_set (nm 1 sc__law_class.nd) (d_op hK o_add (d_var (pv 1)) (d_lst (da_cons (d_callB hK (c_isE GX.ise) G.f_isinstance bo_isinstance (da_cons (d_var (pv 0)) (da_cons (d_glo hK G.g_InvalidWish) da_nil))) (da_cons (d_callB hK (c_isE GX.ise) G.f_isinstance bo_isinstance (da_cons (d_var (pv 0)) (da_cons (d_glo hK G.g_InvalidClaim) da_nil))) (da_cons (d_callB hK (c_isE GX.ise) G.f_isinstance bo_isinstance (da_cons (d_var (pv 0)) (da_cons (d_glo hK G.g_InvalidPlace) da_nil))) da_nil))))))
    (db_cons (ds_set (nm 1 sc__law_class.nd) (d_op hK o_add (d_var (pv 1)) (d_lst (da_cons (d_callB hK (c_isE GX.ise) G.f_isinstance bo_isinstance (da_cons (d_var (pv 0)) (da_cons (d_glo hK G.g_NotAProgram) da_nil))) (da_cons (d_callB hK (c_isE GX.ise) G.f_isinstance bo_isinstance (da_cons (d_var (pv 0)) (da_cons (d_glo hK G.g_NotARule) da_nil))) (da_cons (d_callB hK (c_isE GX.ise) G.f_isinstance bo_isinstance (da_cons (d_var (pv 0)) (da_cons (d_glo hK G.g_InvalidFunctions) da_nil))) da_nil))))))
    (db_cons (ds_set (nm 1 sc__law_class.nd) (d_op hK o_add (d_var (pv 1)) (d_lst (da_cons (d_callB hK (c_isE GX.ise) G.f_isinstance bo_isinstance (da_cons (d_var (pv 0)) (da_cons (d_glo hK G.g_InvalidRules) da_nil))) (da_cons (d_callB hK (c_isE GX.ise) G.f_isinstance bo_isinstance (da_cons (d_var (pv 0)) (da_cons (d_glo hK G.g_InvalidSeen) da_nil))) (da_cons (d_callB hK (c_isE GX.ise) G.f_isinstance bo_isinstance (da_cons (d_var (pv 0)) (da_cons (d_glo hK G.g_InvalidChanges) da_nil))) da_nil))))))
    (db_cons (ds_set (nm 1 sc__law_class.nd) (d_op hK o_add (d_var (pv 1)) (d_lst (da_cons (d_callB hK (c_isE GX.ise) G.f_isinstance bo_isinstance (da_cons (d_var (pv 0)) (da_cons (d_glo hK G.g_UnknownName) da_nil))) (da_cons (d_callB hK (c_isE GX.ise) G.f_isinstance bo_isinstance (da_cons (d_var (pv 0)) (da_cons (d_glo hK G.g_InUse) da_nil))) (da_cons (d_callB hK (c_isE GX.ise) G.f_isinstance bo_isinstance (da_cons (d_var (pv 0)) (da_cons (d_glo hK G.g_NotOpen) da_nil))) (da_cons (d_callB hK (c_isE GX.ise) G.f_isinstance bo_isinstance (da_cons (d_var (pv 0)) (da_cons (d_glo hK G.g_TooMany) da_nil))) da_nil)))))))
    (db_cons (ds_set (nm 1 sc__law_class.nd) (d_op hK o_add (d_var (pv 1)) (d_lst (da_cons (d_callB hK (c_isE GX.ise) G.f_isinstance bo_isinstance (da_cons (d_var (pv 0)) (da_cons (d_glo hK G.g_OverBudget) da_nil))) (da_cons (d_callB hK (c_isE GX.ise) G.f_isinstance bo_isinstance (da_cons (d_var (pv 0)) (da_cons (d_glo hK G.g_NothingToUndo) da_nil))) (da_cons (d_callB hK (c_isE GX.ise) G.f_isinstance bo_isinstance (da_cons (d_var (pv 0)) (da_cons (d_glo hK G.g_Broken) da_nil))) da_nil))))))
    (db_cons (ds_if (dt_cmp hK (o_ne (hUn hr)) (d_metL hK (m_count (hUn5 hr)) (d_var (pv 1)) (da_cons d_bl da_nil)) d_int) (db_one (ds_ret d_str)) db_nil)
    (db_cons (ds_set (nm 2 sc__law_class.nd) (d_metL hK (m_index (hUn5 hr)) (d_var (pv 1)) (da_cons d_bl da_nil)))
    (db_cons (ds_if (dt_cmp hK (o_ne (hUn hr)) (d_of_r (r_callT hK h__law_bases hgd (hr.mono (by decide)) rfl px (g_val (d_var (pv 0)) g_nil))) (d_lst (da_cons (d_cmp hK o_lt (d_var (pv 2)) d_int) (da_cons (d_chain hK o_lt o_lt d_int (d_var (pv 2)) d_int) (da_cons (d_cmp hK o_gt (d_var (pv 2)) d_int) da_nil))))) (db_one (ds_ret d_str)) db_nil)
    (db_cons (ds_set (nm 3 sc__law_class.nd) (d_lst (da_cons d_str (da_cons d_str (da_cons d_str (da_cons d_str (da_cons d_str (da_cons d_str (da_cons d_str (da_cons d_str (da_cons d_str (da_cons d_str (da_cons d_str da_nil)))))))))))))
    (db_cons (ds_set (nm 3 sc__law_class.nd) (d_op hK o_add (d_var (pv 3)) (d_lst (da_cons d_str (da_cons d_str (da_cons d_str (da_cons d_str (da_cons d_str (da_cons d_str (da_cons d_str (da_cons d_str (da_cons d_str (da_cons d_str da_nil)))))))))))))
    (db_one (ds_ret (d_ix hK (d_op hK o_add (d_var (pv 3)) (d_lst (da_cons d_str da_nil))) (d_var (pv 2)))))))))))))))))
def n__law_told : List PySem.Str := ["_law_act", "_law_back", "_law_kind", "_law_e"]
theorem sc__law_told : FnScope n__law_told ["_law_act"] (defScope (top 59)) := ⟨rfl, rfl, rfl, by decide +kernel, rfl, by decide +kernel, by decide +kernel⟩
theorem ok__law_told {f : Addr} {fd : FuncData} (F : FunD K "_law_told" "_law_told" (defArgs (top 59)) (defBody (top 59)) (defScope (top 59)) [] [] f fd) (hx : mg "_law_told" = some (.ref f)) (hb : Binds K fd ["_law_act"] []) (G : Gs K mg) (GX : Gx P K) (h__law_class : CallT true P w K mg base 2 "_law_class" 1 [] r__law_class) : ToldOk true P w K mg base 8 "_law_told" "_law_act" csX 4 1 3 b__law_told_R b__law_told_S := by
  refine told_mk (Ng := n__law_told) (cs := csX) F sc__law_told hx hb rfl (by first | exact .inl rfl | exact .inr (.inl rfl)) rfl rfl rfl rfl rfl rfl rfl rfl rfl rfl G.g_NotRight G.g_NotThere G.g_CannotBe GX.exm (fun cdv A stack ae pn s H C hgd hr hK px => ?_) (fun cdv A stack s H C hgd hr hK px => ?_)
  · exact (db_cons (ds_set (nm 2 sc__law_told.nd) (d_of_r (r_callT hK h__law_class hgd (hr.mono (by decide)) rfl px (g_val (d_var (pv 3)) g_nil))))
    (db_cons (ds_if (dt_cmp hK (o_in (hUn5 hr)) (d_var (pv 2)) (d_lst (da_cons d_str (da_cons d_str (da_cons d_str (da_cons d_str da_nil)))))) (db_one (ds_retO (o_lst (da_cons (d_var (pv 2)) (da_cons (d_callB hK (c_reprZ (hgd rfl) (hUn5 hr)) G.f_repr bo_repr (da_cons (d_exf hK GX.ise (d_var (pv 3))) da_nil)) da_nil))))) db_nil)
    (db_cons (ds_if (dt_cmp hK (o_in (hUn5 hr)) (d_var (pv 2)) (d_lst (da_cons d_str (da_cons d_str da_nil)))) (db_one (ds_retO (o_lst (da_cons (d_var (pv 2)) (da_cons (d_callB hK (c_reprZ (hgd rfl) (hUn5 hr)) G.f_repr bo_repr (da_cons (d_exf hK GX.ise (d_var (pv 3))) da_nil)) da_nil))))) db_nil)
    (db_one (ds_retO (o_lst (da_cons (d_var (pv 2)) (da_cons (d_if (dt_cmp hK (o_in (hUn5 hr)) (d_var (pv 2)) (d_lst (da_cons d_str (da_cons d_str (da_cons d_str (da_cons d_str da_nil)))))) d_str (d_callB hK (c_reprZ (hgd rfl) (hUn5 hr)) G.f_repr bo_repr (da_cons (d_exf hK GX.ise (d_var (pv 3))) da_nil))) da_nil))))))))
  · exact (db_one (ds_retO (o_lst (da_cons d_str (da_cons (d_callB hK (c_reprZ (hgd rfl) (un65 hr)) G.f_repr bo_repr (da_cons (d_var (pv 1)) da_nil)) da_nil)))))
def n__law_is_name : List PySem.Str := ["_law_thing", "_law_sign"]
theorem sc__law_is_name : FnScope n__law_is_name ["_law_thing"] (defScope (top 55)) := ⟨rfl, rfl, rfl, by decide +kernel, rfl, by decide +kernel, by decide +kernel⟩
theorem ok__law_is_name {f : Addr} {fd : FuncData} (F : FunD K "_law_is_name" "_law_is_name" (defArgs (top 55)) (defBody (top 55)) (defScope (top 55)) [] [] f fd) (G : Gs K mg) (GX : Gx P K) : FnG true P w K mg base (L2.CX P w) 1 f fd ["_law_thing"] (spD K 1 r__law_is_name) := by
  refine FunD.g (N := n__law_is_name) F sc__law_is_name fun cdv A outer s H E C hgd hr hK px pw => ?_
  exact (db_cons (ds_if (dt_pw (dw_or (dt_not (dt_truth hK (d_callB hK (c_isi G.isi) G.f_isinstance bo_isinstance (da_cons (d_var (pv 0)) (da_cons (d_ty G.f_str bo_str) da_nil))))) (dw_or1 (dt_not (dt_chain hK o_le o_le d_int (d_callB hK c_len G.f_len bo_len (da_cons (d_var (pv 0)) da_nil)) d_int))))) (db_one (ds_ret d_bl)) db_nil)
    (db_one (ds_ret (d_cmp hK (o_eq hr.units) (d_lc (own := [("_law_sign", 1)]) (pt := (.nm 1)) hK rfl sc__law_is_name.nd (di_of hK (d_var (pv 0))) (blkOk_by (N := n__law_is_name) (sc := defScope (top 55)) (by decide +kernel)) rfl (fun _ _ _ _ _ => (pg_nm (nm 1 sc__law_is_name.nd))) (fun C hK _ _ _ _ _ => (dts_one (dt_cmp hK (o_notin (un65 hr)) (d_var (pv 1)) d_str))) (fun C hK _ _ _ _ _ => (d_var (pv 1)))) (d_lst da_nil)))))
def n__law_within : List PySem.Str := ["_law_thing", "_law_least", "_law_most"]
theorem sc__law_within : FnScope n__law_within ["_law_thing", "_law_least", "_law_most"] (defScope (top 54)) := ⟨rfl, rfl, rfl, by decide +kernel, rfl, by decide +kernel, by decide +kernel⟩
theorem ok__law_within {f : Addr} {fd : FuncData} (F : FunD K "_law_within" "_law_within" (defArgs (top 54)) (defBody (top 54)) (defScope (top 54)) [] [] f fd) (G : Gs K mg) (GX : Gx P K) : FnG true P w K mg base (L2.CX P w) 1 f fd ["_law_thing", "_law_least", "_law_most"] (spD K 3 r__law_within) := by
  refine FunD.g (N := n__law_within) F sc__law_within fun cdv A outer s H E C hgd hr hK px pw => ?_
  exact (db_one (ds_ret (d_and hK (d_callB hK (c_isi G.isi) G.f_isinstance bo_isinstance (da_cons (d_var (pv 0)) (da_cons (d_ty G.f_int bo_int) da_nil))) (d_and hK (d_not hK (d_callB hK (c_isi G.isi) G.f_isinstance bo_isinstance (da_cons (d_var (pv 0)) (da_cons (d_ty G.f_bool bo_bool) da_nil)))) (d_one (d_chain hK o_le o_le (d_var (pv 1)) (d_var (pv 0)) (d_var (pv 2))))))))
def n__law_wrong : List PySem.Str := ["_law_table_here", "_law_taken", "_law_at", "_law_one", "_law_hop"]
theorem sc__law_wrong : FnScope n__law_wrong ["_law_table_here"] (defScope (top 60)) := ⟨rfl, rfl, rfl, by decide +kernel, rfl, by decide +kernel, by decide +kernel⟩
theorem ok__law_wrong {f : Addr} {fd : FuncData} (F : FunD K "_law_wrong" "_law_wrong" (defArgs (top 60)) (defBody (top 60)) (defScope (top 60)) [] [] f fd) (G : Gs K mg) (GX : Gx P K) (h__law_is_name : CallOk true P w K mg base 1 "_law_is_name" 1 [] r__law_is_name) (h__law_within : CallOk true P w K mg base 1 "_law_within" 3 [] r__law_within) : FnG true P w K mg base (L2.CX P w) 2 f fd ["_law_table_here"] (spD K 1 r__law_wrong) := by
  refine FunD.g (N := n__law_wrong) F sc__law_wrong fun cdv A outer s H E C hgd hr hK px pw => ?_
  exact (db_cons (ds_setO (nm 1 sc__law_wrong.nd) (o_lst da_nil))
    (db_cons (ds_forW (pt := (.nm 2)) [2, 3, 4] hK pw rfl (di_range1 rfl G.f_range (da_cons (d_callB hK c_len G.f_len bo_len (da_cons (d_var (pv 0)) da_nil)) da_nil)) (pg_nm (nm 2 sc__law_wrong.nd)) (db_cons (ds_set (nm 3 sc__law_wrong.nd) (d_ix hK (d_var (pv 0)) (d_var (pv 2))))
    (db_cons (ds_if (dt_pw (dw_or (dt_not (dt_truth hK (d_callB hK (c_isi G.isi) G.f_isinstance bo_isinstance (da_cons (d_var (pv 3)) (da_cons (d_ty G.f_tuple bo_tuple) da_nil))))) (dw_or (dt_cmp hK (o_ne hr.units) (d_callB hK c_len G.f_len bo_len (da_cons (d_var (pv 3)) da_nil)) d_int) (dw_or (dt_not (dt_truth hK (d_of_r (r_call hK h__law_is_name hgd (hr.mono (by decide)) rfl px (g_val (d_ix hK (d_var (pv 3)) d_int) g_nil))))) (dw_or (dt_cmpP hK (o_in (un65 hr)) (d_ix hK (d_var (pv 3)) d_int) (pv 1)) (dw_or1 (dt_cmp hK o_gt (d_var (pv 2)) d_int))))))) (db_one (ds_ret (d_var (pv 2)))) db_nil)
    (db_cons (ds_if (dt_pw (dw_or (dt_not (dt_truth hK (d_of_r (r_call hK h__law_within hgd (hr.mono (by decide)) rfl px (g_val (d_ix hK (d_var (pv 3)) d_int) (g_val d_int (g_val d_int g_nil))))))) (dw_or (dt_not (dt_truth hK (d_callB hK (c_isi G.isi) G.f_isinstance bo_isinstance (da_cons (d_ix hK (d_var (pv 3)) d_int) (da_cons (d_ty G.f_tuple bo_tuple) da_nil))))) (dw_or1 (dt_cmp hK o_gt (d_callB hK c_len G.f_len bo_len (da_cons (d_ix hK (d_var (pv 3)) d_int) da_nil)) d_int))))) (db_one (ds_ret (d_var (pv 2)))) db_nil)
    (db_cons (ds_forW (pt := (.nm 4)) [4] hK pw rfl (di_of hK (d_ix hK (d_var (pv 3)) d_int)) (pg_nm (nm 4 sc__law_wrong.nd)) (db_one (ds_if (dt_pw (dw_or (dt_not (dt_truth hK (d_callB hK (c_isi G.isi) G.f_isinstance bo_isinstance (da_cons (d_var (pv 4)) (da_cons (d_ty G.f_tuple bo_tuple) da_nil))))) (dw_or (dt_cmp hK (o_ne hr.units) (d_callB hK c_len G.f_len bo_len (da_cons (d_var (pv 4)) da_nil)) d_int) (dw_or (dt_not (dt_truth hK (d_of_r (r_call hK h__law_is_name hgd (hr.mono (by decide)) rfl px (g_val (d_ix hK (d_var (pv 4)) d_int) g_nil))))) (dw_or1 (dt_not (dt_truth hK (d_of_r (r_call hK h__law_within hgd (hr.mono (by decide)) rfl px (g_val (d_ix hK (d_var (pv 4)) d_int) (g_val d_int (g_val d_int g_nil)))))))))))) (db_one (ds_ret (d_var (pv 2)))) db_nil)))
    (db_one (ds_app hK (pv 1) (d_ix hK (d_var (pv 3)) d_int))))))))
    (db_cons (ds_forW (pt := (.nm 2)) [2] hK pw rfl (di_range1 rfl G.f_range (da_cons (d_callB hK c_len G.f_len bo_len (da_cons (d_var (pv 0)) da_nil)) da_nil)) (pg_nm (nm 2 sc__law_wrong.nd)) (db_one (ds_if (dt_cmp hK (o_ne hr.units) (d_lc (own := [("_law_hop", 4)]) (pt := (.nm 4)) hK rfl sc__law_wrong.nd (di_of hK (d_ix hK (d_ix hK (d_var (pv 0)) (d_var (pv 2))) d_int)) (blkOk_by (N := n__law_wrong) (sc := defScope (top 60)) (by decide +kernel)) rfl (fun _ _ _ _ _ => (pg_nm (nm 4 sc__law_wrong.nd))) (fun C hK _ _ _ _ _ => (dts_one (dt_cmpP hK (o_notin (un65 hr)) (d_ix hK (d_var (pv 4)) d_int) (pv 1)))) (fun C hK _ _ _ _ _ => (d_var (pv 4)))) (d_lst da_nil)) (db_one (ds_ret (d_var (pv 2)))) db_nil)))
    (db_one (ds_ret (d_neg d_int))))))
def n_Program_functions : List PySem.Str := ["self"]
theorem sc_Program_functions : FnScope n_Program_functions ["self"] (defScope (inClass (top 48) 2)) := ⟨rfl, rfl, rfl, by decide +kernel, rfl, by decide +kernel, by decide +kernel⟩
theorem ok_Program_functions {f : Addr} {fd : FuncData} (F : FunD K "functions" "Program.functions" (defArgs (inClass (top 48) 2)) (defBody (inClass (top 48) 2)) (defScope (inClass (top 48) 2)) [] [] f fd) (G : Gs K mg) (GX : Gx P K) : FnG true P w K mg base (L2.CX P w) 1 f fd ["self"] (spD K 1 r_Program_functions) := by
  refine FunD.g (N := n_Program_functions) F sc_Program_functions fun cdv A outer s H E C hgd hr hK px pw => ?_
  exact (db_one (ds_ret (d_fld hK G.c_Program G.na_Program_bodies (d_var (pv 0)))))
def n_is_name : List PySem.Str := ["value", "sign"]
theorem sc_is_name : FnScope n_is_name ["value"] (defScope (top 35)) := ⟨rfl, rfl, rfl, by decide +kernel, rfl, by decide +kernel, by decide +kernel⟩
theorem ok_is_name {f : Addr} {fd : FuncData} (F : FunD K "is_name" "is_name" (defArgs (top 35)) (defBody (top 35)) (defScope (top 35)) [] [] f fd) (G : Gs K mg) (GX : Gx P K) : FnG true P w K mg base (L2.CX P w) 1 f fd ["value"] (spD K 1 r_is_name) := by
  refine FunD.g (N := n_is_name) F sc_is_name fun cdv A outer s H E C hgd hr hK px pw => ?_
  exact (db_one (ds_ret (d_and hK (d_callB hK (c_isi G.isi) G.f_isinstance bo_isinstance (da_cons (d_var (pv 0)) (da_cons (d_ty G.f_str bo_str) da_nil))) (d_and hK (d_chain hK o_lt o_lt d_int (d_callB hK c_len G.f_len bo_len (da_cons (d_var (pv 0)) da_nil)) d_int) (d_one (d_callB hK (c_all rfl) G.f_all bo_all (da_cons (d_lc (own := [("sign", 1)]) (pt := (.nm 1)) hK rfl sc_is_name.nd (di_of hK (d_var (pv 0))) (blkOk_by (N := n_is_name) (sc := defScope (top 35)) (by decide +kernel)) rfl (fun _ _ _ _ _ => (pg_nm (nm 1 sc_is_name.nd))) (fun C hK _ _ _ _ _ => dts_nil) (fun C hK _ _ _ _ _ => (d_cmp hK (o_in (un65 hr)) (d_var (pv 1)) (d_cst hK G.k_LETTERS)))) da_nil)))))))
def n_is_integer : List PySem.Str := ["value"]
theorem sc_is_integer : FnScope n_is_integer ["value"] (defScope (top 33)) := ⟨rfl, rfl, rfl, by decide +kernel, rfl, by decide +kernel, by decide +kernel⟩
theorem ok_is_integer {f : Addr} {fd : FuncData} (F : FunD K "is_integer" "is_integer" (defArgs (top 33)) (defBody (top 33)) (defScope (top 33)) [] [] f fd) (G : Gs K mg) (GX : Gx P K) : FnG true P w K mg base (L2.CX P w) 1 f fd ["value"] (spD K 1 r_is_integer) := by
  refine FunD.g (N := n_is_integer) F sc_is_integer fun cdv A outer s H E C hgd hr hK px pw => ?_
  exact (db_one (ds_ret (d_and hK (d_callB hK (c_isi G.isi) G.f_isinstance bo_isinstance (da_cons (d_var (pv 0)) (da_cons (d_ty G.f_int bo_int) da_nil))) (d_one (d_not hK (d_callB hK (c_isi G.isi) G.f_isinstance bo_isinstance (da_cons (d_var (pv 0)) (da_cons (d_ty G.f_bool bo_bool) da_nil))))))))
def n_is_between : List PySem.Str := ["value", "least", "most"]
theorem sc_is_between : FnScope n_is_between ["value", "least", "most"] (defScope (top 34)) := ⟨rfl, rfl, rfl, by decide +kernel, rfl, by decide +kernel, by decide +kernel⟩
theorem ok_is_between {f : Addr} {fd : FuncData} (F : FunD K "is_between" "is_between" (defArgs (top 34)) (defBody (top 34)) (defScope (top 34)) [] [] f fd) (G : Gs K mg) (GX : Gx P K) (h_is_integer : CallOk true P w K mg base 1 "is_integer" 1 [] r_is_integer) : FnG true P w K mg base (L2.CX P w) 2 f fd ["value", "least", "most"] (spD K 3 r_is_between) := by
  refine FunD.g (N := n_is_between) F sc_is_between fun cdv A outer s H E C hgd hr hK px pw => ?_
  exact (db_one (ds_ret (d_and hK (d_of_r (r_call hK h_is_integer hgd (hr.mono (by decide)) rfl px (g_val (d_var (pv 0)) g_nil))) (d_one (d_chain hK o_le o_le (d_var (pv 1)) (d_var (pv 0)) (d_var (pv 2)))))))
def n_is_call : List PySem.Str := ["value"]
theorem sc_is_call : FnScope n_is_call ["value"] (defScope (top 38)) := ⟨rfl, rfl, rfl, by decide +kernel, rfl, by decide +kernel, by decide +kernel⟩
theorem ok_is_call {f : Addr} {fd : FuncData} (F : FunD K "is_call" "is_call" (defArgs (top 38)) (defBody (top 38)) (defScope (top 38)) [] [] f fd) (G : Gs K mg) (GX : Gx P K) (h_is_name : CallOk true P w K mg base 1 "is_name" 1 [] r_is_name) (h_is_between : CallOk true P w K mg base 2 "is_between" 3 [] r_is_between) : FnG true P w K mg base (L2.CX P w) 3 f fd ["value"] (spD K 1 r_is_call) := by
  refine FunD.g (N := n_is_call) F sc_is_call fun cdv A outer s H E C hgd hr hK px pw => ?_
  exact (db_one (ds_ret (d_and hK (d_callB hK (c_isi G.isi) G.f_isinstance bo_isinstance (da_cons (d_var (pv 0)) (da_cons (d_ty G.f_tuple bo_tuple) da_nil))) (d_and hK (d_cmp hK (o_eq hr.units) (d_callB hK c_len G.f_len bo_len (da_cons (d_var (pv 0)) da_nil)) d_int) (d_and hK (d_of_r (r_call hK h_is_name hgd (hr.mono (by decide)) rfl px (g_val (d_ix hK (d_var (pv 0)) d_int) g_nil))) (d_one (d_of_r (r_call hK h_is_between hgd (hr.mono (by decide)) rfl px (g_val (d_ix hK (d_var (pv 0)) d_int) (g_val d_int (g_val (d_cst hK G.k_MOST_TIMES) g_nil)))))))))))
def n_is_function : List PySem.Str := ["value", "call"]
theorem sc_is_function : FnScope n_is_function ["value"] (defScope (top 39)) := ⟨rfl, rfl, rfl, by decide +kernel, rfl, by decide +kernel, by decide +kernel⟩
theorem ok_is_function {f : Addr} {fd : FuncData} (F : FunD K "is_function" "is_function" (defArgs (top 39)) (defBody (top 39)) (defScope (top 39)) [] [] f fd) (G : Gs K mg) (GX : Gx P K) (h_is_name : CallOk true P w K mg base 1 "is_name" 1 [] r_is_name) (h_is_between : CallOk true P w K mg base 2 "is_between" 3 [] r_is_between) (h_is_call : CallOk true P w K mg base 3 "is_call" 1 [] r_is_call) : FnG true P w K mg base (L2.CX P w) 4 f fd ["value"] (spD K 1 r_is_function) := by
  refine FunD.g (N := n_is_function) F sc_is_function fun cdv A outer s H E C hgd hr hK px pw => ?_
  exact (db_cons (ds_if (dt_pw (dw_or (dt_not (dt_truth hK (d_callB hK (c_isi G.isi) G.f_isinstance bo_isinstance (da_cons (d_var (pv 0)) (da_cons (d_ty G.f_tuple bo_tuple) da_nil))))) (dw_or (dt_cmp hK (o_ne hr.units) (d_callB hK c_len G.f_len bo_len (da_cons (d_var (pv 0)) da_nil)) d_int) (dw_or1 (dt_not (dt_truth hK (d_of_r (r_call hK h_is_name hgd (hr.mono (by decide)) rfl px (g_val (d_ix hK (d_var (pv 0)) d_int) g_nil))))))))) (db_one (ds_ret d_bl)) db_nil)
    (db_cons (ds_if (dt_pw (dw_or (dt_not (dt_truth hK (d_of_r (r_call hK h_is_between hgd (hr.mono (by decide)) rfl px (g_val (d_ix hK (d_var (pv 0)) d_int) (g_val d_int (g_val (d_cst hK G.k_MOST_SIZE) g_nil))))))) (dw_or (dt_not (dt_truth hK (d_callB hK (c_isi G.isi) G.f_isinstance bo_isinstance (da_cons (d_ix hK (d_var (pv 0)) d_int) (da_cons (d_ty G.f_tuple bo_tuple) da_nil))))) (dw_or1 (dt_cmp hK o_gt (d_callB hK c_len G.f_len bo_len (da_cons (d_ix hK (d_var (pv 0)) d_int) da_nil)) (d_cst hK G.k_MOST_CALLS)))))) (db_one (ds_ret d_bl)) db_nil)
    (db_one (ds_ret (d_callB hK (c_all rfl) G.f_all bo_all (da_cons (d_lc (own := [("call", 1)]) (pt := (.nm 1)) hK rfl sc_is_function.nd (di_of hK (d_ix hK (d_var (pv 0)) d_int)) (blkOk_by (N := n_is_function) (sc := defScope (top 39)) (by decide +kernel)) rfl (fun _ _ _ _ _ => (pg_nm (nm 1 sc_is_function.nd))) (fun C hK _ _ _ _ _ => dts_nil) (fun C hK _ _ _ _ _ => (d_of_r (r_call hK h_is_call hgd (hr.mono (by decide)) rfl passL (g_val (d_var (pv 1)) g_nil))))) da_nil))))))
def n_names_in : List PySem.Str := ["functions", "one"]
theorem sc_names_in : FnScope n_names_in ["functions"] (defScope (top 40)) := ⟨rfl, rfl, rfl, by decide +kernel, rfl, by decide +kernel, by decide +kernel⟩
theorem ok_names_in {f : Addr} {fd : FuncData} (F : FunD K "names_in" "names_in" (defArgs (top 40)) (defBody (top 40)) (defScope (top 40)) [] [] f fd) (G : Gs K mg) (GX : Gx P K) : FnG true P w K mg base (L2.CX P w) 1 f fd ["functions"] (spD K 1 r_names_in) := by
  refine FunD.g (N := n_names_in) F sc_names_in fun cdv A outer s H E C hgd hr hK px pw => ?_
  exact (db_one (ds_retO (o_lc (own := [("one", 1)]) (pt := (.nm 1)) hK rfl sc_names_in.nd (di_of hK (d_var (pv 0))) (blkOk_by (N := n_names_in) (sc := defScope (top 40)) (by decide +kernel)) rfl (fun _ _ _ _ _ => (pg_nm (nm 1 sc_names_in.nd))) (fun C hK _ _ _ _ _ => dts_nil) (fun C hK _ _ _ _ _ => (d_ix hK (d_var (pv 1)) d_int)))))
def n_wrong_function : List PySem.Str := ["functions", "index", "one", "call"]
theorem sc_wrong_function : FnScope n_wrong_function ["functions"] (defScope (top 41)) := ⟨rfl, rfl, rfl, by decide +kernel, rfl, by decide +kernel, by decide +kernel⟩
theorem ok_wrong_function {f : Addr} {fd : FuncData} (F : FunD K "wrong_function" "wrong_function" (defArgs (top 41)) (defBody (top 41)) (defScope (top 41)) [] [] f fd) (G : Gs K mg) (GX : Gx P K) (h_is_function : CallOk true P w K mg base 4 "is_function" 1 [] r_is_function) (h_names_in : CallOk true P w K mg base 1 "names_in" 1 [] r_names_in) : FnG true P w K mg base (L2.CX P w) 5 f fd ["functions"] (spD K 1 r_wrong_function) := by
  refine FunD.g (N := n_wrong_function) F sc_wrong_function fun cdv A outer s H E C hgd hr hK px pw => ?_
  exact (db_cons (ds_forW (pt := (.tp (.cons (.nm 1) (.cons (.nm 2) .nil)))) [1, 2] hK pw rfl (di_enum hK rfl G.f_enumerate (da_cons (d_var (pv 0)) da_nil)) (pg_tp rfl (pgs_cn (pg_nm (nm 1 sc_wrong_function.nd)) (pgs_cn (pg_nm (nm 2 sc_wrong_function.nd)) pgs_nl))) (db_one (ds_if (dt_pw (dw_or (dt_not (dt_truth hK (d_of_r (r_call hK h_is_function hgd (hr.mono (by decide)) rfl px (g_val (d_var (pv 2)) g_nil))))) (dw_or (dt_cmp hK (o_eq hr.units) (d_var (pv 1)) (d_cst hK G.k_MOST_FUNCTIONS)) (dw_or1 (dt_cmp hK (o_in (un65 hr)) (d_ix hK (d_var (pv 2)) d_int) (d_of_r (r_call hK h_names_in hgd (hr.mono (by decide)) rfl px (g_val (d_slice hK (d_var (pv 0)) dp_none (dp_some (d_var (pv 1)))) g_nil)))))))) (db_one (ds_ret (d_var (pv 1)))) db_nil)))
    (db_cons (ds_forW (pt := (.tp (.cons (.nm 1) (.cons (.nm 2) .nil)))) [1, 2] hK pw rfl (di_enum hK rfl G.f_enumerate (da_cons (d_var (pv 0)) da_nil)) (pg_tp rfl (pgs_cn (pg_nm (nm 1 sc_wrong_function.nd)) (pgs_cn (pg_nm (nm 2 sc_wrong_function.nd)) pgs_nl))) (db_one (ds_if (dt_not (dt_truth hK (d_callB hK (c_all rfl) G.f_all bo_all (da_cons (d_lc (own := [("call", 3)]) (pt := (.nm 3)) hK rfl sc_wrong_function.nd (di_of hK (d_ix hK (d_var (pv 2)) d_int)) (blkOk_by (N := n_wrong_function) (sc := defScope (top 41)) (by decide +kernel)) rfl (fun _ _ _ _ _ => (pg_nm (nm 3 sc_wrong_function.nd))) (fun C hK _ _ _ _ _ => dts_nil) (fun C hK _ _ _ _ _ => (d_cmp hK (o_in (un65 hr)) (d_ix hK (d_var (pv 3)) d_int) (d_of_r (r_call hK h_names_in hgd (hr.mono (by decide)) rfl passL (g_val (d_var (pv 0)) g_nil)))))) da_nil)))) (db_one (ds_ret (d_var (pv 1)))) db_nil)))
    (db_one (ds_ret d_non))))
def n_check_functions : List PySem.Str := ["functions", "wrong"]
theorem sc_check_functions : FnScope n_check_functions ["functions"] (defScope (top 42)) := ⟨rfl, rfl, rfl, by decide +kernel, rfl, by decide +kernel, by decide +kernel⟩
theorem ok_check_functions {f : Addr} {fd : FuncData} (F : FunD K "check_functions" "check_functions" (defArgs (top 42)) (defBody (top 42)) (defScope (top 42)) [] [] f fd) (G : Gs K mg) (GX : Gx P K) (h_wrong_function : CallOk true P w K mg base 5 "wrong_function" 1 [] r_wrong_function) : FnG true P w K mg base (L2.CX P w) 6 f fd ["functions"] (spD K 1 r_check_functions) := by
  refine FunD.g (N := n_check_functions) F sc_check_functions fun cdv A outer s H E C hgd hr hK px pw => ?_
  exact (db_cons (ds_if (dt_pw (dw_or (dt_not (dt_truth hK (d_callB hK (c_isi G.isi) G.f_isinstance bo_isinstance (da_cons (d_var (pv 0)) (da_cons (d_ty G.f_tuple bo_tuple) da_nil))))) (dw_or1 (dt_cmp hK (o_eq hr.units) (d_callB hK c_len G.f_len bo_len (da_cons (d_var (pv 0)) da_nil)) d_int)))) (db_one (ds_raiseC (k := 0) hK (takes_of rfl rfl rfl rfl) rfl GX.x_InvalidFunctions (hr.mono (by decide)) rfl G.g_InvalidFunctions d_non)) db_nil)
    (db_cons (ds_set (nm 1 sc_check_functions.nd) (d_of_r (r_call hK h_wrong_function hgd (hr.mono (by decide)) rfl px (g_val (d_var (pv 0)) g_nil))))
    (db_one (ds_if (dt_cmp hK o_isnt (d_var (pv 1)) d_non) (db_one (ds_raiseC (k := 0) hK (takes_of rfl rfl rfl rfl) rfl GX.x_InvalidFunctions (hr.mono (by decide)) rfl G.g_InvalidFunctions (d_var (pv 1)))) db_nil))))
def n_Program_init : List PySem.Str := ["self", "functions"]
theorem sc_Program_init : FnScope n_Program_init ["self", "functions"] (defScope (inClass (top 48) 0)) := ⟨rfl, rfl, rfl, by decide +kernel, rfl, by decide +kernel, by decide +kernel⟩
theorem ok_Program_init {f : Addr} {fd : FuncData} (F : FunD K "__init__" "Program.__init__" (defArgs (inClass (top 48) 0)) (defBody (inClass (top 48) 0)) (defScope (inClass (top 48) 0)) [] [] f fd) (G : Gs K mg) (GX : Gx P K) (h_check_functions : CallOk true P w K mg base 6 "check_functions" 1 [] r_check_functions) : FnG true P w K mg base (L2.CX P w) 7 f fd ["self", "functions"] (spD K 2 r_Program_init) := by
  refine FunD.g (N := n_Program_init) F sc_Program_init fun cdv A outer s H E C hgd hr hK px pw => ?_
  exact (db_cons (ds_expr (d_of_r (r_call hK h_check_functions hgd (hr.mono (by decide)) rfl px (g_val (d_var (pv 1)) g_nil))))
    (db_one (ds_setF hK G.c_Program G.na_Program_bodies (pv 0) (d_var (pv 1)))))
def n__law_right : List PySem.Str := ["_law_vat_here", "_law_turn", "_law_table_here", "_law_words_here", "_law_more", "_law_again", "_law_some", "_law_due", "_law_told_here", "_law_at", "_law_one"]
theorem sc__law_right : FnScope n__law_right ["_law_vat_here"] (defScope (top 62)) := ⟨rfl, rfl, rfl, by decide +kernel, rfl, by decide +kernel, by decide +kernel⟩
theorem ok__law_right {f : Addr} {fd : FuncData} (F : FunD K "_law_right" "_law_right" (defArgs (top 62)) (defBody (top 62)) (defScope (top 62)) [] [] f fd) (G : Gs K mg) (GX : Gx P K) (h__law_table : CallOk true P w K mg base 3 "_law_table" 4 [] r__law_table) (h__law_ladle : CallOk true P w K mg base 1 "_law_ladle" 2 [] r__law_ladle) (h__law_bent : CallOk true P w K mg base 3 "_law_bent" 3 [] r__law_bent) (h__law_wrong : CallOk true P w K mg base 2 "_law_wrong" 1 [] r__law_wrong) (h__law_told : ToldOk true P w K mg base 8 "_law_told" "_law_act" csX 4 1 3 b__law_told_R b__law_told_S) (h_Program_functions : PropOk true P w K mg base 1 "Program" "functions" r_Program_functions) (h_Program_init : MakeOk true P w K mg base 7 "Program" 2 [] r_Program_init) (h_Program_init_k0 : MakeKOk true P w K mg base 7 "Program" 2 ["functions"] [0] r_Program_init) (L : LamK K mg base fd.code "_law_right.<locals>.<lambda>") : FnG true P w K mg base (L2.CX P w) 11 f fd ["_law_vat_here"] (spD K 1 r__law_right) := by
  refine FunD.gL (N := n__law_right) F L sc__law_right fun cdv A outer s H E C Lk hgd hr hK px pw => ?_
  exact (db_cons (ds_forW (pt := (.nm 1)) [1, 2, 3, 4, 5, 6, 7, 8, 9] hK pw rfl (di_range1 rfl G.f_range (da_cons d_int da_nil)) (pg_nm (nm 1 sc__law_right.nd)) (db_cons (ds_setO (nm 2 sc__law_right.nd) (o_callTN hK c_list G.f_list bo_list (da_cons (d_of_r (r_call hK h__law_table hgd (hr.mono (by decide)) rfl px (g_sl (pv 0) (g_val d_int (g_val d_int (g_val d_int g_nil)))))) da_nil)))
    (db_cons (ds_frz 3 (ds_setLcV (i := 3) (own := [("_law_one", 10)]) (pt := (.nm 10)) hK rfl (nm 3 sc__law_right.nd) rfl (sw_true rfl rfl rfl (by decide +kernel)) (di_of hK (d_var (pv 2))) (blkOk_by (N := n__law_right) (sc := defScope (top 62)) (by decide +kernel)) rfl (fun _ _ _ _ _ => (pg_nm (nm 10 sc__law_right.nd))) (fun C hK _ _ _ _ _ => dts_nil) (fun C hK _ _ _ _ _ => (d_ix hK (d_var (pv 10)) d_int))))
    (db_cons (ds_forW (pt := (.nm 4)) [4] hK pw rfl (di_range1 rfl G.f_range (da_cons (d_of_r (r_call hK h__law_ladle hgd (hr.mono (by decide)) rfl px (g_sl (pv 0) (g_val d_int g_nil)))) da_nil)) (pg_nm (nm 4 sc__law_right.nd)) (db_one (ds_app hK (pv 2) (d_tup (da_cons (d_ix hK (d_lst (da_cons d_str (da_cons d_str (da_cons d_str (da_cons d_str da_nil))))) (d_of_r (r_call hK h__law_ladle hgd (hr.mono (by decide)) rfl px (g_sl (pv 0) (g_val d_int g_nil))))) (da_cons d_int (da_cons (d_tup da_nil) da_nil)))))))
    (db_cons (ds_forW (pt := (.nm 5)) [5, 9] hK pw rfl (di_range1 rfl G.f_range (da_cons (d_of_r (r_call hK h__law_ladle hgd (hr.mono (by decide)) rfl px (g_sl (pv 0) (g_val d_int g_nil)))) da_nil)) (pg_nm (nm 5 sc__law_right.nd)) (db_cons (ds_set (nm 9 sc__law_right.nd) (d_of_r (r_call hK h__law_ladle hgd (hr.mono (by decide)) rfl px (g_sl (pv 0) (g_val (d_callBP hK c_len G.f_len bo_len (pv 2)) g_nil)))))
    (db_one (ds_setIx hK (pv 2) (d_var (pv 9)) (d_of_r (r_call hK h__law_bent hgd (hr.mono (by decide)) rfl px (g_sl (pv 0) (g_val (d_tup (da_cons (d_ix hK (d_lst (da_cons d_str (da_cons d_str (da_cons d_str da_nil)))) (d_of_r (r_call hK h__law_ladle hgd (hr.mono (by decide)) rfl px (g_sl (pv 0) (g_val d_int g_nil))))) (da_cons d_int (da_cons (d_tup (da_cons (d_tup (da_cons (d_ix hK (d_var (pv 3)) d_int) (da_cons d_int da_nil))) da_nil)) da_nil)))) (g_val (d_var (pv 3)) g_nil)))))))))
    (db_cons (ds_set (nm 6 sc__law_right.nd) (d_callT hK c_tuple G.f_tuple bo_tuple (da_cons (d_var (pv 2)) da_nil)))
    (db_cons (ds_if (dt_cmp hK (o_eq hr.units) (d_of_r (r_call hK h__law_ladle hgd (hr.mono (by decide)) rfl px (g_sl (pv 0) (g_val d_int g_nil)))) d_int) (db_one (ds_set (nm 6 sc__law_right.nd) (d_ix hK (d_lst (da_cons (d_var (pv 2)) (da_cons (d_tup da_nil) (da_cons d_non (da_cons d_str (da_cons d_dict0 (da_cons (d_ixP hK (pv 2) d_int) da_nil))))))) (d_of_r (r_call hK h__law_ladle hgd (hr.mono (by decide)) rfl px (g_sl (pv 0) (g_val d_int g_nil))))))) db_nil)
    (db_cons (ds_set (nm 7 sc__law_right.nd) (d_lst (da_cons d_str (da_cons (d_callB hK (c_reprY G.sysm (hgd rfl) (un65 hr)) G.f_repr bo_repr (da_cons (d_var (pv 6)) da_nil)) da_nil))))
    (db_cons (ds_if (dt_pw (dw_or (dt_not (dt_truth hK (d_callB hK (c_isi G.isi) G.f_isinstance bo_isinstance (da_cons (d_var (pv 6)) (da_cons (d_ty G.f_tuple bo_tuple) da_nil))))) (dw_or1 (dt_cmp hK (o_eqT0 hr.units) (d_var (pv 6)) (d_tup da_nil))))) (db_one (ds_set (nm 7 sc__law_right.nd) (d_lst (da_cons d_str (da_cons d_str da_nil))))) (db_one (ds_if (dt_cmp hK o_ge (d_of_r (r_call hK h__law_wrong hgd (hr.mono (by decide)) rfl px (g_val (d_var (pv 6)) g_nil))) d_int) (db_one (ds_set (nm 7 sc__law_right.nd) (d_lst (da_cons d_str (da_cons (d_callB hK (c_reprZ (hgd rfl) (un65 hr)) G.f_repr bo_repr (da_cons (d_of_r (r_call hK h__law_wrong hgd (hr.mono (by decide)) rfl px (g_val (d_var (pv 6)) g_nil))) da_nil)) da_nil))))) db_nil)))
    (db_cons (ds_setO (nm 8 sc__law_right.nd) (o_lst (da_cons (d_of_r (r_told hK h__law_told Lk rfl hgd (hr.mono (by decide)) rfl rfl rfl (fun _ _ _ _ _ => rfl) (fun A outer s H E f c hgd hr px pw => (d_of_r (r_prop (m := "functions") hK h_Program_functions hgd (hr.mono (by decide)) (v_d (cn := "Program") (d_of_r (r_make hK h_Program_init hgd (hr.mono (by decide)) rfl px (g_val (d_var (pv 6)) g_nil))))))))) da_nil)))
    (db_cons (ds_app hK (pv 8) (d_of_r (r_told hK h__law_told Lk rfl hgd (hr.mono (by decide)) rfl rfl rfl (fun _ _ _ _ _ => rfl) (fun A outer s H E f c hgd hr px pw => (d_of_r (r_prop (m := "functions") hK h_Program_functions hgd (hr.mono (by decide)) (v_d (cn := "Program") (d_of_r (r_makeK hK h_Program_init_k0 hgd (hr.mono (by decide)) rfl px (k_val (d_var (pv 6)) k_nil))))))))))
    (db_one (ds_if (dt_cmp hK (o_ne hr.units) (d_var (pv 8)) (d_lst (da_cons (d_var (pv 7)) (da_cons (d_var (pv 7)) da_nil)))) (db_one (ds_ret d_bl)) db_nil)))))))))))))
    (db_one (ds_ret d_bl)))
def n__law_vat : List PySem.Str := ["_law_script", "_law_at", "_law_own", "_law_blend", "_law_each"]
theorem sc__law_vat : FnScope n__law_vat ["_law_script", "_law_at"] (defScope (top 50)) := ⟨rfl, rfl, rfl, by decide +kernel, rfl, by decide +kernel, by decide +kernel⟩
theorem ok__law_vat {f : Addr} {fd : FuncData} (F : FunD K "_law_vat" "_law_vat" (defArgs (top 50)) (defBody (top 50)) (defScope (top 50)) [] [] f fd) (G : Gs K mg) (GX : Gx P K) : FnG true P w K mg base (L2.CX P w) 1 f fd ["_law_script", "_law_at"] (spD K 2 r__law_vat) := by
  refine FunD.g (N := n__law_vat) F sc__law_vat fun cdv A outer s H E C hgd hr hK px pw => ?_
  exact (db_cons (ds_set (nm 2 sc__law_vat.nd) (d_if (dt_cmp hK o_lt (d_var (pv 1)) (d_callB hK c_len G.f_len bo_len (da_cons (d_var (pv 0)) da_nil))) (d_ix hK (d_var (pv 0)) (d_var (pv 1))) (d_op hK o_add d_int (d_op hK o_mul d_int (d_var (pv 1))))))
    (db_cons (ds_set (nm 3 sc__law_vat.nd) (d_op hK o_mul d_int (d_op hK o_add (d_var (pv 1)) d_int)))
    (db_cons (ds_forW (pt := (.nm 4)) [4] hK pw rfl (di_of hK (d_op hK o_add (d_slice hK (d_var (pv 0)) dp_none (dp_some d_int)) (d_lst (da_cons (d_var (pv 2)) da_nil)))) (pg_nm (nm 4 sc__law_vat.nd)) (db_one (ds_set (nm 3 sc__law_vat.nd) (d_op hK o_mod (d_callT hK c_int G.f_int bo_int (da_cons (d_op hK o_add (d_op hK o_mul (d_var (pv 3)) d_int) (d_var (pv 4))) da_nil)) d_int))))
    (db_one (ds_retO (o_lst (da_cons (d_if (dt_cmp hK o_ge (d_callB hK c_abs G.f_abs bo_abs (da_cons (d_var (pv 2)) da_nil)) (d_op hK o_pow d_int d_int)) (d_callB hK c_abs G.f_abs bo_abs (da_cons (d_var (pv 2)) da_nil)) d_int) (da_cons (d_var (pv 3)) (da_cons d_int da_nil)))))))))
def n_law : List PySem.Str := ["_law_script", "_law_at"]
theorem sc_law : FnScope n_law ["_law_script"] (defScope (top 63)) := ⟨rfl, rfl, rfl, by decide +kernel, rfl, by decide +kernel, by decide +kernel⟩
theorem ok_law {f : Addr} {fd : FuncData} (F : FunD K "law" "law" (defArgs (top 63)) (defBody (top 63)) (defScope (top 63)) [] [] f fd) (G : Gs K mg) (GX : Gx P K) (h__law_right : CallOk true P w K mg base 11 "_law_right" 1 [] r__law_right) (h__law_vat : CallOk true P w K mg base 1 "_law_vat" 2 [] r__law_vat) : FnG true P w K mg base (L2.CX P w) 12 f fd ["_law_script"] (spD K 1 r_law) := by
  refine FunD.g (N := n_law) F sc_law fun cdv A outer s H E C hgd hr hK px pw => ?_
  exact (db_cons (ds_forW (pt := (.nm 1)) [1] hK pw rfl (di_range1 rfl G.f_range (da_cons (d_callB hK (c_max2 rfl) G.f_max bo_max (da_cons d_int (da_cons (d_callB hK (c_min2 rfl) G.f_min bo_min (da_cons (d_callB hK c_len G.f_len bo_len (da_cons (d_var (pv 0)) da_nil)) (da_cons d_int da_nil))) da_nil))) da_nil)) (pg_nm (nm 1 sc_law.nd)) (db_one (ds_if (dt_not (dt_truth hK (d_of_r (r_call1 hK h__law_right hgd (hr.mono (by decide)) rfl px (o_of_r (r_call hK h__law_vat hgd (hr.mono (by decide)) rfl px (g_val (d_var (pv 0)) (g_val (d_var (pv 1)) g_nil)))))))) (db_one (ds_ret d_bl)) db_nil)))
    (db_one (ds_ret d_bl)))
end
end Wk
set_option maxHeartbeats 0
namespace Wk
open PySem PySem.Spec PyProof.Rows L2 DL
theorem fx_of {K : PySem.W.Frag} {P : Program} {c f file : PySem.Str} {B : String} (h : (Fb.exn c f file B).ok K = true) (hP : XMain P file) : XC K P c f := xc_of (show xnB K c f file B = true from h) hP
theorem fi_of {K : PySem.W.Frag} {cs ns : List PySem.Str} {ts : List String} (h : (Fb.exs cs ns ts).ok K = true) : IsE K cs ns ts := ⟨show xsB K cs ns ts = true from h⟩
theorem fm_of {K : PySem.W.Frag} {cs : List PySem.Str} (h : (Fb.exm cs).ok K = true) (c : PySem.Str) (hc : cs.contains c = true) : PySem.W.exmAny K (.ref (He.ga K c)) [.ref (He.ga K "NotRight"), .ref (He.ga K "NotThere"), .ref (He.ga K "CannotBe")] = some true := exm_of (show xmB K cs = true from h) c hc
theorem fl_of {K : PySem.W.Frag} {mg : PySem.Str → Option Value} {base : Heap} {x q qual : PySem.Str} {params : Arguments} {body : List Stmt} {scope : Scope} {dvs : List V} {kws : List (PySem.Str × V)} {fd : FuncData} (h : (Fb.lam x q).ok K = true) (F : FunD K x qual params body scope dvs kws (He.ga K x) fd) (T : ∀ p ∈ tbC K, LamX.TabB base mg p.1 p.2) : LamK K mg base fd.code q := lam_of (show lamB K x q = true from h) F T
theorem facts {P : Program} {w : World} {K : PySem.W.Frag} {h : Heap} {mg : PySem.Str → Option Value} {f : Addr} (hP : XMain P "/claim/cut.py") (X : K.In h) (Gm : h.Ns mainGlobals mg) (hfa : mg ("law" : PySem.Str) = some (.ref f)) (c : SaysA fb fn K) :
    ∃ fd : FuncData, (∀ (s : Shared) (v : Value), BindsTo s fd ⟨[v], []⟩ [("_law_script", v)]) ∧ ∀ base : Heap, K.In base → base.Ns mainGlobals mg → (∀ p ∈ tbC K, LamX.TabB base mg p.1 p.2) → FnG true P w K mg base (L2.CX P w) 12 f fd ["_law_script"] (spD K 1 r_law) := by
  have e := hfa.symm.trans (He.glo_ok X Gm (c.fact 80 (f := .fa (.glo "law")) rfl))
  cases e
  obtain ⟨fdl, Fl⟩ := c.def_ 23 (d := d23) rfl
  have bl := FunD.bindsA (ps := ["_law_script"]) Fl fun _ _ _ _ _ _ us hl => match us, hl with | [_], _ => rfl
  refine ⟨fdl, fun s v => bl s [v] rfl, fun base hbK hbN hTB => ?_⟩
  have G : Gs K mg := {
    f_ArithmeticError := He.free_ok X Gm (c.fact 0 (f := .fa (.free "ArithmeticError")) rfl)
    f_LookupError := He.free_ok X Gm (c.fact 1 (f := .fa (.free "LookupError")) rfl)
    f_ValueError := He.free_ok X Gm (c.fact 2 (f := .fa (.free "ValueError")) rfl)
    f_abs := He.free_ok X Gm (c.fact 3 (f := .fa (.free "abs")) rfl)
    f_all := He.free_ok X Gm (c.fact 4 (f := .fa (.free "all")) rfl)
    f_bool := He.free_ok X Gm (c.fact 5 (f := .fa (.free "bool")) rfl)
    f_divmod := He.free_ok X Gm (c.fact 6 (f := .fa (.free "divmod")) rfl)
    f_enumerate := He.free_ok X Gm (c.fact 7 (f := .fa (.free "enumerate")) rfl)
    f_int := He.free_ok X Gm (c.fact 8 (f := .fa (.free "int")) rfl)
    f_isinstance := He.free_ok X Gm (c.fact 9 (f := .fa (.free "isinstance")) rfl)
    f_len := He.free_ok X Gm (c.fact 10 (f := .fa (.free "len")) rfl)
    f_list := He.free_ok X Gm (c.fact 11 (f := .fa (.free "list")) rfl)
    f_max := He.free_ok X Gm (c.fact 12 (f := .fa (.free "max")) rfl)
    f_min := He.free_ok X Gm (c.fact 13 (f := .fa (.free "min")) rfl)
    f_range := He.free_ok X Gm (c.fact 14 (f := .fa (.free "range")) rfl)
    f_repr := He.free_ok X Gm (c.fact 15 (f := .fa (.free "repr")) rfl)
    f_str := He.free_ok X Gm (c.fact 16 (f := .fa (.free "str")) rfl)
    f_tuple := He.free_ok X Gm (c.fact 17 (f := .fa (.free "tuple")) rfl)
    k_LETTERS := str_cst X Gm (c.fact 18 (f := .fa (.str "LETTERS" "abcdefghijklmnopqrstuvwxyz")) rfl)
    k_MOST_CALLS := int_cst X Gm (c.fact 19 (f := .fa (.int "MOST_CALLS" (4))) rfl)
    k_MOST_FUNCTIONS := int_cst X Gm (c.fact 20 (f := .fa (.int "MOST_FUNCTIONS" (6))) rfl)
    k_MOST_SIZE := int_cst X Gm (c.fact 21 (f := .fa (.int "MOST_SIZE" (50))) rfl)
    k_MOST_TIMES := int_cst X Gm (c.fact 22 (f := .fa (.int "MOST_TIMES" (9))) rfl)
    c_Program := He.cls_ok (c.fact 23 (f := .fa (.cls "Program")) rfl)
    g_Program := He.glo_ok X Gm (c.fact 24 (f := .fa (.glo "Program")) rfl)
    g_Broken := He.glo_ok X Gm (c.fact 25 (f := .fa (.glo "Broken")) rfl)
    g_CannotBe := He.glo_ok X Gm (c.fact 26 (f := .fa (.glo "CannotBe")) rfl)
    g_InUse := He.glo_ok X Gm (c.fact 27 (f := .fa (.glo "InUse")) rfl)
    g_InvalidChanges := He.glo_ok X Gm (c.fact 28 (f := .fa (.glo "InvalidChanges")) rfl)
    g_InvalidChoice := He.glo_ok X Gm (c.fact 29 (f := .fa (.glo "InvalidChoice")) rfl)
    g_InvalidClaim := He.glo_ok X Gm (c.fact 30 (f := .fa (.glo "InvalidClaim")) rfl)
    g_InvalidFunctions := He.glo_ok X Gm (c.fact 31 (f := .fa (.glo "InvalidFunctions")) rfl)
    g_InvalidName := He.glo_ok X Gm (c.fact 32 (f := .fa (.glo "InvalidName")) rfl)
    g_InvalidNumber := He.glo_ok X Gm (c.fact 33 (f := .fa (.glo "InvalidNumber")) rfl)
    g_InvalidPart := He.glo_ok X Gm (c.fact 34 (f := .fa (.glo "InvalidPart")) rfl)
    g_InvalidPlace := He.glo_ok X Gm (c.fact 35 (f := .fa (.glo "InvalidPlace")) rfl)
    g_InvalidRules := He.glo_ok X Gm (c.fact 36 (f := .fa (.glo "InvalidRules")) rfl)
    g_InvalidSeen := He.glo_ok X Gm (c.fact 37 (f := .fa (.glo "InvalidSeen")) rfl)
    g_InvalidSite := He.glo_ok X Gm (c.fact 38 (f := .fa (.glo "InvalidSite")) rfl)
    g_InvalidText := He.glo_ok X Gm (c.fact 39 (f := .fa (.glo "InvalidText")) rfl)
    g_InvalidWish := He.glo_ok X Gm (c.fact 40 (f := .fa (.glo "InvalidWish")) rfl)
    g_NotAProgram := He.glo_ok X Gm (c.fact 41 (f := .fa (.glo "NotAProgram")) rfl)
    g_NotARule := He.glo_ok X Gm (c.fact 42 (f := .fa (.glo "NotARule")) rfl)
    g_NotOpen := He.glo_ok X Gm (c.fact 43 (f := .fa (.glo "NotOpen")) rfl)
    g_NotRight := He.glo_ok X Gm (c.fact 44 (f := .fa (.glo "NotRight")) rfl)
    g_NotThere := He.glo_ok X Gm (c.fact 45 (f := .fa (.glo "NotThere")) rfl)
    g_NothingToUndo := He.glo_ok X Gm (c.fact 46 (f := .fa (.glo "NothingToUndo")) rfl)
    g_OverBudget := He.glo_ok X Gm (c.fact 47 (f := .fa (.glo "OverBudget")) rfl)
    g_TooMany := He.glo_ok X Gm (c.fact 48 (f := .fa (.glo "TooMany")) rfl)
    g_UnknownName := He.glo_ok X Gm (c.fact 49 (f := .fa (.glo "UnknownName")) rfl)
    na_Program_bodies := He.noat_ok (c.fact 53 (f := .fa (.noat "Program" "bodies")) rfl)
    sysm := c.fact 54 (f := .sysm) rfl
    isi := ⟨c.fact 55 (f := .isi cls) rfl⟩ }
  have GX : Gx P K := {
    x_InvalidFunctions := fx_of (c.fact 50 (f := .exn "InvalidFunctions" "index" "/claim/cut.py" "ValueError") rfl) hP
    ise := fi_of (c.fact 51 (f := .exs csX nsX tsX) rfl)
    exm := fm_of (c.fact 52 (f := .exm csX) rfl) }
  obtain ⟨fd__law_ladle, F__law_ladle⟩ := c.def_ 0 (d := d0) rfl
  have o__law_ladle := ok__law_ladle (P := P) (w := w) (base := base) F__law_ladle G GX 
  have b__law_ladle : Binds K fd__law_ladle ["_law_vat_here", "_law_many"] [] := FunD.bindsN F__law_ladle fun _ _ _ _ _ _ us hl => match us, hl with | [_, _], _ => rfl
  have h__law_ladle_fn : CallOk true P w K mg base 1 "_law_ladle" 2 [] r__law_ladle := ⟨_, _, _, _, _, He.glo_ok X Gm (c.fact 56 (f := .fa (.glo "_law_ladle")) rfl), F__law_ladle.kp, b__law_ladle, .nil, fun _ => .nil, rfl, o__law_ladle⟩
  obtain ⟨fd__law_words, F__law_words⟩ := c.def_ 1 (d := d1) rfl
  have o__law_words := ok__law_words (P := P) (w := w) (base := base) F__law_words G GX h__law_ladle_fn
  have b__law_words : Binds K fd__law_words ["_law_vat_here", "_law_many"] [] := FunD.bindsN F__law_words fun _ _ _ _ _ _ us hl => match us, hl with | [_, _], _ => rfl
  have h__law_words_fn : CallOk true P w K mg base 2 "_law_words" 2 [] r__law_words := ⟨_, _, _, _, _, He.glo_ok X Gm (c.fact 57 (f := .fa (.glo "_law_words")) rfl), F__law_words.kp, b__law_words, .nil, fun _ => .nil, rfl, o__law_words⟩
  obtain ⟨fd__law_table, F__law_table⟩ := c.def_ 2 (d := d2) rfl
  have o__law_table := ok__law_table (P := P) (w := w) (base := base) F__law_table G GX h__law_words_fn h__law_ladle_fn
  have b__law_table : Binds K fd__law_table ["_law_vat_here", "_law_most", "_law_wide", "_law_big"] [] := FunD.bindsN F__law_table fun _ _ _ _ _ _ us hl => match us, hl with | [_, _, _, _], _ => rfl
  have h__law_table_fn : CallOk true P w K mg base 3 "_law_table" 4 [] r__law_table := ⟨_, _, _, _, _, He.glo_ok X Gm (c.fact 58 (f := .fa (.glo "_law_table")) rfl), F__law_table.kp, b__law_table, .nil, fun _ => .nil, rfl, o__law_table⟩
  obtain ⟨fd__law_odd, F__law_odd⟩ := c.def_ 3 (d := d3) rfl
  have o__law_odd := ok__law_odd (P := P) (w := w) (base := base) F__law_odd G GX h__law_ladle_fn
  have b__law_odd : Binds K fd__law_odd ["_law_vat_here"] [] := FunD.bindsN F__law_odd fun _ _ _ _ _ _ us hl => match us, hl with | [_], _ => rfl
  have h__law_odd_fn : CallOk true P w K mg base 2 "_law_odd" 1 [] r__law_odd := ⟨_, _, _, _, _, He.glo_ok X Gm (c.fact 59 (f := .fa (.glo "_law_odd")) rfl), F__law_odd.kp, b__law_odd, .nil, fun _ => .nil, rfl, o__law_odd⟩
  obtain ⟨fd__law_bent, F__law_bent⟩ := c.def_ 4 (d := d4) rfl
  have o__law_bent := ok__law_bent (P := P) (w := w) (base := base) F__law_bent G GX h__law_ladle_fn h__law_odd_fn
  have b__law_bent : Binds K fd__law_bent ["_law_vat_here", "_law_one", "_law_words_here"] [] := FunD.bindsN F__law_bent fun _ _ _ _ _ _ us hl => match us, hl with | [_, _, _], _ => rfl
  have h__law_bent_fn : CallOk true P w K mg base 3 "_law_bent" 3 [] r__law_bent := ⟨_, _, _, _, _, He.glo_ok X Gm (c.fact 60 (f := .fa (.glo "_law_bent")) rfl), F__law_bent.kp, b__law_bent, .nil, fun _ => .nil, rfl, o__law_bent⟩
  obtain ⟨fd__law_bases, F__law_bases⟩ := c.def_ 5 (d := d5) rfl
  have o__law_bases := ok__law_bases (P := P) (w := w) (base := base) F__law_bases G GX 
  have b__law_bases : Binds K fd__law_bases ["_law_e"] [] := FunD.bindsN F__law_bases fun _ _ _ _ _ _ us hl => match us, hl with | [_], _ => rfl
  have h__law_bases_hot : CallT true P w K mg base 1 "_law_bases" 1 [] r__law_bases := ⟨_, _, _, _, _, He.glo_ok X Gm (c.fact 61 (f := .fa (.glo "_law_bases")) rfl), F__law_bases.kp, b__law_bases, .nil, fun _ => .nil, rfl, o__law_bases⟩
  obtain ⟨fd__law_class, F__law_class⟩ := c.def_ 6 (d := d6) rfl
  have o__law_class := ok__law_class (P := P) (w := w) (base := base) F__law_class G GX h__law_bases_hot
  have b__law_class : Binds K fd__law_class ["_law_e"] [] := FunD.bindsN F__law_class fun _ _ _ _ _ _ us hl => match us, hl with | [_], _ => rfl
  have h__law_class_hot : CallT true P w K mg base 2 "_law_class" 1 [] r__law_class := ⟨_, _, _, _, _, He.glo_ok X Gm (c.fact 62 (f := .fa (.glo "_law_class")) rfl), F__law_class.kp, b__law_class, .nil, fun _ => .nil, rfl, o__law_class⟩
  obtain ⟨fd__law_told, F__law_told⟩ := c.def_ 7 (d := d7) rfl
  have b__law_told : Binds K fd__law_told ["_law_act"] [] := FunD.bindsN F__law_told fun _ _ _ _ _ _ us hl => match us, hl with | [_], _ => rfl
  have h__law_told_told := ok__law_told (P := P) (w := w) (base := base) F__law_told (He.glo_ok X Gm (c.fact 63 (f := .fa (.glo "_law_told")) rfl)) b__law_told G GX h__law_class_hot
  obtain ⟨fd__law_is_name, F__law_is_name⟩ := c.def_ 8 (d := d8) rfl
  have o__law_is_name := ok__law_is_name (P := P) (w := w) (base := base) F__law_is_name G GX 
  have b__law_is_name : Binds K fd__law_is_name ["_law_thing"] [] := FunD.bindsN F__law_is_name fun _ _ _ _ _ _ us hl => match us, hl with | [_], _ => rfl
  have h__law_is_name_fn : CallOk true P w K mg base 1 "_law_is_name" 1 [] r__law_is_name := ⟨_, _, _, _, _, He.glo_ok X Gm (c.fact 64 (f := .fa (.glo "_law_is_name")) rfl), F__law_is_name.kp, b__law_is_name, .nil, fun _ => .nil, rfl, o__law_is_name⟩
  obtain ⟨fd__law_within, F__law_within⟩ := c.def_ 9 (d := d9) rfl
  have o__law_within := ok__law_within (P := P) (w := w) (base := base) F__law_within G GX 
  have b__law_within : Binds K fd__law_within ["_law_thing", "_law_least", "_law_most"] [] := FunD.bindsN F__law_within fun _ _ _ _ _ _ us hl => match us, hl with | [_, _, _], _ => rfl
  have h__law_within_fn : CallOk true P w K mg base 1 "_law_within" 3 [] r__law_within := ⟨_, _, _, _, _, He.glo_ok X Gm (c.fact 65 (f := .fa (.glo "_law_within")) rfl), F__law_within.kp, b__law_within, .nil, fun _ => .nil, rfl, o__law_within⟩
  obtain ⟨fd__law_wrong, F__law_wrong⟩ := c.def_ 10 (d := d10) rfl
  have o__law_wrong := ok__law_wrong (P := P) (w := w) (base := base) F__law_wrong G GX h__law_is_name_fn h__law_within_fn
  have b__law_wrong : Binds K fd__law_wrong ["_law_table_here"] [] := FunD.bindsN F__law_wrong fun _ _ _ _ _ _ us hl => match us, hl with | [_], _ => rfl
  have h__law_wrong_fn : CallOk true P w K mg base 2 "_law_wrong" 1 [] r__law_wrong := ⟨_, _, _, _, _, He.glo_ok X Gm (c.fact 66 (f := .fa (.glo "_law_wrong")) rfl), F__law_wrong.kp, b__law_wrong, .nil, fun _ => .nil, rfl, o__law_wrong⟩
  obtain ⟨fd_Program_functions, F_Program_functions⟩ := c.def_ 11 (d := d11) rfl
  have o_Program_functions := ok_Program_functions (P := P) (w := w) (base := base) F_Program_functions G GX 
  have b_Program_functions : Binds K fd_Program_functions ["self"] [] := FunD.bindsN F_Program_functions fun _ _ _ _ _ _ us hl => match us, hl with | [_], _ => rfl
  have h_Program_functions_prop : PropOk true P w K mg base 1 "Program" "functions" r_Program_functions := ⟨G.c_Program, _, _, _, _, pro_ok (c.fact 67 (f := .pro "Program" "functions") rfl), b_Program_functions, rfl, o_Program_functions⟩
  obtain ⟨fd_is_name, F_is_name⟩ := c.def_ 12 (d := d12) rfl
  have o_is_name := ok_is_name (P := P) (w := w) (base := base) F_is_name G GX 
  have b_is_name : Binds K fd_is_name ["value"] [] := FunD.bindsN F_is_name fun _ _ _ _ _ _ us hl => match us, hl with | [_], _ => rfl
  have h_is_name_fn : CallOk true P w K mg base 1 "is_name" 1 [] r_is_name := ⟨_, _, _, _, _, He.glo_ok X Gm (c.fact 68 (f := .fa (.glo "is_name")) rfl), F_is_name.kp, b_is_name, .nil, fun _ => .nil, rfl, o_is_name⟩
  obtain ⟨fd_is_integer, F_is_integer⟩ := c.def_ 13 (d := d13) rfl
  have o_is_integer := ok_is_integer (P := P) (w := w) (base := base) F_is_integer G GX 
  have b_is_integer : Binds K fd_is_integer ["value"] [] := FunD.bindsN F_is_integer fun _ _ _ _ _ _ us hl => match us, hl with | [_], _ => rfl
  have h_is_integer_fn : CallOk true P w K mg base 1 "is_integer" 1 [] r_is_integer := ⟨_, _, _, _, _, He.glo_ok X Gm (c.fact 69 (f := .fa (.glo "is_integer")) rfl), F_is_integer.kp, b_is_integer, .nil, fun _ => .nil, rfl, o_is_integer⟩
  obtain ⟨fd_is_between, F_is_between⟩ := c.def_ 14 (d := d14) rfl
  have o_is_between := ok_is_between (P := P) (w := w) (base := base) F_is_between G GX h_is_integer_fn
  have b_is_between : Binds K fd_is_between ["value", "least", "most"] [] := FunD.bindsN F_is_between fun _ _ _ _ _ _ us hl => match us, hl with | [_, _, _], _ => rfl
  have h_is_between_fn : CallOk true P w K mg base 2 "is_between" 3 [] r_is_between := ⟨_, _, _, _, _, He.glo_ok X Gm (c.fact 70 (f := .fa (.glo "is_between")) rfl), F_is_between.kp, b_is_between, .nil, fun _ => .nil, rfl, o_is_between⟩
  obtain ⟨fd_is_call, F_is_call⟩ := c.def_ 15 (d := d15) rfl
  have o_is_call := ok_is_call (P := P) (w := w) (base := base) F_is_call G GX h_is_name_fn h_is_between_fn
  have b_is_call : Binds K fd_is_call ["value"] [] := FunD.bindsN F_is_call fun _ _ _ _ _ _ us hl => match us, hl with | [_], _ => rfl
  have h_is_call_fn : CallOk true P w K mg base 3 "is_call" 1 [] r_is_call := ⟨_, _, _, _, _, He.glo_ok X Gm (c.fact 71 (f := .fa (.glo "is_call")) rfl), F_is_call.kp, b_is_call, .nil, fun _ => .nil, rfl, o_is_call⟩
  obtain ⟨fd_is_function, F_is_function⟩ := c.def_ 16 (d := d16) rfl
  have o_is_function := ok_is_function (P := P) (w := w) (base := base) F_is_function G GX h_is_name_fn h_is_between_fn h_is_call_fn
  have b_is_function : Binds K fd_is_function ["value"] [] := FunD.bindsN F_is_function fun _ _ _ _ _ _ us hl => match us, hl with | [_], _ => rfl
  have h_is_function_fn : CallOk true P w K mg base 4 "is_function" 1 [] r_is_function := ⟨_, _, _, _, _, He.glo_ok X Gm (c.fact 72 (f := .fa (.glo "is_function")) rfl), F_is_function.kp, b_is_function, .nil, fun _ => .nil, rfl, o_is_function⟩
  obtain ⟨fd_names_in, F_names_in⟩ := c.def_ 17 (d := d17) rfl
  have o_names_in := ok_names_in (P := P) (w := w) (base := base) F_names_in G GX 
  have b_names_in : Binds K fd_names_in ["functions"] [] := FunD.bindsN F_names_in fun _ _ _ _ _ _ us hl => match us, hl with | [_], _ => rfl
  have h_names_in_fn : CallOk true P w K mg base 1 "names_in" 1 [] r_names_in := ⟨_, _, _, _, _, He.glo_ok X Gm (c.fact 73 (f := .fa (.glo "names_in")) rfl), F_names_in.kp, b_names_in, .nil, fun _ => .nil, rfl, o_names_in⟩
  obtain ⟨fd_wrong_function, F_wrong_function⟩ := c.def_ 18 (d := d18) rfl
  have o_wrong_function := ok_wrong_function (P := P) (w := w) (base := base) F_wrong_function G GX h_is_function_fn h_names_in_fn
  have b_wrong_function : Binds K fd_wrong_function ["functions"] [] := FunD.bindsN F_wrong_function fun _ _ _ _ _ _ us hl => match us, hl with | [_], _ => rfl
  have h_wrong_function_fn : CallOk true P w K mg base 5 "wrong_function" 1 [] r_wrong_function := ⟨_, _, _, _, _, He.glo_ok X Gm (c.fact 74 (f := .fa (.glo "wrong_function")) rfl), F_wrong_function.kp, b_wrong_function, .nil, fun _ => .nil, rfl, o_wrong_function⟩
  obtain ⟨fd_check_functions, F_check_functions⟩ := c.def_ 19 (d := d19) rfl
  have o_check_functions := ok_check_functions (P := P) (w := w) (base := base) F_check_functions G GX h_wrong_function_fn
  have b_check_functions : Binds K fd_check_functions ["functions"] [] := FunD.bindsN F_check_functions fun _ _ _ _ _ _ us hl => match us, hl with | [_], _ => rfl
  have h_check_functions_fn : CallOk true P w K mg base 6 "check_functions" 1 [] r_check_functions := ⟨_, _, _, _, _, He.glo_ok X Gm (c.fact 75 (f := .fa (.glo "check_functions")) rfl), F_check_functions.kp, b_check_functions, .nil, fun _ => .nil, rfl, o_check_functions⟩
  obtain ⟨fd_Program_init, F_Program_init⟩ := c.def_ 20 (d := d20) rfl
  have o_Program_init := ok_Program_init (P := P) (w := w) (base := base) F_Program_init G GX h_check_functions_fn
  have b_Program_init : Binds K fd_Program_init ["self", "functions"] [] := FunD.bindsN F_Program_init fun _ _ _ _ _ _ us hl => match us, hl with | [_, _], _ => rfl
  have h_Program_init_make : MakeOk true P w K mg base 7 "Program" 2 [] r_Program_init := ⟨G.g_Program, _, _, _, _, _, He.mkr_ok (c.fact 76 (f := .fa (.mkr "Program")) rfl), b_Program_init, .nil, fun _ => .nil, rfl, o_Program_init⟩
  have h_Program_init_k0 : MakeKOk true P w K mg base 7 "Program" 2 ["functions"] [0] r_Program_init := ⟨G.g_Program, _, _, _, He.mkr_ok (c.fact 76 (f := .fa (.mkr "Program")) rfl), kb1 F_Program_init fun _ _ _ _ _ _ _ ws hl => match ws, hl with | [_], _ => rfl, rfl, o_Program_init⟩
  obtain ⟨fd__law_right, F__law_right⟩ := c.def_ 21 (d := d21) rfl
  have L__law_right := fl_of (c.fact 77 (f := .lam "_law_right" "_law_right.<locals>.<lambda>") rfl) F__law_right hTB
  have o__law_right := ok__law_right (P := P) (w := w) (base := base) F__law_right G GX h__law_table_fn h__law_ladle_fn h__law_bent_fn h__law_wrong_fn h__law_told_told h_Program_functions_prop h_Program_init_make h_Program_init_k0 L__law_right
  have b__law_right : Binds K fd__law_right ["_law_vat_here"] [] := FunD.bindsN F__law_right fun _ _ _ _ _ _ us hl => match us, hl with | [_], _ => rfl
  have h__law_right_fn : CallOk true P w K mg base 11 "_law_right" 1 [] r__law_right := ⟨_, _, _, _, _, He.glo_ok X Gm (c.fact 78 (f := .fa (.glo "_law_right")) rfl), F__law_right.kp, b__law_right, .nil, fun _ => .nil, rfl, o__law_right⟩
  obtain ⟨fd__law_vat, F__law_vat⟩ := c.def_ 22 (d := d22) rfl
  have o__law_vat := ok__law_vat (P := P) (w := w) (base := base) F__law_vat G GX 
  have b__law_vat : Binds K fd__law_vat ["_law_script", "_law_at"] [] := FunD.bindsN F__law_vat fun _ _ _ _ _ _ us hl => match us, hl with | [_, _], _ => rfl
  have h__law_vat_fn : CallOk true P w K mg base 1 "_law_vat" 2 [] r__law_vat := ⟨_, _, _, _, _, He.glo_ok X Gm (c.fact 79 (f := .fa (.glo "_law_vat")) rfl), F__law_vat.kp, b__law_vat, .nil, fun _ => .nil, rfl, o__law_vat⟩
  obtain ⟨fd_law, F_law⟩ := c.def_ 23 (d := d23) rfl
  have o_law := ok_law (P := P) (w := w) (base := base) F_law G GX h__law_right_fn h__law_vat_fn
  have b_law : Binds K fd_law ["_law_script"] [] := FunD.bindsN F_law fun _ _ _ _ _ _ us hl => match us, hl with | [_], _ => rfl
  exact ok_law (P := P) (w := w) (base := base) Fl G GX h__law_right_fn h__law_vat_fn
end Wk
set_option maxHeartbeats 4000000
open PySem PySem.W PySem.Calls PyProof.Rows
theorem PySem.Challenge.cw_budgetfolds_k03_functions_refused_holds : PySem.Challenge.rw_budgetfolds_k03_functions_refused.Holds := by
  w_on; o_law
  refine HandSHeadRun.head_any (r := OpenLaw.row PySem.Challenge.rw_budgetfolds_k03_functions_refused) (q := view (OpenLaw.row PySem.Challenge.rw_budgetfolds_k03_functions_refused).prog [63]) (H := Wk.hk) (ob := Wk.ob) (M := 40000) (loose := Wk.ls) (d := HandSHeadRun.topDef (OpenLaw.row PySem.Challenge.rw_budgetfolds_k03_functions_refused).prog 63) (kwd := []) Wk.ob_eq
    (by kernel_rfl) (fun s => by kernel_rfl) Wk.run (by kernel_rfl) (by kernel_rfl) (by kernel_rfl) (by rfl) (by first | assumption | decide +kernel) (by decide +kernel) ⟨rfl, rfl, rfl, rfl, rfl, by decide +kernel⟩ ?hw ?hc
  case hw => w_witness2
  case hc =>
    refine DL.walk_G (l := PySem.Challenge.rw_budgetfolds_k03_functions_refused) (n := 63) (k := 12) (x := "_law_script") (r := Wk.r_law) rfl (by decide) (by kernel_rfl) ⟨rfl, by decide, by decide⟩ ?F (fun ns h => Wk.law_true ns h)
    intro w mg fa h Y G hmg0
    obtain ⟨K, KX, hnl, c, ht⟩ := Y
    have hmg : mg ("law" : PySem.Str) = some (.ref fa) := by
      have e : (HandSHeadRun.topDef (OpenLaw.row PySem.Challenge.rw_budgetfolds_k03_functions_refused).prog 63).name = ("law" : PySem.Str) := by kernel_rfl
      rw [← e]
      exact hmg0
    obtain ⟨fd, hb, hF⟩ := Wk.facts (P := (PySem.Challenge.rw_budgetfolds_k03_functions_refused).prog) (w := w) ⟨by kernel_rfl, by kernel_rfl⟩ KX G hmg c
    exact ⟨K, fd, KX, hnl, ht, hb, hF⟩
