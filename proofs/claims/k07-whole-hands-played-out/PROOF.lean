import PyProof.Rows.All
import Wide.All
import OpenK.AllK
import Wide.FinOn
import HandS.ForMost
import HandS.Exc
import HandS.TryOnly
import HandS.ExcOwn
import HandS.WordsExc
import HandS.IsInst
import HandS.Wide
import HandS.EndBits
import HandS.ExcValue
import KE.KExcIs
import KE.KDictKeyed
import HandS.TupAny
import HandS.TupLe
import HandS.Deep
import KE.KTupSum
import HandS.Defaults
import PyProof.ReprRoads
import KE.GoesEnum
import HandS.TupMul
import PyProof.Rows.RegFStrParts
import HandS.Style
import KE.KRevSl
import HandS.SortRule
import HandS.Star
import HandS.TupSets
import KE.DataFind
import PySem.Challenge.RW_seenhands_k07_whole_hands_played_out
set_option Elab.async false
set_option linter.all false
set_option maxRecDepth 100000
set_option maxHeartbeats 4000000
namespace Z
open PySem PySem.Spec L2
/-! ## data, owned trees -/
inductive D where
  | non | bl (b : Bool) | int (i : Int) | str (x : Str) | lst (xs : List D) | tup (xs : List D) | dct (kvs : List (D × D)) | opq (v : V) | exc
inductive O where
  | frz (d : D) | lst (xs : List O) | dct (kvs : List (D × O))
mutual
def O.toD : O → D
  | .frz d => d
  | .lst xs => .lst (O.toDs xs)
  | .dct kvs => .dct (O.toDk kvs)
def O.toDs : List O → List D
  | [] => []
  | x :: r => x.toD :: O.toDs r
def O.toDk : List (D × O) → List (D × D)
  | [] => []
  | (k, x) :: r => (k, x.toD) :: O.toDk r
end
/-- the built-in kinds that an own exception is none of -/
def excNo : List String := ["int", "bool", "str", "tuple", "list", "dict"]
/-- an own exception class, as isinstance looks at it -/
structure ExcT (K : PySem.W.Frag) (C : Addr) : Prop where
  cl : (PySem.W.clsIn K C).isSome = true
  ga : PySem.W.findIn K (.ref C) "__getattribute__" = some (some (.builtin "BaseException.__getattribute__"))
  gg : ∃ gt, PySem.W.findIn K (.ref C) "__getattr__" = some gt
  sub : PySem.W.subIn K (.ref C) (.type "BaseException") = some true
  ca : PySem.W.findIn K (.ref C) "__class__" = some (some (.builtin "object.__class__"))
  sp : PySem.W.specialIn K (.builtin "object.__class__") "__get__" = some (some (.builtin "getset_descriptor.__get__"))
  tk : PySem.W.takesIn K (.builtin "object.__class__") = some true
  mr : PySem.W.mroIn K C (.type "object") = some true
  ki : ∀ n ∈ excNo, PySem.W.subIn K (.ref C) (.type n) = some false
def keyD : Key → D
  | .inl i => .int i
  | .inr x => .str x
/-! dicts whose keys are tuples of whole numbers, nested -/
mutual
def ihash : PySem.NestedKey → Int
  | .num i => hashInt i
  | .tup ks => reduceHash (Builtin.Tuple.tupleHashOf (ihashes ks))
  | _ => 0
def ihashes : List PySem.NestedKey → List Int
  | [] => []
  | k :: ks => ihash k :: ihashes ks
end
mutual
/-- such a datum as a key -/
def nkey : D → Option PySem.NestedKey
  | .int i => some (.num i)
  | .tup ds => (nkeys ds).map .tup
  | _ => none
def nkeys : List D → Option (List PySem.NestedKey)
  | [] => some []
  | d :: ds => (nkey d).bind fun k => (nkeys ds).map (k :: ·)
end
def nEntry (x : PySem.NestedKey × Addr × Value) : DictEntry := ⟨ihash x.1, .ref x.2.1, x.2.2⟩
/-- a dict with such keys, its keys' tuples and its values told -/
def DN (a : Addr) (xs : List (PySem.NestedKey × Addr × V)) : HO := .ext fun h => xs.length ≤ sizeLine ∧ (a == sysModules) = false ∧ ∃ ys : List (PySem.NestedKey × Addr × Value),
  Paired (fun (x : PySem.NestedKey × Addr × V) (y : PySem.NestedKey × Addr × Value) => x.1 = y.1 ∧ x.2.1 = y.2.1 ∧ RelV x.2.2 y.2.2) xs ys ∧
  ∃ o es ep, h.get? a = some o ∧ o.ExactDict ∧ o.data = .dict es ep ∧ es.toList = ys.map nEntry ∧ (ys.map (·.1)).Nodup
section
variable (K : PySem.W.Frag) (F H : Hp)
mutual
def Rp : D → V → Prop
  | .non, v => v = .non
  | .bl b, v => v = .bl b
  | .int i, v => v = .int i
  | .str x, v => v = .str x
  | .lst ds, v => ∃ a xs, v = .ref a ∧ SqL K F a xs ∧ RpA ds xs
  | .tup ds, v => ∃ a xs, v = .ref a ∧ SqT K F a xs ∧ RpA ds xs
  | .dct kvs, v => ∃ a, v = .ref a ∧ ((∃ ks, Rd F a (.dK ks) ∧ RpK kvs ks) ∨ ∃ xs, Rd F a (DN a xs) ∧ RpN kvs xs)
  | .opq u, v => v = u
  | .exc, v => ∃ a C, v = .ref a ∧ F a = some (ExO (.ref C) a) ∧ ExcT K C
def RpA : List D → List V → Prop
  | [], vs => vs = []
  | d :: ds, vs => ∃ x r, vs = x :: r ∧ Rp d x ∧ RpA ds r
def RpK : List (D × D) → List (Key × V) → Prop
  | [], vs => vs = []
  | (k, d) :: ds, vs => ∃ q x r, vs = (q, x) :: r ∧ keyD q = k ∧ Rp d x ∧ RpK ds r
def RpN : List (D × D) → List (PySem.NestedKey × Addr × V) → Prop
  | [], vs => vs = []
  | (k, d) :: ds, vs => ∃ q b x r, vs = (q, b, x) :: r ∧ nkey k = some q ∧ Rp k (.ref b) ∧ Rp d x ∧ RpN ds r
end
mutual
def RO : O → List Addr → V → Prop
  | .frz d, fp, v => fp = [] ∧ Rp K F d v
  | .lst os, fp, v => ∃ a xs fr, v = .ref a ∧ fp = a :: fr ∧ H a = some (.lst xs) ∧ ROA os fr xs
  | .dct kvs, fp, v => ∃ a fr, v = .ref a ∧ fp = a :: fr ∧ ((∃ ks, H a = some (.dK ks) ∧ ROK kvs fr ks) ∨ ∃ xs, H a = some (DN a xs) ∧ RON kvs fr xs)
def ROA : List O → List Addr → List V → Prop
  | [], fp, vs => fp = [] ∧ vs = []
  | o :: os, fp, vs => ∃ f1 f2 x r, fp = f1 ++ f2 ∧ vs = x :: r ∧ RO o f1 x ∧ ROA os f2 r
def ROK : List (D × O) → List Addr → List (Key × V) → Prop
  | [], fp, vs => fp = [] ∧ vs = []
  | (k, o) :: os, fp, vs => ∃ f1 f2 q x r, fp = f1 ++ f2 ∧ vs = (q, x) :: r ∧ keyD q = k ∧ RO o f1 x ∧ ROK os f2 r
def RON : List (D × O) → List Addr → List (PySem.NestedKey × Addr × V) → Prop
  | [], fp, vs => fp = [] ∧ vs = []
  | (k, o) :: os, fp, vs => ∃ f1 f2 q b x r, fp = f1 ++ f2 ∧ vs = (q, b, x) :: r ∧ nkey k = some q ∧ Rp K F k (.ref b) ∧ RO o f1 x ∧ RON os f2 r
end
end
theorem Same.rd {F F' : Hp} (s : Same F F') {a : Addr} {u : HO} (h : Rd F a u) : Rd F' a u := h.elim (fun h => .inl (s _ _ h)) fun ⟨o, h⟩ => .inr ⟨o, s _ _ h⟩
theorem Same.sql {K : PySem.W.Frag} {F F' : Hp} (s : Same F F') {a : Addr} {xs : List V} (h : SqL K F a xs) : SqL K F' a xs := h.elim (fun h => .inl (Same.rd s h)) .inr
theorem Same.sqt {K : PySem.W.Frag} {F F' : Hp} (s : Same F F') {a : Addr} {xs : List V} (h : SqT K F a xs) : SqT K F' a xs := h.elim (fun h => .inl (Same.rd s h)) .inr
section
variable {K : PySem.W.Frag} {F F' H H' : Hp}
mutual
theorem Rp.mono (s : Same F F') : ∀ (d : D) (v : V), Rp K F d v → Rp K F' d v
  | .non, _, h => h
  | .bl _, _, h => h
  | .int _, _, h => h
  | .str _, _, h => h
  | .opq _, _, h => h
  | .exc, _, h => by
    obtain ⟨a, C, e, h1, h2⟩ := h
    exact ⟨a, C, e, s _ _ h1, h2⟩
  | .lst ds, _, h => by
    obtain ⟨a, xs, e, h1, h2⟩ := h
    exact ⟨a, xs, e, Same.sql s h1, RpA.mono s ds xs h2⟩
  | .tup ds, _, h => by
    obtain ⟨a, xs, e, h1, h2⟩ := h
    exact ⟨a, xs, e, Same.sqt s h1, RpA.mono s ds xs h2⟩
  | .dct ds, _, h => by
    obtain ⟨a, e, h⟩ := h
    refine ⟨a, e, ?_⟩
    rcases h with ⟨xs, h1, h2⟩ | ⟨xs, h1, h2⟩
    · exact .inl ⟨xs, Same.rd s h1, RpK.mono s ds xs h2⟩
    · exact .inr ⟨xs, Same.rd s h1, RpN.mono s ds xs h2⟩
theorem RpA.mono (s : Same F F') : ∀ (ds : List D) (vs : List V), RpA K F ds vs → RpA K F' ds vs
  | [], _, h => h
  | d :: ds, _, h => by
    obtain ⟨x, r, e, h1, h2⟩ := h
    exact ⟨x, r, e, Rp.mono s d x h1, RpA.mono s ds r h2⟩
theorem RpK.mono (s : Same F F') : ∀ (ds : List (D × D)) (vs : List (Key × V)), RpK K F ds vs → RpK K F' ds vs
  | [], _, h => h
  | (k, d) :: ds, _, h => by
    obtain ⟨q, x, r, e, e2, h1, h2⟩ := h
    exact ⟨q, x, r, e, e2, Rp.mono s d x h1, RpK.mono s ds r h2⟩
theorem RpN.mono (s : Same F F') : ∀ (ds : List (D × D)) (vs : List (PySem.NestedKey × Addr × V)), RpN K F ds vs → RpN K F' ds vs
  | [], _, h => h
  | (k, d) :: ds, _, h => by
    obtain ⟨q, b, x, r, e, e2, h0, h1, h2⟩ := h
    exact ⟨q, b, x, r, e, e2, Rp.mono s k _ h0, Rp.mono s d x h1, RpN.mono s ds r h2⟩
end
mutual
theorem RO.mono (s : Same F F') : ∀ (o : O) (fp : List Addr) (v : V), (∀ b ∈ fp, ∀ u, H b = some u → H' b = some u) → RO K F H o fp v → RO K F' H' o fp v
  | .frz d, _, v, _, h => ⟨h.1, Rp.mono s d v h.2⟩
  | .lst os, _, _, k, h => by
    obtain ⟨a, xs, fr, e1, e2, h1, h2⟩ := h
    subst e2
    exact ⟨a, xs, fr, e1, rfl, k a List.mem_cons_self _ h1, ROA.mono s os fr xs (fun b hb => k b (List.mem_cons_of_mem _ hb)) h2⟩
  | .dct os, _, _, k, h => by
    obtain ⟨a, fr, e1, e2, h⟩ := h
    subst e2
    refine ⟨a, fr, e1, rfl, ?_⟩
    rcases h with ⟨xs, h1, h2⟩ | ⟨xs, h1, h2⟩
    · exact .inl ⟨xs, k a List.mem_cons_self _ h1, ROK.mono s os fr xs (fun b hb => k b (List.mem_cons_of_mem _ hb)) h2⟩
    · exact .inr ⟨xs, k a List.mem_cons_self _ h1, RON.mono s os fr xs (fun b hb => k b (List.mem_cons_of_mem _ hb)) h2⟩
theorem ROA.mono (s : Same F F') : ∀ (os : List O) (fp : List Addr) (vs : List V), (∀ b ∈ fp, ∀ u, H b = some u → H' b = some u) → ROA K F H os fp vs → ROA K F' H' os fp vs
  | [], _, _, _, h => h
  | o :: os, _, _, k, h => by
    obtain ⟨f1, f2, x, r, e1, e2, h1, h2⟩ := h
    subst e1
    exact ⟨f1, f2, x, r, rfl, e2, RO.mono s o f1 x (fun b hb => k b (List.mem_append_left _ hb)) h1, ROA.mono s os f2 r (fun b hb => k b (List.mem_append_right _ hb)) h2⟩
theorem ROK.mono (s : Same F F') : ∀ (os : List (D × O)) (fp : List Addr) (vs : List (Key × V)), (∀ b ∈ fp, ∀ u, H b = some u → H' b = some u) → ROK K F H os fp vs → ROK K F' H' os fp vs
  | [], _, _, _, h => h
  | (_, o) :: os, _, _, k, h => by
    obtain ⟨f1, f2, q, x, r, e1, e2, e3, h1, h2⟩ := h
    subst e1
    exact ⟨f1, f2, q, x, r, rfl, e2, e3, RO.mono s o f1 x (fun b hb => k b (List.mem_append_left _ hb)) h1, ROK.mono s os f2 r (fun b hb => k b (List.mem_append_right _ hb)) h2⟩
theorem RON.mono (s : Same F F') : ∀ (os : List (D × O)) (fp : List Addr) (vs : List (PySem.NestedKey × Addr × V)), (∀ b ∈ fp, ∀ u, H b = some u → H' b = some u) → RON K F H os fp vs → RON K F' H' os fp vs
  | [], _, _, _, h => h
  | (d, o) :: os, _, _, k, h => by
    obtain ⟨f1, f2, q, c, x, r, e1, e2, e3, h0, h1, h2⟩ := h
    subst e1
    exact ⟨f1, f2, q, c, x, r, rfl, e2, e3, Rp.mono s d _ h0, RO.mono s o f1 x (fun b hb => k b (List.mem_append_left _ hb)) h1, RON.mono s os f2 r (fun b hb => k b (List.mem_append_right _ hb)) h2⟩
end
mutual
theorem RO.there : ∀ (o : O) (fp : List Addr) (v : V), RO K F H o fp v → ∀ b ∈ fp, ∃ u, H b = some u
  | .frz d, _, v, h => fun b hb => by rw [h.1] at hb; cases hb
  | .lst os, _, _, h => fun b hb => by
    obtain ⟨a, xs, fr, e1, e2, h1, h2⟩ := h
    subst e2
    rcases List.mem_cons.mp hb with e | hb
    · exact ⟨_, e ▸ h1⟩
    · exact ROA.there os fr xs h2 b hb
  | .dct os, _, _, h => fun b hb => by
    obtain ⟨a, fr, e1, e2, h⟩ := h
    subst e2
    rcases h with ⟨xs, h1, h2⟩ | ⟨xs, h1, h2⟩
    · rcases List.mem_cons.mp hb with e | hb
      · exact ⟨_, e ▸ h1⟩
      · exact ROK.there os fr xs h2 b hb
    · rcases List.mem_cons.mp hb with e | hb
      · exact ⟨DN a xs, e ▸ h1⟩
      · exact RON.there os fr xs h2 b hb
theorem ROA.there : ∀ (os : List O) (fp : List Addr) (vs : List V), ROA K F H os fp vs → ∀ b ∈ fp, ∃ u, H b = some u
  | [], _, _, h => fun b hb => by rw [h.1] at hb; cases hb
  | o :: os, _, _, h => fun b hb => by
    obtain ⟨f1, f2, x, r, e1, e2, h1, h2⟩ := h
    subst e1
    rcases List.mem_append.mp hb with hb | hb
    · exact RO.there o f1 x h1 b hb
    · exact ROA.there os f2 r h2 b hb
theorem ROK.there : ∀ (os : List (D × O)) (fp : List Addr) (vs : List (Key × V)), ROK K F H os fp vs → ∀ b ∈ fp, ∃ u, H b = some u
  | [], _, _, h => fun b hb => by rw [h.1] at hb; cases hb
  | (_, o) :: os, _, _, h => fun b hb => by
    obtain ⟨f1, f2, q, x, r, e1, e2, e3, h1, h2⟩ := h
    subst e1
    rcases List.mem_append.mp hb with hb | hb
    · exact RO.there o f1 x h1 b hb
    · exact ROK.there os f2 r h2 b hb
theorem RON.there : ∀ (os : List (D × O)) (fp : List Addr) (vs : List (PySem.NestedKey × Addr × V)), RON K F H os fp vs → ∀ b ∈ fp, ∃ u, H b = some u
  | [], _, _, h => fun b hb => by rw [h.1] at hb; cases hb
  | (_, o) :: os, _, _, h => fun b hb => by
    obtain ⟨f1, f2, q, c, x, r, e1, e2, e3, h0, h1, h2⟩ := h
    subst e1
    rcases List.mem_append.mp hb with hb | hb
    · exact RO.there o f1 x h1 b hb
    · exact RON.there os f2 r h2 b hb
end
mutual
/-- a tree as data, over a heap that holds both -/
theorem RO.data {G : Hp} (s : Same F G) : ∀ (o : O) (fp : List Addr) (v : V), (∀ b ∈ fp, ∀ u, H b = some u → G b = some u) → RO K F H o fp v → Rp K G o.toD v
  | .frz d, _, v, _, h => Rp.mono s d v h.2
  | .lst os, _, _, k, h => by
    obtain ⟨a, xs, fr, e1, e2, h1, h2⟩ := h
    subst e2
    exact ⟨a, xs, e1, .inl (.inl (k a List.mem_cons_self _ h1)), ROA.data s os fr xs (fun b hb => k b (List.mem_cons_of_mem _ hb)) h2⟩
  | .dct os, _, _, k, h => by
    obtain ⟨a, fr, e1, e2, h⟩ := h
    subst e2
    refine ⟨a, e1, ?_⟩
    rcases h with ⟨xs, h1, h2⟩ | ⟨xs, h1, h2⟩
    · exact .inl ⟨xs, .inl (k a List.mem_cons_self _ h1), ROK.data s os fr xs (fun b hb => k b (List.mem_cons_of_mem _ hb)) h2⟩
    · exact .inr ⟨xs, .inl (k a List.mem_cons_self _ h1), RON.data s os fr xs (fun b hb => k b (List.mem_cons_of_mem _ hb)) h2⟩
theorem ROA.data {G : Hp} (s : Same F G) : ∀ (os : List O) (fp : List Addr) (vs : List V), (∀ b ∈ fp, ∀ u, H b = some u → G b = some u) → ROA K F H os fp vs → RpA K G (O.toDs os) vs
  | [], _, _, _, h => h.2
  | o :: os, _, _, k, h => by
    obtain ⟨f1, f2, x, r, e1, e2, h1, h2⟩ := h
    subst e1
    exact ⟨x, r, e2, RO.data s o f1 x (fun b hb => k b (List.mem_append_left _ hb)) h1, ROA.data s os f2 r (fun b hb => k b (List.mem_append_right _ hb)) h2⟩
theorem ROK.data {G : Hp} (s : Same F G) : ∀ (os : List (D × O)) (fp : List Addr) (vs : List (Key × V)), (∀ b ∈ fp, ∀ u, H b = some u → G b = some u) → ROK K F H os fp vs → RpK K G (O.toDk os) vs
  | [], _, _, _, h => h.2
  | (_, o) :: os, _, _, k, h => by
    obtain ⟨f1, f2, q, x, r, e1, e2, e3, h1, h2⟩ := h
    subst e1
    exact ⟨q, x, r, e2, e3, RO.data s o f1 x (fun b hb => k b (List.mem_append_left _ hb)) h1, ROK.data s os f2 r (fun b hb => k b (List.mem_append_right _ hb)) h2⟩
theorem RON.data {G : Hp} (s : Same F G) : ∀ (os : List (D × O)) (fp : List Addr) (vs : List (PySem.NestedKey × Addr × V)), (∀ b ∈ fp, ∀ u, H b = some u → G b = some u) → RON K F H os fp vs → RpN K G (O.toDk os) vs
  | [], _, _, _, h => h.2
  | (d, o) :: os, _, _, k, h => by
    obtain ⟨f1, f2, q, c, x, r, e1, e2, e3, h0, h1, h2⟩ := h
    subst e1
    exact ⟨q, c, x, r, e2, e3, Rp.mono s d _ h0, RO.data s o f1 x (fun b hb => k b (List.mem_append_left _ hb)) h1, RON.data s os f2 r (fun b hb => k b (List.mem_append_right _ hb)) h2⟩
end
/-- frozen items as a tree -/
theorem ROA.of_data : ∀ (ds : List D) (vs : List V), RpA K F ds vs → ROA K F H (ds.map O.frz) [] vs
  | [], _, h => ⟨rfl, h⟩
  | d :: ds, _, h => by
    obtain ⟨x, r, e, h1, h2⟩ := h
    exact ⟨[], [], x, r, rfl, e, ⟨rfl, h1⟩, ROA.of_data ds r h2⟩
theorem toDs_frz : ∀ ds : List D, O.toDs (ds.map O.frz) = ds
  | [] => rfl
  | d :: ds => by
    show d :: O.toDs (ds.map O.frz) = d :: ds
    rw [toDs_frz ds]
theorem RpA.length : ∀ {ds : List D} {vs : List V}, RpA K F ds vs → ds.length = vs.length
  | [], _, h => by rw [show _ = [] from h]; rfl
  | d :: ds, _, h => by
    obtain ⟨x, r, e, h1, h2⟩ := h
    rw [e, List.length_cons, List.length_cons, RpA.length h2]
theorem RpA.get : ∀ {ds : List D} {vs : List V} {i : Nat} {d : D}, RpA K F ds vs → ds[i]? = some d → ∃ v, vs[i]? = some v ∧ Rp K F d v
  | [], _, _, _, _, e => by simp at e
  | d :: ds, _, 0, d', h, e => by
    obtain ⟨x, r, e1, h1, h2⟩ := h
    have e2 : d = d' := by simpa using e
    subst e2
    exact ⟨x, by rw [e1]; rfl, h1⟩
  | d :: ds, _, i + 1, d', h, e => by
    obtain ⟨x, r, e1, h1, h2⟩ := h
    obtain ⟨v, q1, q2⟩ := RpA.get (i := i) h2 (by simpa using e)
    exact ⟨v, by rw [e1]; simpa using q1, q2⟩
theorem RpA.append : ∀ {ds es : List D} {vs us : List V}, RpA K F ds vs → RpA K F es us → RpA K F (ds ++ es) (vs ++ us)
  | [], _, _, _, h, k => by rw [show _ = [] from h]; exact k
  | d :: ds, _, _, _, h, k => by
    obtain ⟨x, r, e1, h1, h2⟩ := h
    rw [e1]
    exact ⟨x, _, rfl, h1, RpA.append h2 k⟩
theorem RpA.drop : ∀ {ds : List D} {vs : List V} (n : Nat), RpA K F ds vs → RpA K F (ds.drop n) (vs.drop n)
  | _, _, 0, h => by simpa using h
  | [], _, n + 1, h => by rw [show _ = [] from h]; exact rfl
  | d :: ds, _, n + 1, h => by
    obtain ⟨x, r, e1, h1, h2⟩ := h
    rw [e1]
    simpa using RpA.drop n h2
theorem RpA.take : ∀ {ds : List D} {vs : List V} (n : Nat), RpA K F ds vs → RpA K F (ds.take n) (vs.take n)
  | _, _, 0, h => by simp [RpA]
  | [], _, n + 1, h => by rw [show _ = [] from h]; exact rfl
  | d :: ds, _, n + 1, h => by
    obtain ⟨x, r, e1, h1, h2⟩ := h
    rw [e1]
    exact ⟨x, _, rfl, h1, RpA.take n h2⟩
end

/-! ## the state -/
abbrev Env := List (Option O)
section
variable (K : PySem.W.Frag) (F H : Hp)
def Slots : Env → List Addr → St → Prop
  | [], fp, σ => fp = [] ∧ σ = []
  | none :: ρ, fp, σ => ∃ x r, σ = x :: r ∧ Slots ρ fp r
  | some o :: ρ, fp, σ => ∃ f1 f2 v r, fp = f1 ++ f2 ∧ σ = some v :: r ∧ RO K F H o f1 v ∧ Slots ρ f2 r
structure Rel (fp : List Addr) (σ : St) (ρ : Env) : Prop where
  sub : Same F H
  fre : ∀ b ∈ fp, F b = none
  nd : fp.Nodup
  sl : Slots K F H ρ fp σ
end
structure Stp (F H : Hp) (fp : List Addr) (F' H' : Hp) (fp' : List Addr) : Prop where
  sub : Same F F'
  keep : ∀ b o, H b = some o → b ∉ fp → H' b = some o
  new : ∀ b, F' b ≠ none → F b ≠ none ∨ H b = none ∨ b ∈ fp
  own : ∀ b ∈ fp', b ∈ fp ∨ H b = none
theorem Stp.refl {F H : Hp} {fp : List Addr} : Stp F H fp F H fp := ⟨Same.refl F, fun _ _ h _ => h, fun _ h => .inl h, fun _ h => .inl h⟩
theorem Stp.less {F H : Hp} {fp fp' : List Addr} (h : ∀ b ∈ fp', b ∈ fp) : Stp F H fp F H fp' := ⟨Same.refl F, fun _ _ h _ => h, fun _ h => .inl h, fun b hb => .inl (h b hb)⟩
theorem Stp.trans {F H F1 H1 F2 H2 : Hp} {fp fp1 fp2 : List Addr} (a : Stp F H fp F1 H1 fp1) (b : Stp F1 H1 fp1 F2 H2 fp2) : Stp F H fp F2 H2 fp2 := by
  have free : ∀ c, H1 c = none → H c = none ∨ c ∈ fp := fun c h => by
    cases q : H c with
    | none => exact .inl rfl
    | some o =>
      by_cases hc : c ∈ fp
      · exact .inr hc
      · rw [a.keep c o q hc] at h; cases h
  refine ⟨a.sub.trans b.sub, fun c o h n => ?_, fun c h => ?_, fun c h => ?_⟩
  · refine b.keep c o (a.keep c o h n) fun hc => ?_
    rcases a.own c hc with z | z
    · exact n z
    · rw [h] at z; cases z
  · rcases b.new c h with z | z | z
    · exact a.new c z
    · exact .inr (free c z)
    · rcases a.own c z with z | z
      · exact .inr (.inr z)
      · exact .inr (.inl z)
  · rcases b.own c h with z | z
    · exact a.own c z
    · exact (free c z).elim .inr .inl
section
variable {K : PySem.W.Frag} {F F' H H' : Hp} {fp : List Addr} {σ : St} {ρ : Env}
theorem Slots.mono (s : Same F F') : ∀ (ρ : Env) (fp : List Addr) (σ : St), (∀ b ∈ fp, ∀ u, H b = some u → H' b = some u) → Slots K F H ρ fp σ → Slots K F' H' ρ fp σ
  | [], _, _, _, h => h
  | none :: ρ, fp, _, k, h => by
    obtain ⟨x, r, e, h⟩ := h
    exact ⟨x, r, e, Slots.mono s ρ fp r k h⟩
  | some o :: ρ, _, _, k, h => by
    obtain ⟨f1, f2, v, r, e1, e2, h1, h2⟩ := h
    subst e1
    exact ⟨f1, f2, v, r, rfl, e2, RO.mono s o f1 v (fun b hb => k b (List.mem_append_left _ hb)) h1, Slots.mono s ρ f2 r (fun b hb => k b (List.mem_append_right _ hb)) h2⟩
theorem Slots.there : ∀ (ρ : Env) (fp : List Addr) (σ : St), Slots K F H ρ fp σ → ∀ b ∈ fp, ∃ u, H b = some u
  | [], _, _, h => fun b hb => by rw [h.1] at hb; cases hb
  | none :: ρ, fp, _, h => by
    obtain ⟨x, r, e, h⟩ := h
    exact Slots.there ρ fp r h
  | some o :: ρ, _, _, h => fun b hb => by
    obtain ⟨f1, f2, v, r, e1, e2, h1, h2⟩ := h
    subst e1
    rcases List.mem_append.mp hb with hb | hb
    · exact RO.there o f1 v h1 b hb
    · exact Slots.there ρ f2 r h2 b hb
theorem Slots.length : ∀ (ρ : Env) (fp : List Addr) (σ : St), Slots K F H ρ fp σ → ρ.length = σ.length
  | [], _, _, h => by rw [h.2]; rfl
  | none :: ρ, fp, _, h => by
    obtain ⟨x, r, e, h⟩ := h
    rw [e, List.length_cons, List.length_cons, Slots.length ρ fp r h]
  | some o :: ρ, _, _, h => by
    obtain ⟨f1, f2, v, r, e1, e2, h1, h2⟩ := h
    rw [e2, List.length_cons, List.length_cons, Slots.length ρ f2 r h2]
theorem Slots.take : ∀ (ρ : Env) (fp : List Addr) (σ : St) (i : Nat) (o : O), Slots K F H ρ fp σ → ρ[i]? = some (some o) →
    ∃ v f1 f2, σ[i]? = some (some v) ∧ RO K F H o f1 v ∧ Slots K F H (ρ.set i none) f2 σ ∧ fp.Perm (f1 ++ f2)
  | [], _, _, _, _, _, e => by simp at e
  | none :: ρ, _, _, 0, _, _, e => by simp at e
  | none :: ρ, fp, _, i + 1, o, h, e => by
    obtain ⟨x, r, rfl, h⟩ := h
    obtain ⟨v, f1, f2, q1, q2, q3, q4⟩ := Slots.take ρ fp r i o h (by simpa using e)
    exact ⟨v, f1, f2, by simpa using q1, q2, ⟨x, r, rfl, q3⟩, q4⟩
  | some o' :: ρ, _, _, 0, o, h, e => by
    obtain ⟨f1, f2, v, r, rfl, rfl, h1, h2⟩ := h
    have e' : o' = o := by simpa using e
    subst e'
    exact ⟨v, f1, f2, rfl, h1, ⟨_, r, rfl, h2⟩, List.Perm.refl _⟩
  | some o' :: ρ, _, _, i + 1, o, h, e => by
    obtain ⟨f1, f2, v, r, rfl, rfl, h1, h2⟩ := h
    obtain ⟨v', g1, g2, q1, q2, q3, q4⟩ := Slots.take ρ f2 r i o h2 (by simpa using e)
    refine ⟨v', g1, f1 ++ g2, by simpa using q1, q2, ⟨f1, g2, v, r, rfl, rfl, h1, q3⟩, ?_⟩
    exact (q4.append_left f1).trans (by rw [← List.append_assoc, ← List.append_assoc]; exact List.Perm.append_right g2 (List.perm_append_comm))
theorem Slots.put : ∀ (ρ : Env) (fp : List Addr) (σ : St) (i : Nat) (o : O) (f : List Addr) (v : V), Slots K F H ρ fp σ → i < ρ.length → RO K F H o f v →
    ∃ f2 f', f2.Sublist fp ∧ f'.Perm (f ++ f2) ∧ Slots K F H (ρ.set i (some o)) f' (σ.set i (some v))
  | [], _, _, _, _, _, _, _, e, _ => by simp at e
  | none :: ρ, fp, _, 0, o, f, v, h, _, ho => by
    obtain ⟨x, r, rfl, h⟩ := h
    exact ⟨fp, f ++ fp, List.Sublist.refl _, List.Perm.refl _, ⟨f, fp, v, r, rfl, rfl, ho, h⟩⟩
  | none :: ρ, fp, _, i + 1, o, f, v, h, e, ho => by
    obtain ⟨x, r, rfl, h⟩ := h
    obtain ⟨f2, f', q1, q2, q3⟩ := Slots.put ρ fp r i o f v h (by simpa using e) ho
    exact ⟨f2, f', q1, q2, ⟨x, _, rfl, q3⟩⟩
  | some o' :: ρ, _, _, 0, o, f, v, h, _, ho => by
    obtain ⟨g1, g2, v', r, rfl, rfl, h1, h2⟩ := h
    exact ⟨g2, f ++ g2, List.sublist_append_right _ _, List.Perm.refl _, ⟨f, g2, v, r, rfl, rfl, ho, h2⟩⟩
  | some o' :: ρ, _, _, i + 1, o, f, v, h, e, ho => by
    obtain ⟨g1, g2, v', r, rfl, rfl, h1, h2⟩ := h
    obtain ⟨f2, f', q1, q2, q3⟩ := Slots.put ρ g2 r i o f v h2 (by simpa using e) ho
    refine ⟨g1 ++ f2, g1 ++ f', List.Sublist.append_left q1 g1, ?_, ⟨g1, f', v', _, rfl, rfl, h1, q3⟩⟩
    refine (q2.append_left g1).trans ?_
    rw [← List.append_assoc, ← List.append_assoc]
    exact List.Perm.append_right f2 List.perm_append_comm
theorem Slots.app : ∀ (ρ1 : Env) (fp : List Addr) (σ1 : St) {ρ2 : Env} {σ2 : St}, Slots K F H (ρ1 ++ ρ2) fp (σ1 ++ σ2) → ρ1.length = σ1.length → ∃ f1 f2, fp = f1 ++ f2 ∧ Slots K F H ρ1 f1 σ1 ∧ Slots K F H ρ2 f2 σ2
  | [], fp, [], _, _, h, _ => ⟨[], fp, rfl, ⟨rfl, rfl⟩, h⟩
  | [], _, _ :: _, _, _, _, e => by simp at e
  | _ :: _, _, [], _, _, _, e => by simp at e
  | none :: ρ1, fp, x :: σ1, _, _, h, e => by
    obtain ⟨y, r, e1, h⟩ := h
    injection e1 with e1 e2
    subst e1 e2
    obtain ⟨f1, f2, q1, q2, q3⟩ := Slots.app ρ1 fp σ1 h (by simpa using e)
    exact ⟨f1, f2, q1, ⟨_, _, rfl, q2⟩, q3⟩
  | some o :: ρ1, _, x :: σ1, _, _, h, e => by
    obtain ⟨g1, g2, v, r, rfl, e1, h1, h2⟩ := h
    injection e1 with e1 e2
    subst e1 e2
    obtain ⟨f1, f2, q1, q2, q3⟩ := Slots.app ρ1 g2 σ1 h2 (by simpa using e)
    subst q1
    exact ⟨g1 ++ f1, f2, (List.append_assoc ..).symm, ⟨g1, f1, v, _, rfl, rfl, h1, q2⟩, q3⟩
theorem Slots.join : ∀ (ρ1 : Env) (f1 : List Addr) (σ1 : St) {ρ2 : Env} {σ2 : St} {f2 : List Addr}, Slots K F H ρ1 f1 σ1 → Slots K F H ρ2 f2 σ2 → Slots K F H (ρ1 ++ ρ2) (f1 ++ f2) (σ1 ++ σ2)
  | [], _, _, _, _, _, h, k => by rw [h.1, h.2]; exact k
  | none :: ρ1, fp, _, _, _, _, h, k => by
    obtain ⟨x, r, e, h⟩ := h
    rw [e]
    exact ⟨x, _, rfl, Slots.join ρ1 fp r h k⟩
  | some o :: ρ1, _, _, _, _, f2, h, k => by
    obtain ⟨g1, g2, v, r, e1, e2, h1, h2⟩ := h
    rw [e1, e2]
    exact ⟨g1, g2 ++ f2, v, _, List.append_assoc .., rfl, h1, Slots.join ρ1 g2 r h2 k⟩
end
end Z

namespace Z
open PySem PySem.Spec L2
section
variable {K : PySem.W.Frag} {F F' H H' : Hp} {fp : List Addr} {σ : St} {ρ : Env}
theorem Rel.there (r : Rel K F H fp σ ρ) : ∀ b ∈ fp, ∃ u, H b = some u := Slots.there ρ fp σ r.sl
theorem Rel.len (r : Rel K F H fp σ ρ) : ρ.length = σ.length := Slots.length ρ fp σ r.sl
/-- objects are laid, some of them frozen -/
structure Ext (F H F' H' : Hp) : Prop where
  sub : Same F F'
  keep : Same H H'
  inn : Same F' H'
  new : ∀ b, F' b ≠ none → F b ≠ none ∨ H b = none
theorem Ext.refl (s : Same F H) : Ext F H F H := ⟨Same.refl F, Same.refl H, s, fun _ h => .inl h⟩
theorem Ext.trans {F1 H1 : Hp} (a : Ext F H F' H') (b : Ext F' H' F1 H1) : Ext F H F1 H1 := by
  refine ⟨a.sub.trans b.sub, a.keep.trans b.keep, b.inn, fun c h => ?_⟩
  rcases b.new c h with z | z
  · exact a.new c z
  · exact .inr (a.keep.free z)
theorem same_upd {H : Hp} {p : Addr} {o : HO} (h : H p = none) : Same H (upd H p o) := fun b x e => by
  rw [upd_ne (ne_of_none e h)]
  exact e
theorem Ext.one {p : Addr} {o : HO} (s : Same F H) (h : H p = none) : Ext F H (upd F p o) (upd H p o) := by
  refine ⟨same_upd (s.free h), same_upd h, fun b u e => ?_, fun b e => ?_⟩
  · by_cases q : b = p
    · subst q; rw [upd_same] at e ⊢; exact e
    · rw [upd_ne q] at e ⊢; exact s b u e
  · by_cases q : b = p
    · subst q; exact .inr h
    · rw [upd_ne q] at e; exact .inl e
theorem Rel.ext (r : Rel K F H fp σ ρ) (x : Ext F H F' H') : Rel K F' H' fp σ ρ ∧ Stp F H fp F' H' fp := by
  refine ⟨⟨x.inn, fun b hb => ?_, r.nd, Slots.mono x.sub ρ fp σ (fun b _ u e => x.keep b u e) r.sl⟩, ⟨x.sub, fun b o e _ => x.keep b o e, fun b h => (x.new b h).elim .inl fun z => .inr (.inl z), fun b h => .inl h⟩⟩
  cases q : F' b with
  | none => rfl
  | some u =>
    rcases x.new b (by rw [q]; exact fun z => by cases z) with z | z
    · exact absurd (r.fre b hb) z
    · obtain ⟨u', e⟩ := r.there b hb
      rw [z] at e; cases e
/-- a frozen slot's value -/
theorem Rel.frz (r : Rel K F H fp σ ρ) {i : Nat} {d : D} (e : ρ[i]? = some (some (.frz d))) : ∃ v, σ[i]? = some (some v) ∧ Rp K F d v := by
  obtain ⟨v, f1, f2, h1, h2, _, _⟩ := Slots.take ρ fp σ i _ r.sl e
  exact ⟨v, h1, h2.2⟩
theorem Rel.val (r : Rel K F H fp σ ρ) {i : Nat} {o : O} (e : ρ[i]? = some (some o)) : ∃ v, σ[i]? = some (some v) := by
  obtain ⟨v, f1, f2, h1, h2, _, _⟩ := Slots.take ρ fp σ i _ r.sl e
  exact ⟨v, h1⟩
/-- any slot's value, as data over the whole heap -/
theorem Rel.look (r : Rel K F H fp σ ρ) {i : Nat} {o : O} (e : ρ[i]? = some (some o)) : ∃ v, σ[i]? = some (some v) ∧ Rp K H o.toD v := by
  obtain ⟨v, f1, f2, h1, h2, _, p⟩ := Slots.take ρ fp σ i _ r.sl e
  exact ⟨v, h1, RO.data r.sub o f1 v (fun b _ u q => q) h2⟩
/-- a slot's tree becomes the first temporary -/
theorem Rel.pull (r : Rel K F H fp σ ρ) {i : Nat} {o : O} (e : ρ[i]? = some (some o)) :
    ∃ v fp', σ[i]? = some (some v) ∧ Rel K F H fp' (some v :: σ) (some o :: ρ.set i none) ∧ ∀ b, b ∈ fp' ↔ b ∈ fp := by
  obtain ⟨v, f1, f2, h1, h2, h3, p⟩ := Slots.take ρ fp σ i _ r.sl e
  exact ⟨v, f1 ++ f2, h1, ⟨r.sub, fun b hb => r.fre b (p.mem_iff.mpr hb), p.nodup_iff.mp r.nd, ⟨f1, f2, v, σ, rfl, rfl, h2, h3⟩⟩, fun b => p.mem_iff.symm⟩
/-- the first temporary goes to a slot -/
theorem Rel.store {v : V} {o : O} (r : Rel K F H fp (some v :: σ) (some o :: ρ)) {i : Nat} (hi : i < ρ.length) :
    ∃ fp', Rel K F H fp' (σ.set i (some v)) (ρ.set i (some o)) ∧ ∀ b ∈ fp', b ∈ fp := by
  obtain ⟨f1, f2, v', s', rfl, e, h1, h2⟩ := r.sl
  injection e with e1 e2
  injection e1 with e1
  subst e1 e2
  obtain ⟨g, f', q1, q2, q3⟩ := Slots.put ρ f2 σ i o f1 v h2 hi h1
  have sub : (f1 ++ g).Sublist (f1 ++ f2) := List.Sublist.append_left q1 f1
  have mem : ∀ b ∈ f', b ∈ f1 ++ f2 := fun b hb => sub.subset (q2.mem_iff.mp hb)
  exact ⟨f', ⟨r.sub, fun b hb => r.fre b (mem b hb), q2.nodup_iff.mpr (r.nd.sublist sub), q3⟩, mem⟩
theorem Rel.push {v : V} {d : D} (r : Rel K F H fp σ ρ) (h : Rp K F d v) : Rel K F H fp (some v :: σ) (some (.frz d) :: ρ) :=
  ⟨r.sub, r.fre, r.nd, ⟨[], fp, v, σ, rfl, rfl, ⟨rfl, h⟩, r.sl⟩⟩
theorem Rel.pushN {x : Option V} (r : Rel K F H fp σ ρ) : Rel K F H fp (x :: σ) (none :: ρ) := ⟨r.sub, r.fre, r.nd, ⟨x, σ, rfl, r.sl⟩⟩
theorem Rel.drop {x : Option V} {o : Option O} (r : Rel K F H fp (x :: σ) (o :: ρ)) : ∃ fp', Rel K F H fp' σ ρ ∧ ∀ b ∈ fp', b ∈ fp := by
  cases o with
  | none =>
    obtain ⟨y, s, e, h⟩ := r.sl
    injection e with e1 e2
    subst e1 e2
    exact ⟨fp, ⟨r.sub, r.fre, r.nd, h⟩, fun b h => h⟩
  | some o =>
    obtain ⟨f1, f2, v, s, rfl, e, h1, h2⟩ := r.sl
    injection e with e1 e2
    subst e1 e2
    exact ⟨f2, ⟨r.sub, fun b hb => r.fre b (List.mem_append_right _ hb), (List.nodup_append.mp r.nd).2.1, h2⟩, fun b h => List.mem_append_right _ h⟩
/-- the heap with a tree frozen -/
def frzOf (F H : Hp) (f : List Addr) : Hp := fun b => if b ∈ f then H b else F b
theorem frzOf_in {f : List Addr} {b : Addr} (h : b ∈ f) : frzOf F H f b = H b := if_pos h
theorem frzOf_out {f : List Addr} {b : Addr} (h : b ∉ f) : frzOf F H f b = F b := if_neg h
/-- the first temporary is frozen -/
theorem Rel.freeze {v : V} {o : O} (r : Rel K F H fp (some v :: σ) (some o :: ρ)) :
    ∃ F' fp', Rel K F' H fp' σ ρ ∧ Stp F H fp F' H fp' ∧ Rp K F' o.toD v := by
  obtain ⟨f1, f2, v', s', rfl, e, h1, h2⟩ := r.sl
  injection e with e1 e2
  injection e1 with e1
  subst e1 e2
  have nd := List.nodup_append.mp r.nd
  have sFG : Same F (frzOf F H f1) := fun b u e => by
    have : b ∉ f1 := fun hb => by rw [r.fre b (List.mem_append_left _ hb)] at e; cases e
    rw [frzOf_out this]; exact e
  have gin : ∀ b ∈ f1, ∀ u, H b = some u → frzOf F H f1 b = some u := fun b hb u e => by rw [frzOf_in hb]; exact e
  refine ⟨frzOf F H f1, f2, ⟨fun b u e => ?_, fun b hb => ?_, nd.2.1, Slots.mono sFG ρ f2 σ (fun b _ u e => e) h2⟩, ⟨sFG, fun b o e _ => e, fun b e => ?_, fun b hb => .inl (List.mem_append_right _ hb)⟩, RO.data sFG o f1 v gin h1⟩
  · by_cases hb : b ∈ f1
    · rw [frzOf_in hb] at e; exact e
    · rw [frzOf_out hb] at e; exact r.sub b u e
  · have : b ∉ f1 := fun z => nd.2.2 b z b hb rfl
    rw [frzOf_out this]
    exact r.fre b (List.mem_append_right _ hb)
  · by_cases hb : b ∈ f1
    · exact .inr (.inr (List.mem_append_left _ hb))
    · rw [frzOf_out hb] at e; exact .inl e
theorem set_same {α : Type} : ∀ {l : List α} {i : Nat} {x : α}, l[i]? = some x → l.set i x = l
  | [], _, _, h => by simp at h
  | y :: l, 0, x, h => by simp at h; subst h; rfl
  | y :: l, i + 1, x, h => by
    show y :: l.set i x = y :: l
    rw [set_same (by simpa using h)]
theorem set_set {α : Type} : ∀ {l : List α} {i : Nat} {x y : α}, (l.set i x).set i y = l.set i y := by
  intro l i x y
  simp
theorem lt_of_get {α : Type} {l : List α} {i : Nat} {x : α} (h : l[i]? = some x) : i < l.length := by
  obtain ⟨q, _⟩ := List.getElem?_eq_some_iff.mp h
  exact q
/-- a slot's tree is frozen where it stands -/
theorem Rel.freezeAt (r : Rel K F H fp σ ρ) {i : Nat} {o : O} (e : ρ[i]? = some (some o)) :
    ∃ v F' fp', σ[i]? = some (some v) ∧ Rel K F' H fp' σ (ρ.set i (some (.frz o.toD))) ∧ Stp F H fp F' H fp' ∧ Rp K F' o.toD v := by
  obtain ⟨v, fp1, h1, r1, m1⟩ := r.pull e
  obtain ⟨F', fp2, r2, s2, p2⟩ := r1.freeze
  have hi : i < (ρ.set i none).length := by rw [List.length_set]; exact lt_of_get e
  obtain ⟨fp3, r3, m3⟩ := (r2.push p2).store hi
  rw [set_same h1, set_set] at r3
  exact ⟨v, F', fp3, h1, r3, ((Stp.less fun b hb => (m1 b).mp hb).trans s2).trans (Stp.less m3), p2⟩
/-- what the first temporary's list becomes -/
theorem Rel.setL {a : Addr} {os os' : List O} {g : List Addr} {xs' : List V} (r : Rel K F H fp (some (.ref a) :: σ) (some (.lst os) :: ρ))
    (h : ∀ xs fr, H a = some (.lst xs) → ROA K F H os fr xs → (a :: fr).Nodup → a ∉ fr → ∃ fr', (∀ b ∈ fr', b ∈ fr) ∧ fr'.Nodup ∧ ROA K F H os' fr' xs') :
    ∃ fp', Rel K F (upd H a (.lst xs')) fp' (some (.ref a) :: σ) (some (.lst os') :: ρ) ∧ Stp F H fp F (upd H a (.lst xs')) fp' := by
  obtain ⟨f1, f2, v', s', rfl, e, h1, h2⟩ := r.sl
  injection e with e1 e2
  injection e1 with e1
  subst e2
  obtain ⟨a', xs, fr, e3, rfl, h3, h4⟩ := h1
  rw [← e1] at e3
  injection e3 with e3
  subst e3
  have nd := List.nodup_append.mp r.nd
  have na : a ∉ fr := (List.nodup_cons.mp nd.1).1
  obtain ⟨fr', m, nd', h5⟩ := h xs fr h3 h4 nd.1 na
  have ne2 : ∀ b ∈ f2, b ≠ a := fun b hb z => nd.2.2 a List.mem_cons_self b hb z.symm
  have na' : a ∉ fr' := fun z => na (m a z)
  have k : ∀ (b : Addr), b ≠ a → ∀ u, H b = some u → upd H a (.lst xs') b = some u := fun b hb u e => by rw [upd_ne hb]; exact e
  have mem : ∀ b ∈ (a :: fr') ++ f2, b ∈ (a :: fr) ++ f2 := fun b hb => by
    rcases List.mem_append.mp hb with hb | hb
    · rcases List.mem_cons.mp hb with z | hb
      · rw [z]; exact List.mem_append_left _ List.mem_cons_self
      · exact List.mem_append_left _ (List.mem_cons_of_mem _ (m b hb))
    · exact List.mem_append_right _ hb
  refine ⟨(a :: fr') ++ f2, ⟨fun b u e => ?_, fun b hb => r.fre b (mem b hb), ?_, ⟨a :: fr', f2, .ref a, σ, rfl, rfl, ⟨a, xs', fr', rfl, rfl, upd_same, ROA.mono (Same.refl F) os' fr' xs' (fun b hb => k b fun z => na' (z ▸ hb)) h5⟩, Slots.mono (Same.refl F) ρ f2 σ (fun b hb => k b (ne2 b hb)) h2⟩⟩, ⟨Same.refl F, fun b o e hb => ?_, fun b h => .inl h, fun b hb => .inl (mem b hb)⟩⟩
  · have hb : b ≠ a := fun z => by rw [z, r.fre a (List.mem_append_left _ List.mem_cons_self)] at e; cases e
    rw [upd_ne hb]; exact r.sub b u e
  · refine List.nodup_append.mpr ⟨List.nodup_cons.mpr ⟨na', nd'⟩, nd.2.1, fun x hx y hy z => ?_⟩
    rcases List.mem_cons.mp hx with q | hx
    · exact ne2 y hy (z ▸ q)
    · exact nd.2.2 x (List.mem_cons_of_mem _ (m x hx)) y hy z
  · have hb : b ≠ a := fun z => hb (z ▸ List.mem_append_left _ List.mem_cons_self)
    rw [upd_ne hb]; exact e
/-- a new list of frozen items, owned -/
theorem Rel.newL {p : Addr} {ds : List D} {vs : List V} (r : Rel K F H fp σ ρ) (h : RpA K F ds vs) (hp : H p = none) :
    Rel K F (upd H p (.lst vs)) (p :: fp) (some (.ref p) :: σ) (some (.lst (ds.map .frz)) :: ρ) ∧ Stp F H fp F (upd H p (.lst vs)) (p :: fp) := by
  have np : p ∉ fp := fun hb => by
    obtain ⟨u, e⟩ := r.there p hb
    rw [hp] at e; cases e
  have k : ∀ (b : Addr) u, H b = some u → upd H p (.lst vs) b = some u := fun b u e => same_upd hp b u e
  refine ⟨⟨r.sub.trans (same_upd hp), fun b hb => ?_, List.nodup_cons.mpr ⟨np, r.nd⟩, ⟨[p], fp, .ref p, σ, rfl, rfl, ⟨p, vs, [], rfl, rfl, upd_same, ROA.of_data ds vs h⟩, Slots.mono (Same.refl F) ρ fp σ (fun b _ u e => k b u e) r.sl⟩⟩, ⟨Same.refl F, fun b o e _ => k b o e, fun b h => .inl h, fun b hb => ?_⟩⟩
  · rcases List.mem_cons.mp hb with z | hb
    · rw [z]; exact r.sub.free hp
    · exact r.fre b hb
  · rcases List.mem_cons.mp hb with z | hb
    · rw [z]; exact .inr hp
    · exact .inl hb
end

/-! ## runs of code over the state -/
inductive R (α : Type) where
  | ok (a : α) (ρ : Env) | exn (c : Value) (ρ : Env) | bad
abbrev M (α : Type) := Env → R α
def mbind {α β : Type} (m : M α) (f : α → M β) : M β := fun ρ => match m ρ with
  | .ok a ρ' => f a ρ'
  | .exn c ρ' => .exn c ρ'
  | .bad => .bad
def mret {α : Type} (a : α) : M α := fun ρ => .ok a ρ
def mopt {α : Type} : Option α → M α
  | some a => mret a
  | none => fun _ => .bad
inductive S where
  | nxt (ρ : Env) | ret (o : O) (ρ : Env) | brk (ρ : Env) | cnt (ρ : Env) | exn (c : Value) (ρ : Env) | bad
abbrev SM := Env → S
section
variable (K : PySem.W.Frag) (W : WX) (σ : St) (F H : Hp) (fp : List Addr)
/-- what an expression leaves: rr F' H' b a: the machine's b is the run's a -/
def Out {α β : Type} (rr : Hp → Hp → β → α → Prop) (Q : β → Hp → Prop) : R α → Prop
  | .ok a ρ' => ∀ F' H' fp' b, Rel K F' H' fp' σ ρ' → Stp F H fp F' H' fp' → rr F' H' b a → Q b H'
  | .exn c ρ' => ∀ F' H' fp', Rel K F' H' fp' σ ρ' → Stp F H fp F' H' fp' → W c none σ H'
  | .bad => False
/-- .. an expression that makes a tree of its own -/
def OutO (Q : V → Hp → Prop) : R O → Prop
  | .ok o ρ' => ∀ F' H' fp' v, Rel K F' H' fp' (some v :: σ) (some o :: ρ') → Stp F H fp F' H' fp' → Q v H'
  | .exn c ρ' => ∀ F' H' fp', Rel K F' H' fp' σ ρ' → Stp F H fp F' H' fp' → W c none σ H'
  | .bad => False
end
section
variable {K : PySem.W.Frag} {W : WX} {σ : St} {F H F1 H1 : Hp} {fp fp1 : List Addr} {α β γ δ : Type} {ρ : Env}
theorem Out.shift {rr : Hp → Hp → β → α → Prop} {Q : β → Hp → Prop} {r : R α} (s : Stp F H fp F1 H1 fp1) (h : Out K W σ F H fp rr Q r) : Out K W σ F1 H1 fp1 rr Q r := by
  cases r with
  | ok a ρ' => exact fun F' H' fp' b r t => h F' H' fp' b r (s.trans t)
  | exn c ρ' => exact fun F' H' fp' r t => h F' H' fp' r (s.trans t)
  | bad => exact h
theorem OutO.shift {Q : V → Hp → Prop} {r : R O} (s : Stp F H fp F1 H1 fp1) (h : OutO K W σ F H fp Q r) : OutO K W σ F1 H1 fp1 Q r := by
  cases r with
  | ok a ρ' => exact fun F' H' fp' b r t => h F' H' fp' b r (s.trans t)
  | exn c ρ' => exact fun F' H' fp' r t => h F' H' fp' r (s.trans t)
  | bad => exact h
theorem Out.bind {rr : Hp → Hp → β → α → Prop} {rc : Hp → Hp → δ → γ → Prop} {P : β → Hp → Prop} {Q : δ → Hp → Prop} {m : M α} {f : α → M γ} (h : Out K W σ F H fp rc Q (mbind m f ρ))
    (k : ∀ a ρ1 F1 H1 fp1 b, m ρ = .ok a ρ1 → Rel K F1 H1 fp1 σ ρ1 → Stp F H fp F1 H1 fp1 → rr F1 H1 b a → Out K W σ F1 H1 fp1 rc Q (f a ρ1) → P b H1) : Out K W σ F H fp rr P (m ρ) := by
  unfold mbind at h
  cases q : m ρ with
  | ok a ρ' =>
    rw [q] at h
    exact fun F' H' fp' b r t rr' => k a ρ' F' H' fp' b q r t rr' (h.shift t)
  | exn c ρ' => rw [q] at h; exact h
  | bad => rw [q] at h; exact h
theorem Out.bindO {rr : Hp → Hp → β → α → Prop} {P : β → Hp → Prop} {Q : V → Hp → Prop} {m : M α} {f : α → M O} (h : OutO K W σ F H fp Q (mbind m f ρ))
    (k : ∀ a ρ1 F1 H1 fp1 b, m ρ = .ok a ρ1 → Rel K F1 H1 fp1 σ ρ1 → Stp F H fp F1 H1 fp1 → rr F1 H1 b a → OutO K W σ F1 H1 fp1 Q (f a ρ1) → P b H1) : Out K W σ F H fp rr P (m ρ) := by
  unfold mbind at h
  cases q : m ρ with
  | ok a ρ' =>
    rw [q] at h
    exact fun F' H' fp' b r t rr' => k a ρ' F' H' fp' b q r t rr' (h.shift t)
  | exn c ρ' => rw [q] at h; exact h
  | bad => rw [q] at h; exact h
theorem OutO.bind {rc : Hp → Hp → δ → γ → Prop} {P : V → Hp → Prop} {Q : δ → Hp → Prop} {m : M O} {f : O → M γ} (h : Out K W σ F H fp rc Q (mbind m f ρ))
    (k : ∀ o ρ1 F1 H1 fp1 b, m ρ = .ok o ρ1 → Rel K F1 H1 fp1 (some b :: σ) (some o :: ρ1) → Stp F H fp F1 H1 fp1 → Out K W σ F1 H1 fp1 rc Q (f o ρ1) → P b H1) : OutO K W σ F H fp P (m ρ) := by
  unfold mbind at h
  cases q : m ρ with
  | ok a ρ' =>
    rw [q] at h
    exact fun F' H' fp' b r t => k a ρ' F' H' fp' b q r t (h.shift t)
  | exn c ρ' => rw [q] at h; exact h
  | bad => rw [q] at h; exact h
end

/-! ## judgements -/
def rrD (K : PySem.W.Frag) : Hp → Hp → V → D → Prop := fun F _ v d => Rp K F d v
def rrB : Hp → Hp → Bool → Bool → Prop := fun _ _ b c => b = c
def rrA (K : PySem.W.Frag) : Hp → Hp → List V → List D → Prop := fun F _ vs ds => RpA K F ds vs
def TM (K : PySem.W.Frag) (W : WX) (m : M D) : TE := fun σ H Q => ∃ F fp ρ, Rel K F H fp σ ρ ∧ Out K W σ F H fp (rrD K) Q (m ρ)
def TB (K : PySem.W.Frag) (W : WX) (m : M Bool) : TT := fun σ H Q => ∃ F fp ρ, Rel K F H fp σ ρ ∧ Out K W σ F H fp rrB Q (m ρ)
def TOw (K : PySem.W.Frag) (W : WX) (m : M O) : TE := fun σ H Q => ∃ F fp ρ, Rel K F H fp σ ρ ∧ OutO K W σ F H fp Q (m ρ)
def TAs (K : PySem.W.Frag) (W : WX) (m : M (List D)) : TA := fun σ H Q => ∃ F fp ρ, Rel K F H fp σ ρ ∧ Out K W σ F H fp (rrA K) Q (m ρ)
theorem peW {X : Cx} {e : Expr} {t t' : TE} (h : PE X e t) (k : ∀ σ H Q, t' σ H Q → t σ H Q) : PE X e t' := ⟨fun pins s σ H Q I q => h.run pins s σ H Q I (k σ H Q q)⟩
theorem ptW {X : Cx} {e : Expr} {t t' : TT} (h : PT X e t) (k : ∀ σ H Q, t' σ H Q → t σ H Q) : PT X e t' := ⟨fun pins s σ H Q I q => h.run pins s σ H Q I (k σ H Q q)⟩
theorem pwW {X : Cx} {e : Expr} {t t' : TT} (h : PW X e t) (k : ∀ σ H Q, t' σ H Q → t σ H Q) : PW X e t' := ⟨fun w pins s σ H Q I q => h.run w pins s σ H Q I (k σ H Q q)⟩
theorem paW {X : Cx} {es : List Expr} {t t' : TA} (h : PA X es t) (k : ∀ σ H Q, t' σ H Q → t σ H Q) : PA X es t' := ⟨fun p pins s σ H Q I q => h.run p pins s σ H Q I (k σ H Q q)⟩
theorem psW {X : Cx} {e : Stmt} {t t' : TS} (h : PS X e t) (k : ∀ D σ H, t' D σ H → t D σ H) : PS X e t' := ⟨fun pins s σ H D I q => h.run pins s σ H D I (k D σ H q)⟩
theorem pssW {X : Cx} {e : List Stmt} {t t' : TS} (h : PSs X e t) (k : ∀ D σ H, t' D σ H → t D σ H) : PSs X e t' := ⟨fun pins s σ H D I q => h.run pins s σ H D I (k D σ H q)⟩
abbrev EV (X : Cx) (W : WX) (e : Expr) (m : M D) : Prop := PE X e (TM X.K W m)
abbrev EB (X : Cx) (W : WX) (e : Expr) (m : M Bool) : Prop := PT X e (TB X.K W m)
abbrev EW (X : Cx) (W : WX) (e : Expr) (m : M Bool) : Prop := PW X e (TB X.K W m)
abbrev EO (X : Cx) (W : WX) (e : Expr) (m : M O) : Prop := PE X e (TOw X.K W m)
abbrev EA (X : Cx) (W : WX) (es : List Expr) (m : M (List D)) : Prop := PA X es (TAs X.K W m)

section
variable {X : Cx} {W : WX}
/-! ### constants, names -/
theorem TM.const {K : PySem.W.Frag} {d : D} {v : V} (h : ∀ F, Rp K F d v) : ∀ σ H Q, TM K W (mret d) σ H Q → tC v σ H Q := fun σ H Q ⟨F, fp, ρ, r, o⟩ => o F H fp v r Stp.refl (h F)
theorem ev_int {i j pos} : EV X W (.Constant (.int i) j pos) (mret (.int i)) := peW pe_int (TM.const fun _ => rfl)
theorem ev_bl {b j pos} : EV X W (.Constant (.bool b) j pos) (mret (.bl b)) := peW pe_bl (TM.const fun _ => rfl)
theorem ev_non {j pos} : EV X W (.Constant .none j pos) (mret .non) := peW pe_non (TM.const fun _ => rfl)
theorem ev_str {x j pos} : EV X W (.Constant (.str x) j pos) (mret (.str x)) := peW pe_str (TM.const fun _ => rfl)
/-- a name, read as data: what it owned is frozen -/
def mvar (i : Nat) : M D := fun ρ => match ρ[i]? with
  | some (some (.frz d)) => .ok d ρ
  | some (some o) => .ok o.toD (ρ.set i (some (.frz o.toD)))
  | _ => .bad
theorem ev_of_var {e : Expr} {i : Nat} (h : PE X e (tVar i)) : EV X W e (mvar i) := by
  refine peW h fun σ H Q ⟨F, fp, ρ, r, o⟩ => ?_
  unfold mvar at o
  have own : ∀ t, ρ[i]? = some (some t) → Out X.K W σ F H fp (rrD X.K) Q (.ok t.toD (ρ.set i (some (.frz t.toD)))) → ∃ v, σ[i]? = some (some v) ∧ Q v H := fun t q o => by
    obtain ⟨v, F', fp', h1, r1, s1, p1⟩ := r.freezeAt q
    exact ⟨v, h1, o F' H fp' v r1 s1 p1⟩
  cases q : ρ[i]? with
  | none => rw [q] at o; exact o.elim
  | some x =>
    rw [q] at o
    cases x with
    | none => exact o.elim
    | some t =>
      cases t with
      | frz d =>
        obtain ⟨v, h1, h2⟩ := r.frz q
        exact ⟨v, h1, o F H fp v r Stp.refl h2⟩
      | lst os => exact own _ q o
      | dct os => exact own _ q o
theorem ev_var (i : Nat) {x : Str} {pos : Pos} (hN : X.N[i]? = some x := by rfl) (hv : Vis X.env.scope x := by first | exact Or.inl rfl | exact Or.inr (Or.inl rfl) | exact Or.inr (Or.inr rfl)) (hd : (x == ("__debug__" : Str)) = false := by decide)
    (hcd : (x == ("__classdict__" : Str)) = false := by decide) : EV X W (.Name x pos) (mvar i) := ev_of_var (pe_var hN hv hd hcd)
/-- data from a tree of one's own -/
theorem ev_of_eo {e : Expr} {m : M O} (h : EO X W e m) : EV X W e (mbind m fun o => mret o.toD) := by
  refine peW h fun σ H Q ⟨F, fp, ρ, r, o⟩ => ⟨F, fp, ρ, r, OutO.bind o fun t ρ1 F1 H1 fp1 b _ r1 s1 o1 => ?_⟩
  obtain ⟨F', fp', r2, s2, p2⟩ := r1.freeze
  exact o1 F' H1 fp' b r2 s2 p2
/-- a tree from data -/
theorem eo_of_ev {e : Expr} {m : M D} (h : EV X W e m) : EO X W e (mbind m fun d => mret (.frz d)) := by
  refine peW h fun σ H Q ⟨F, fp, ρ, r, o⟩ => ⟨F, fp, ρ, r, Out.bindO o fun d ρ1 F1 H1 fp1 b _ r1 s1 p o1 => ?_⟩
  exact o1 F1 H1 fp1 b (r1.push p) Stp.refl
/-- a name's tree, taken away from it (return x) -/
def mtake (i : Nat) : M O := fun ρ => match ρ[i]? with
  | some (some o) => .ok o (ρ.set i none)
  | _ => .bad
theorem eo_take (i : Nat) {x : Str} {pos : Pos} (hN : X.N[i]? = some x := by rfl) (hv : Vis X.env.scope x := by first | exact Or.inl rfl | exact Or.inr (Or.inl rfl) | exact Or.inr (Or.inr rfl)) (hd : (x == ("__debug__" : Str)) = false := by decide)
    (hcd : (x == ("__classdict__" : Str)) = false := by decide) : EO X W (.Name x pos) (mtake i) := by
  refine peW (pe_var hN hv hd hcd) fun σ H Q ⟨F, fp, ρ, r, o⟩ => ?_
  unfold mtake at o
  cases q : ρ[i]? with
  | none => rw [q] at o; exact o.elim
  | some t =>
    rw [q] at o
    cases t with
    | none => exact o.elim
    | some t =>
      obtain ⟨v, fp', h1, r1, m1⟩ := r.pull q
      exact ⟨v, h1, o F H fp' v r1 (Stp.less fun b hb => (m1 b).mp hb)⟩

/-! ### pure operators -/
/-- what an operation by values gives -/
def Gives (K : PySem.W.Frag) (F H : Hp) (d : D) (Q : VK) : Prop := ∀ F' H' v, Ext F H F' H' → Rp K F' d v → Q v H'
def OpS (X : Cx) (f : Value → Value → Sem Value) (g : D → D → Option D) : Prop := OpR X f fun x y H Q => ∃ F d1 d2 d, Same F H ∧ Rp X.K F d1 x ∧ Rp X.K F d2 y ∧ g d1 d2 = some d ∧ Gives X.K F H d Q
theorem OpS.of {f : Value → Value → Sem Value} {r : R2} {g : D → D → Option D} (h : OpR X f r) (k : ∀ F H x y d1 d2 d Q, Same F H → Rp X.K F d1 x → Rp X.K F d2 y → g d1 d2 = some d → Gives X.K F H d Q → r x y H Q) : OpS X f g := by
  intro pins s σ H x y v u Q I rx ry ⟨F, d1, d2, d, s1, p1, p2, e, q⟩
  exact h pins s σ H x y v u Q I rx ry (k F H x y d1 d2 d Q s1 p1 p2 e q)
def mop (g : D → D → Option D) (a b : M D) : M D := mbind a fun x => mbind b fun y => mopt (g x y)
theorem TM.op {K : PySem.W.Frag} {g : D → D → Option D} {ma mb : M D} : ∀ σ H Q, TM K W (mop g ma mb) σ H Q → tOp (fun x y H Q => ∃ F d1 d2 d, Same F H ∧ Rp K F d1 x ∧ Rp K F d2 y ∧ g d1 d2 = some d ∧ Gives K F H d Q) (TM K W ma) (TM K W mb) σ H Q := by
  intro σ H Q ⟨F, fp, ρ, r, o⟩
  refine ⟨F, fp, ρ, r, Out.bind o fun d1 ρ1 F1 H1 fp1 x _ r1 s1 p1 o1 => ⟨F1, fp1, ρ1, r1, Out.bind o1 fun d2 ρ2 F2 H2 fp2 y _ r2 s2 p2 o2 => ?_⟩⟩
  cases e : g d1 d2 with
  | none => rw [e] at o2; exact o2.elim
  | some d =>
    rw [e] at o2
    refine ⟨F2, d1, d2, d, r2.sub, Rp.mono s2.sub d1 x p1, p2, e, fun F' H' v z p => ?_⟩
    obtain ⟨r3, s3⟩ := r2.ext z
    exact o2 F' H' fp2 v r3 s3 p
theorem ev_op {a b : Expr} {op : Operator} {pos : Pos} {ma mb : M D} {g : D → D → Option D} (ho : OpS X (binaryOp op) g) (ha : EV X W a ma) (hb : EV X W b mb) : EV X W (.BinOp a op b pos) (mop g ma mb) := peW (pe_op ho ha hb) TM.op
theorem ev_cmp {a b : Expr} {op : CmpOp} {pos : Pos} {ma mb : M D} {g : D → D → Option D} (ho : OpS X (compareOp op) g) (hm : behindInMarks op b = false) (ha : EV X W a ma) (hb : EV X W b mb) : EV X W (.Compare a [op] [b] pos) (mop g ma mb) := peW (pe_cmpR ho ha hb hm) TM.op
/-! ### truth -/
def mtru : D → Option Bool
  | .bl b => some b
  | _ => none
theorem eb_of_ev {e : Expr} {m : M D} (h : EV X W e m) (he : ∀ whole, isTrue e X.env whole = (do let v ← whole; standAt e.pos; holding [v] (truthy v)) := by intro _; rfl) : EB X W e (mbind m fun d => mopt (mtru d)) := by
  refine ptW (pt_val h he) fun σ H Q ⟨F, fp, ρ, r, o⟩ => ⟨F, fp, ρ, r, Out.bind o fun d ρ1 F1 H1 fp1 b _ r1 s1 p o1 => ?_⟩
  cases d with
  | bl c => exact ⟨c, p, o1 F1 H1 fp1 c r1 Stp.refl rfl⟩
  | _ => exact o1.elim

theorem TB.cmp {K : PySem.W.Frag} {g : D → D → Option D} {ma mb : M D} : ∀ σ H Q, TB K W (mbind (mop g ma mb) fun d => mopt (mtru d)) σ H Q → tTest (tOp (fun x y H Q => ∃ F d1 d2 d, Same F H ∧ Rp K F d1 x ∧ Rp K F d2 y ∧ g d1 d2 = some d ∧ Gives K F H d Q) (TM K W ma) (TM K W mb)) σ H Q := by
  intro σ H Q ⟨F, fp, ρ, r, o⟩
  have h : TM K W (mop g ma mb) σ H fun x H' => ∃ k, x = .bl k ∧ Q k H' := ⟨F, fp, ρ, r, Out.bind o fun d ρ1 F1 H1 fp1 b _ r1 s1 p o1 => by
    cases d with
    | bl c => exact ⟨c, p, o1 F1 H1 fp1 c r1 Stp.refl rfl⟩
    | _ => exact o1.elim⟩
  exact TM.op σ H _ h
theorem eb_cmp {a b : Expr} {op : CmpOp} {pos : Pos} {ma mb : M D} {g : D → D → Option D} (ho : OpS X (compareOp op) g) (hm : behindInMarks op b = false) (ha : EV X W a ma) (hb : EV X W b mb) : EB X W (.Compare a [op] [b] pos) (mbind (mop g ma mb) fun d => mopt (mtru d)) := ptW (pt_cmpR ho ha hb hm) TB.cmp
/-! ### and, or, not, if -/
def mif {α : Type} (c : M Bool) (a b : M α) : M α := mbind c fun k => if k then a else b
theorem ew_and1 {a : Expr} {pos : Pos} {m : M Bool} (h : EB X W a m) : EW X W (.BoolOp .And [a] pos) m := pw_and1 h
theorem ew_or1 {a : Expr} {pos : Pos} {m : M Bool} (h : EB X W a m) : EW X W (.BoolOp .Or [a] pos) m := pw_or1 h
theorem ew_and {a b : Expr} {rest : List Expr} {pos : Pos} {m n : M Bool} (h : EB X W a m) (k : EW X W (.BoolOp .And (b :: rest) pos) n) : EW X W (.BoolOp .And (a :: b :: rest) pos) (mif m n (mret false)) := by
  refine pwW (pw_and h k) fun σ H Q ⟨F, fp, ρ, r, o⟩ => ⟨F, fp, ρ, r, Out.bind o fun c ρ1 F1 H1 fp1 b _ r1 s1 p o1 => ?_⟩
  have e : b = c := p
  subst e
  cases b with
  | true => exact ⟨F1, fp1, ρ1, r1, o1⟩
  | false => exact o1 F1 H1 fp1 false r1 Stp.refl rfl
theorem ew_or {a b : Expr} {rest : List Expr} {pos : Pos} {m n : M Bool} (h : EB X W a m) (k : EW X W (.BoolOp .Or (b :: rest) pos) n) : EW X W (.BoolOp .Or (a :: b :: rest) pos) (mif m (mret true) n) := by
  refine pwW (pw_or h k) fun σ H Q ⟨F, fp, ρ, r, o⟩ => ⟨F, fp, ρ, r, Out.bind o fun c ρ1 F1 H1 fp1 b _ r1 s1 p o1 => ?_⟩
  have e : b = c := p
  subst e
  cases b with
  | true => exact o1 F1 H1 fp1 true r1 Stp.refl rfl
  | false => exact ⟨F1, fp1, ρ1, r1, o1⟩
theorem eb_of_ew {e : Expr} {m : M Bool} (h : EW X W e m) : EB X W e m := h.pt
theorem eb_not {a : Expr} {pos : Pos} {m : M Bool} (h : EB X W a m) : EB X W (.UnaryOp .Not a pos) (mbind m fun c => mret (!c)) := by
  refine ptW (pt_not h) fun σ H Q ⟨F, fp, ρ, r, o⟩ => ⟨F, fp, ρ, r, Out.bind o fun c ρ1 F1 H1 fp1 b _ r1 s1 p o1 => ?_⟩
  have e : b = c := p
  subst e
  exact o1 F1 H1 fp1 _ r1 Stp.refl rfl
theorem ev_and1 {op : BoolOp} {a : Expr} {pos : Pos} {m : M D} (h : EV X W a m) : EV X W (.BoolOp op [a] pos) m := pe_one h
def mand (m n : M D) : M D := mbind m fun d => mbind (mopt (mtru d)) fun k => if k then n else mret (.bl false)
def mor (m n : M D) : M D := mbind m fun d => mbind (mopt (mtru d)) fun k => if k then mret (.bl true) else n
theorem ev_and {a b : Expr} {rest : List Expr} {pos : Pos} {m n : M D} (h : EV X W a m) (k : EV X W (.BoolOp .And (b :: rest) pos) n) : EV X W (.BoolOp .And (a :: b :: rest) pos) (mand m n) := by
  refine peW (pe_and h k) fun σ H Q ⟨F, fp, ρ, r, o⟩ => ⟨F, fp, ρ, r, Out.bind o fun d ρ1 F1 H1 fp1 b _ r1 s1 p o1 => ?_⟩
  cases d with
  | bl c =>
    refine ⟨c, p, ?_⟩
    cases c with
    | true => exact ⟨F1, fp1, ρ1, r1, o1⟩
    | false => exact o1 F1 H1 fp1 (.bl false) r1 Stp.refl rfl
  | _ => exact o1.elim
theorem ev_or {a b : Expr} {rest : List Expr} {pos : Pos} {m n : M D} (h : EV X W a m) (k : EV X W (.BoolOp .Or (b :: rest) pos) n) : EV X W (.BoolOp .Or (a :: b :: rest) pos) (mor m n) := by
  refine peW (pe_or h k) fun σ H Q ⟨F, fp, ρ, r, o⟩ => ⟨F, fp, ρ, r, Out.bind o fun d ρ1 F1 H1 fp1 b _ r1 s1 p o1 => ?_⟩
  cases d with
  | bl c =>
    refine ⟨c, p, ?_⟩
    cases c with
    | true => exact o1 F1 H1 fp1 (.bl true) r1 Stp.refl rfl
    | false => exact ⟨F1, fp1, ρ1, r1, o1⟩
  | _ => exact o1.elim
theorem ev_not {a : Expr} {pos : Pos} {m : M D} (h : EV X W a m) : EV X W (.UnaryOp .Not a pos) (mbind m fun d => mbind (mopt (mtru d)) fun k => mret (.bl (!k))) := by
  refine peW (pe_not h) fun σ H Q ⟨F, fp, ρ, r, o⟩ => ⟨F, fp, ρ, r, Out.bind o fun d ρ1 F1 H1 fp1 b _ r1 s1 p o1 => ?_⟩
  cases d with
  | bl c => exact ⟨c, p, o1 F1 H1 fp1 _ r1 Stp.refl rfl⟩
  | _ => exact o1.elim
theorem ev_if {c a b : Expr} {pos : Pos} {mc : M Bool} {ma mb : M D} (hc : EB X W c mc) (ha : EV X W a ma) (hb : EV X W b mb) : EV X W (.IfExp c a b pos) (mif mc ma mb) := by
  refine peW (pe_ifExp hc ha hb) fun σ H Q ⟨F, fp, ρ, r, o⟩ => ⟨F, fp, ρ, r, Out.bind o fun c ρ1 F1 H1 fp1 b _ r1 s1 p o1 => ?_⟩
  have e : b = c := p
  subst e
  cases b with
  | true => exact ⟨F1, fp1, ρ1, r1, o1⟩
  | false => exact ⟨F1, fp1, ρ1, r1, o1⟩
theorem eo_if {c a b : Expr} {pos : Pos} {mc : M Bool} {ma mb : M O} (hc : EB X W c mc) (ha : EO X W a ma) (hb : EO X W b mb) : EO X W (.IfExp c a b pos) (mif mc ma mb) := by
  refine peW (pe_ifExp hc ha hb) fun σ H Q ⟨F, fp, ρ, r, o⟩ => ⟨F, fp, ρ, r, Out.bindO o fun c ρ1 F1 H1 fp1 b _ r1 s1 p o1 => ?_⟩
  have e : b = c := p
  subst e
  cases b with
  | true => exact ⟨F1, fp1, ρ1, r1, o1⟩
  | false => exact ⟨F1, fp1, ρ1, r1, o1⟩
/-! ### a < b < c -/
def mchain (g g' : D → D → Option D) (a b c : M D) : M D := mbind a fun x => mbind b fun y => mbind (mopt (g x y)) fun k => mbind (mopt (mtru k)) fun k => if k then mbind c fun z => mopt (g' y z) else mret (.bl false)
theorem TM.chain {K : PySem.W.Frag} {g g' : D → D → Option D} {ma mb mc : M D} : ∀ σ H Q, TM K W (mchain g g' ma mb mc) σ H Q →
    tChain (fun x y H Q => ∃ F d1 d2 d, Same F H ∧ Rp K F d1 x ∧ Rp K F d2 y ∧ g d1 d2 = some d ∧ Gives K F H d Q) (fun x y H Q => ∃ F d1 d2 d, Same F H ∧ Rp K F d1 x ∧ Rp K F d2 y ∧ g' d1 d2 = some d ∧ Gives K F H d Q) (TM K W ma) (TM K W mb) (TM K W mc) σ H Q := by
  intro σ H Q ⟨F, fp, ρ, r, o⟩
  refine ⟨F, fp, ρ, r, Out.bind o fun d1 ρ1 F1 H1 fp1 x _ r1 s1 p1 o1 => ⟨F1, fp1, ρ1, r1, Out.bind o1 fun d2 ρ2 F2 H2 fp2 y _ r2 s2 p2 o2 => ?_⟩⟩
  cases e : g d1 d2 with
  | none => rw [e] at o2; exact o2.elim
  | some d =>
    rw [e] at o2
    refine ⟨F2, d1, d2, d, r2.sub, Rp.mono s2.sub d1 x p1, p2, e, fun F' H' v z p => ?_⟩
    obtain ⟨r3, s3⟩ := r2.ext z
    cases d with
    | bl k =>
      refine ⟨k, p, ?_⟩
      cases k with
      | false => exact o2 F' H' fp2 (.bl false) r3 s3 rfl
      | true =>
        have o2 : Out K W σ F2 H2 fp2 (rrD K) Q (mbind mc (fun z => mopt (g' d2 z)) ρ2) := o2
        refine ⟨F', fp2, ρ2, r3, Out.bind (o2.shift s3) fun d3 ρ3 F3 H3 fp3 z' _ r4 s4 p4 o4 => ?_⟩
        cases e : g' d2 d3 with
        | none => rw [e] at o4; exact o4.elim
        | some d' =>
          rw [e] at o4
          refine ⟨F3, d2, d3, d', r4.sub, Rp.mono (s3.sub.trans s4.sub) d2 y p2, p4, e, fun F5 H5 v5 z5 p5 => ?_⟩
          obtain ⟨r6, s6⟩ := r4.ext z5
          exact o4 F5 H5 fp3 v5 r6 s6 p5
    | _ => exact o2.elim
theorem ev_chain {a b c : Expr} {op op' : CmpOp} {pos : Pos} {ma mb mc : M D} {g g' : D → D → Option D} (ho : OpS X (compareOp op) g) (ho' : OpS X (compareOp op') g') (ha : EV X W a ma) (hb : EV X W b mb) (hc : EV X W c mc)
    (hm : lastMarks [op, op'] [b, c] = false := by with_unfolding_all rfl) : EV X W (.Compare a [op, op'] [b, c] pos) (mchain g g' ma mb mc) := peW (pe_chain ho ho' ha hb hc hm) TM.chain
theorem eb_chain {a b c : Expr} {op op' : CmpOp} {pos : Pos} {ma mb mc : M D} {g g' : D → D → Option D} (ho : OpS X (compareOp op) g) (ho' : OpS X (compareOp op') g') (ha : EV X W a ma) (hb : EV X W b mb) (hc : EV X W c mc)
    (hm : lastMarks [op, op'] [b, c] = false := by with_unfolding_all rfl) : EB X W (.Compare a [op, op'] [b, c] pos) (mbind (mchain g g' ma mb mc) fun d => mopt (mtru d)) := by
  refine ptW (pt_chain ho ho' ha hb hc hm) fun σ H Q ⟨F, fp, ρ, r, o⟩ => ?_
  refine TM.chain σ H _ ⟨F, fp, ρ, r, Out.bind o fun d ρ1 F1 H1 fp1 b _ r1 s1 p o1 => ?_⟩
  cases d with
  | bl c => exact ⟨c, p, o1 F1 H1 fp1 c r1 Stp.refl rfl⟩
  | _ => exact o1.elim
/-! ### lists of expressions, displays -/
theorem ea_nil : EA X W [] (mret []) := paW pa_nil fun σ H Q ⟨F, fp, ρ, r, o⟩ => o F H fp [] r Stp.refl rfl
def mcons (a : M D) (b : M (List D)) : M (List D) := mbind a fun x => mbind b fun xs => mret (x :: xs)
theorem ea_cons {e : Expr} {es : List Expr} {m : M D} {ms : M (List D)} (h : EV X W e m) (hs : EA X W es ms) (hst : starEach (e :: es) X.env = (false, eval e X.env) :: starEach es X.env := by rfl) : EA X W (e :: es) (mcons m ms) := by
  refine paW (pa_cons h hs hst) fun σ H Q ⟨F, fp, ρ, r, o⟩ => ⟨F, fp, ρ, r, Out.bind o fun d ρ1 F1 H1 fp1 x _ r1 s1 p1 o1 => ⟨F1, fp1, ρ1, r1, Out.bind o1 fun ds ρ2 F2 H2 fp2 xs _ r2 s2 p2 o2 => ?_⟩⟩
  exact o2 F2 H2 fp2 (x :: xs) r2 Stp.refl ⟨x, xs, rfl, Rp.mono s2.sub d x p1, p2⟩
def fit {α : Type} (n : Nat) (a : α) : Option α := if n ≤ sizeLine then some a else none
theorem ev_tup {es : List Expr} {k : Nat} {pos : Pos} {ms : M (List D)} (h : EA X W es ms) : EV X W (.Tuple es k pos) (mbind ms fun ds => mopt (fit ds.length (.tup ds))) := by
  refine peW (pe_tup h) fun σ H Q ⟨F, fp, ρ, r, o⟩ => ⟨F, fp, ρ, r, Out.bind o fun ds ρ1 F1 H1 fp1 vs _ r1 s1 p o1 => ?_⟩
  unfold fit at o1
  by_cases hl : ds.length ≤ sizeLine
  · rw [if_pos hl] at o1
    refine ⟨by rw [← RpA.length p]; exact hl, fun a ha => ?_⟩
    obtain ⟨r2, s2⟩ := r1.ext (Ext.one (o := .tup vs) r1.sub ha)
    exact o1 _ _ fp1 (.ref a) r2 s2 ⟨a, vs, rfl, .inl (.inl upd_same), RpA.mono s2.sub ds vs p⟩
  · rw [if_neg hl] at o1; exact o1.elim
theorem ev_lst {es : List Expr} {pos : Pos} {ms : M (List D)} (h : EA X W es ms) : EV X W (.List es pos) (mbind ms fun ds => mopt (fit ds.length (.lst ds))) := by
  refine peW (pe_lst h) fun σ H Q ⟨F, fp, ρ, r, o⟩ => ⟨F, fp, ρ, r, Out.bind o fun ds ρ1 F1 H1 fp1 vs _ r1 s1 p o1 => ?_⟩
  unfold fit at o1
  by_cases hl : ds.length ≤ sizeLine
  · rw [if_pos hl] at o1
    refine ⟨by rw [← RpA.length p]; exact hl, fun a ha => ?_⟩
    obtain ⟨r2, s2⟩ := r1.ext (Ext.one (o := .lst vs) r1.sub ha)
    exact o1 _ _ fp1 (.ref a) r2 s2 ⟨a, vs, rfl, .inl (.inl upd_same), RpA.mono s2.sub ds vs p⟩
  · rw [if_neg hl] at o1; exact o1.elim
theorem eo_lst {es : List Expr} {pos : Pos} {ms : M (List D)} (h : EA X W es ms) : EO X W (.List es pos) (mbind ms fun ds => mopt (fit ds.length (.lst (ds.map .frz)))) := by
  refine peW (pe_lst h) fun σ H Q ⟨F, fp, ρ, r, o⟩ => ⟨F, fp, ρ, r, Out.bindO o fun ds ρ1 F1 H1 fp1 vs _ r1 s1 p o1 => ?_⟩
  unfold fit at o1
  by_cases hl : ds.length ≤ sizeLine
  · rw [if_pos hl] at o1
    refine ⟨by rw [← RpA.length p]; exact hl, fun a ha => ?_⟩
    obtain ⟨r2, s2⟩ := r1.newL p ha
    exact o1 _ _ _ (.ref a) r2 s2
  · rw [if_neg hl] at o1; exact o1.elim
end
end Z

namespace Z
open PySem PySem.Spec L2
theorem OpR.or {X : Cx} {f : Value → Value → Sem Value} {r r' : R2} (h : OpR X f r) (h' : OpR X f r') : OpR X f (fun x y H Q => r x y H Q ∨ r' x y H Q) := by
  intro pins s σ H x y v u Q I rx ry q
  rcases q with q | q
  · exact h pins s σ H x y v u Q I rx ry q
  · exact h' pins s σ H x y v u Q I rx ry q
theorem CallR.or {X : Cx} {f : Value} {r r' : List V → Hp → VK → Prop} (h : CallR X f r) (h' : CallR X f r') : CallR X f (fun vs H Q => r vs H Q ∨ r' vs H Q) := by
  intro pins s σ H xs us Q I rx q
  rcases q with q | q
  · exact h pins s σ H xs us Q I rx q
  · exact h' pins s σ H xs us Q I rx q
section
variable {K : PySem.W.Frag} {F H : Hp}
theorem Gives.val {d : D} {v : V} {Q : VK} (q : Gives K F H d Q) (s : Same F H) (p : Rp K F d v) : Q v H := q F H v (Ext.refl s) p
theorem Gives.new {d : D} {Q : VK} {o : HO} (q : Gives K F H d Q) (s : Same F H) (p : ∀ a, H a = none → Rp K (upd F a o) d (.ref a)) : ∀ a, H a = none → Q (.ref a) (upd H a o) :=
  fun a ha => q _ _ _ (Ext.one s ha) (p a ha)
theorem Rp.lst_new {ds : List D} {vs : List V} {a : Addr} (s : Same F H) (p : RpA K F ds vs) (ha : H a = none) : Rp K (upd F a (.lst vs)) (.lst ds) (.ref a) :=
  ⟨a, vs, rfl, .inl (.inl upd_same), RpA.mono (same_upd (s.free ha)) ds vs p⟩
theorem Rp.tup_new {ds : List D} {vs : List V} {a : Addr} (s : Same F H) (p : RpA K F ds vs) (ha : H a = none) : Rp K (upd F a (.tup vs)) (.tup ds) (.ref a) :=
  ⟨a, vs, rfl, .inl (.inl upd_same), RpA.mono (same_upd (s.free ha)) ds vs p⟩
theorem Same.dp {H H' : Hp} (s : Same H H') : True := trivial
end
/-! ### list + list, any that may be read -/
section
open PyProof.Rows
def rCatG (K : PySem.W.Frag) : R2 := fun x y H Q => ∃ l b xs zs, x = .ref l ∧ y = .ref b ∧ SqL K H l xs ∧ SqL K H b zs ∧ xs.length + zs.length ≤ sizeLine ∧ ∀ p, H p = none → Q (.ref p) (upd H p (.lst (xs ++ zs)))
theorem op_catG {X : Cx} : OpR X (binaryOp .Add) (rCatG X.K) := by
  intro pins s σ H x y v u Q I rx ry h
  obtain ⟨l, b, xs, zs, rfl, rfl, hH, hB, hz, q⟩ := h
  cases rx
  cases ry
  obtain ⟨its, r, pl, z⟩ := I.list hH
  obtain ⟨its2, r2, pl2, z2⟩ := I.list hB
  obtain ⟨⟨cls, dd, dt, sl⟩, n, e, c, hd, hdat⟩ := pl
  obtain ⟨⟨cls2, dd2, dt2, sl2⟩, n2, e2, c2, hd2, hdat2⟩ := pl2
  simp only at c hd hdat c2 hd2 hdat2
  subst c hd hdat c2 hd2 hdat2
  have hl := r.length
  have hl2 := r2.length
  refine concat_meets ⟨_, e, rfl⟩ ⟨_, e2, rfl⟩ noFill_list_add seq_list_add PySem.F.slot_list_add PySem.F.entry_list_add (PySem.F.args_list_add_2 _ _) (list_addW l b its.toArray its2.toArray n n2 none none sl sl2 (by simp only [List.size_toArray]; omega)) ⟨e, e2, ?_⟩
  have ea : its.toArray ++ its2.toArray = (its ++ its2).toArray := by simp
  rw [ea]
  exact ⟨.ref _, _, I.lnew (t' := s.toks) (r.append r2) (by rw [List.length_append]; omega), rfl, q _ I.fresh⟩
theorem cr_sumT {X : Cx} (hc : X.calm = true) : CallR X (.builtin "sum") (fun vs H Q => ∃ (a : Addr) (ns : List Int), vs = [V.ref a] ∧ SqT X.K H a (ns.map V.int) ∧ Q (.int ns.sum) H) := by
  intro pins s σ H vs us Q I r h
  obtain ⟨a, ns, rfl, hs, q⟩ := h
  obtain ⟨its, rv, hl, _⟩ := I.tuple hs
  rw [Vals.ref1 r]
  have hi := rv.ints
  obtain ⟨xs, e⟩ := hi.allInts.items
  have hn : numsOf (intItems xs).toList = ns := by rw [← e]; exact hi.numsOf
  rw [nums_intItems] at hn
  have hl' : s.heap.IsTuple a its.toArray := hl
  rw [e] at hl'
  refine PySem.W.ktm_sumG (I.ok.hd hc) hl' fun h' tk t' hk => ?_
  rw [preSum_eq, List.take_of_length_le (by simp), hn]
  exact ⟨.int _, H, I.kept hk, ⟨_, rfl⟩, q⟩
end
/-! ### data as the library's data -/
mutual
def D.py : D → Option PyData
  | .non => some .none
  | .bl b => some (.bool b)
  | .int i => some (.int i)
  | .str x => some (.str x)
  | .lst xs => (D.pys xs).map .list
  | .tup xs => (D.pys xs).map .tuple
  | .dct _ => none
  | .opq _ => none
  | .exc => none
def D.pys : List D → Option (List PyData)
  | [] => some []
  | d :: r => d.py.bind fun p => (D.pys r).map (p :: ·)
end
section
variable {K : PySem.W.Frag} {F : Hp}
mutual
theorem Rp.dp : ∀ (d : D) (v : V) (p : PyData), Rp K F d v → d.py = some p → Dp K F v p
  | .non, _, _, h, e => by cases e; rw [show _ = V.non from h]; exact .non
  | .bl b, _, _, h, e => by cases e; rw [show _ = V.bl b from h]; exact .bl b
  | .int i, _, _, h, e => by cases e; rw [show _ = V.int i from h]; exact .int i
  | .str x, _, _, h, e => by cases e; rw [show _ = V.str x from h]; exact .str x
  | .lst ds, _, _, h, e => by
    obtain ⟨a, xs, rfl, h1, h2⟩ := h
    have e : (D.pys ds).map PyData.list = some _ := e
    cases q : D.pys ds with
    | none => rw [q] at e; cases e
    | some ps =>
      rw [q] at e; cases e
      exact .lst h1 (RpA.dp ds xs ps h2 q)
  | .tup ds, _, _, h, e => by
    obtain ⟨a, xs, rfl, h1, h2⟩ := h
    have e : (D.pys ds).map PyData.tuple = some _ := e
    cases q : D.pys ds with
    | none => rw [q] at e; cases e
    | some ps =>
      rw [q] at e; cases e
      exact .tup h1 (RpA.dp ds xs ps h2 q)
  | .dct _, _, _, _, e => by cases e
  | .opq _, _, _, _, e => by cases e
  | .exc, _, _, _, e => by cases e
theorem RpA.dp : ∀ (ds : List D) (vs : List V) (ps : List PyData), RpA K F ds vs → D.pys ds = some ps → DpAll K F vs ps
  | [], _, _, h, e => by cases e; rw [show _ = [] from h]; exact .nil
  | d :: ds, _, _, h, e => by
    obtain ⟨x, r, rfl, h1, h2⟩ := h
    have e : (d.py.bind fun p => (D.pys ds).map (p :: ·)) = some _ := e
    cases q : d.py with
    | none => rw [q] at e; cases e
    | some p =>
      rw [q] at e
      have e : (D.pys ds).map (p :: ·) = some _ := e
      cases q2 : D.pys ds with
      | none => rw [q2] at e; cases e
      | some ps =>
        rw [q2] at e; cases e
        exact .cons (Rp.dp d x p h1 q) (RpA.dp ds r ps h2 q2)
end
end
def pyOk (d : D) : Option PyData := d.py.bind fun p => if SeqAt.shaped p = true then some p else none
theorem pyOk_of {d : D} {p : PyData} (h : pyOk d = some p) : d.py = some p ∧ SeqAt.shaped p = true := by
  unfold pyOk at h
  cases q : d.py with
  | none => rw [q] at h; cases h
  | some p' =>
    rw [q] at h
    have h : (if SeqAt.shaped p' = true then some p' else none) = some p := h
    split at h
    · cases h; exact ⟨rfl, by assumption⟩
    · cases h
/-- == of data -/
def geqP (a b : D) : Option Bool := (pyOk a).bind fun p => (pyOk b).map fun q => PyData.eqv p q
def geqB : D → D → Option Bool
  | .str x, .str y => some (decide (x = y))
  | a, b => geqP a b
def geq (a b : D) : Option D := (geqB a b).map .bl
def gne (a b : D) : Option D := (geqB a b).map fun k => .bl (!k)
theorem geqB_cases {a b : D} {k : Bool} (h : geqB a b = some k) : (∃ x y, a = .str x ∧ b = .str y ∧ k = decide (x = y)) ∨ geqP a b = some k := by
  unfold geqB at h
  split at h
  · cases h; exact .inl ⟨_, _, rfl, rfl, rfl⟩
  · exact .inr h
theorem geqP_of {a b : D} {k : Bool} (h : geqP a b = some k) : ∃ p q, pyOk a = some p ∧ pyOk b = some q ∧ k = PyData.eqv p q := by
  unfold geqP at h
  cases e1 : pyOk a with
  | none => rw [e1] at h; cases h
  | some p =>
    rw [e1] at h
    have h : (pyOk b).map (fun q => PyData.eqv p q) = some k := h
    cases e2 : pyOk b with
    | none => rw [e2] at h; cases h
    | some q => rw [e2] at h; cases h; exact ⟨p, q, rfl, rfl, rfl⟩
/-- x in xs -/
def gin (a b : D) : Option D := (pyOk a).bind fun p => match pyOk b with
  | some (.list qs) => some (.bl (qs.any fun z => PyData.eqv z p))
  | _ => none
def gnin (a b : D) : Option D := (pyOk a).bind fun p => match pyOk b with
  | some (.list qs) => some (.bl (!qs.any fun z => PyData.eqv z p))
  | _ => none
def lexN (xs ys : List Int) : Bool := Ob.lexAt (fun j => decide (xs.getD j 0 = ys.getD j 0)) (fun j => decide (xs.getD j 0 ≤ ys.getD j 0)) (decide (xs.length ≤ ys.length)) 0 (min xs.length ys.length)
def D.ints : List D → Option (List Int)
  | [] => some []
  | .int i :: r => (D.ints r).map (i :: ·)
  | _ :: _ => none
theorem RpA.ints {K : PySem.W.Frag} {F : Hp} : ∀ {ds : List D} {ns : List Int} {vs : List V}, D.ints ds = some ns → RpA K F ds vs → vs = ns.map V.int
  | [], _, _, e, h => by cases e; exact h
  | .int i :: r, _, _, e, h => by
    obtain ⟨x, xs, rfl, h1, h2⟩ := h
    have e : (D.ints r).map (i :: ·) = some _ := e
    cases q : D.ints r with
    | none => rw [q] at e; cases e
    | some ms =>
      rw [q] at e; cases e
      rw [show x = V.int i from h1, RpA.ints q h2]
      rfl
  | .non :: _, _, _, e, _ => by cases e
  | .bl _ :: _, _, _, e, _ => by cases e
  | .str _ :: _, _, _, e, _ => by cases e
  | .lst _ :: _, _, _, e, _ => by cases e
  | .tup _ :: _, _, _, e, _ => by cases e
  | .dct _ :: _, _, _, e, _ => by cases e
  | .opq _ :: _, _, _, e, _ => by cases e
  | .exc :: _, _, _, e, _ => by cases e
/-! ### the operators' answers -/
def gadd : D → D → Option D
  | .int a, .int b => some (.int (a + b))
  | .str a, .str b => fit (a.length + b.length) (.str (a ++ b))
  | .lst a, .lst b => fit (a.length + b.length) (.lst (a ++ b))
  | .tup a, .tup b => fit (a.length + b.length) (.tup (a ++ b))
  | _, _ => none
def gsub : D → D → Option D
  | .int a, .int b => some (.int (a - b))
  | _, _ => none
def gmul : D → D → Option D
  | .int a, .int b => if a.natAbs.log2 + b.natAbs.log2 < 1000000 then some (.int (a * b)) else none
  | _, _ => none
def gdiv : D → D → Option D
  | .int a, .int b => if 0 < b ∧ b.natAbs.log2 < 9000 then some (.int (a / b)) else none
  | _, _ => none
def gmod : D → D → Option D
  | .int a, .int b => if 0 < b then some (.int (a % b)) else none
  | _, _ => none
def gpow : D → D → Option D
  | .int a, .int b => if 0 ≤ b ∧ b ≤ 1000000 ∧ a.natAbs < 2 ^ 64 then some (.int (a ^ b.toNat)) else none
  | _, _ => none
def glt : D → D → Option D
  | .int a, .int b => some (.bl (decide (a < b)))
  | _, _ => none
def gle : D → D → Option D
  | .int a, .int b => some (.bl (decide (a ≤ b)))
  | .tup a, .tup b => (D.ints a).bind fun x => (D.ints b).map fun y => .bl (lexN x y)
  | _, _ => none
def ggt : D → D → Option D
  | .int a, .int b => some (.bl (decide (b < a)))
  | _, _ => none
def gge : D → D → Option D
  | .int a, .int b => some (.bl (decide (b ≤ a)))
  | _, _ => none
def gis : D → D → Option D
  | .bl a, .bl b => some (.bl (decide (a = b)))
  | .non, .non => some (.bl true)
  | .bl _, .non => some (.bl false)
  | .int _, .non => some (.bl false)
  | .str _, .non => some (.bl false)
  | .tup _, .non => some (.bl false)
  | .lst _, .non => some (.bl false)
  | .dct _, .non => some (.bl false)
  | .exc, .non => some (.bl false)
  | _, _ => none
def gisn (a b : D) : Option D := match gis a b with
  | some (.bl k) => some (.bl (!k))
  | _ => none
section
variable {X : Cx}
theorem fit_of {α : Type} {n : Nat} {a b : α} (h : fit n a = some b) : n ≤ sizeLine ∧ a = b := by
  unfold fit at h
  split at h
  · cases h; exact ⟨by assumption, rfl⟩
  · cases h
theorem os_add : OpS X (binaryOp .Add) gadd := by
  refine OpS.of (op_add.or (op_add_str.or (op_catG.or op_catA))) fun F H x y d1 d2 d Q s p1 p2 e q => ?_
  cases d1 <;> cases d2 <;> first | (cases e; done) | skip
  · cases e
    exact .inl ⟨_, _, p1, p2, q.val s rfl⟩
  · obtain ⟨l, e⟩ := fit_of e
    subst e
    exact .inr (.inl ⟨_, _, p1, p2, l, q.val s rfl⟩)
  · obtain ⟨l, e⟩ := fit_of e
    subst e
    obtain ⟨a, xs, rfl, h1, h2⟩ := p1
    obtain ⟨b, ys, rfl, h3, h4⟩ := p2
    refine .inr (.inr (.inl ⟨a, b, xs, ys, rfl, rfl, Same.sql s h1, Same.sql s h3, by rw [← RpA.length h2, ← RpA.length h4]; exact l, q.new s fun c hc => Rp.lst_new s (h2.append h4) hc⟩))
  · obtain ⟨l, e⟩ := fit_of e
    subst e
    rename_i as bs
    have p1' := p1
    have p2' := p2
    obtain ⟨a, xs, rfl, h1, h2⟩ := p1
    obtain ⟨b, ys, rfl, h3, h4⟩ := p2
    refine .inr (.inr (.inr ⟨a, b, xs, ys, rfl, rfl, Same.sqt s h1, Same.sqt s h3, by rw [← RpA.length h2, ← RpA.length h4]; exact l, fun ex => ?_, fun _ ey => ?_, fun _ _ => q.new s fun c hc => Rp.tup_new s (h2.append h4) hc⟩))
    · subst ex
      have : as = [] := List.eq_nil_of_length_eq_zero (by rw [RpA.length h2]; rfl)
      subst this
      exact q.val s p2'
    · subst ey
      have : bs = [] := List.eq_nil_of_length_eq_zero (by rw [RpA.length h4]; rfl)
      subst this
      refine q.val s ?_
      rw [List.append_nil]
      exact p1'
theorem os_sub : OpS X (binaryOp .Sub) gsub := by
  refine OpS.of op_sub fun F H x y d1 d2 d Q s p1 p2 e q => ?_
  cases d1 <;> cases d2 <;> first | (cases e; done) | skip
  cases e
  exact ⟨_, _, p1, p2, q.val s rfl⟩
theorem os_mul : OpS X (binaryOp .Mult) gmul := by
  refine OpS.of op_mulW fun F H x y d1 d2 d Q s p1 p2 e q => ?_
  cases d1 <;> cases d2 <;> first | (cases e; done) | skip
  have e : (if _ then some _ else none) = some d := e
  split at e
  · cases e; exact ⟨_, _, p1, p2, by assumption, q.val s rfl⟩
  · cases e
theorem os_div : OpS X (binaryOp .FloorDiv) gdiv := by
  refine OpS.of op_fdivW fun F H x y d1 d2 d Q s p1 p2 e q => ?_
  cases d1 <;> cases d2 <;> first | (cases e; done) | skip
  have e : (if _ then some _ else none) = some d := e
  split at e
  · cases e; exact ⟨_, _, p1, p2, by assumption, q.val s rfl⟩
  · cases e
theorem os_mod : OpS X (binaryOp .Mod) gmod := by
  refine OpS.of op_mod fun F H x y d1 d2 d Q s p1 p2 e q => ?_
  cases d1 <;> cases d2 <;> first | (cases e; done) | skip
  have e : (if _ then some _ else none) = some d := e
  split at e
  · cases e; exact ⟨_, _, p1, p2, by assumption, q.val s rfl⟩
  · cases e
theorem os_pow : OpS X (binaryOp .Pow) gpow := by
  refine OpS.of op_pow fun F H x y d1 d2 d Q s p1 p2 e q => ?_
  cases d1 <;> cases d2 <;> first | (cases e; done) | skip
  have e : (if _ then some _ else none) = some d := e
  split at e
  · cases e; exact ⟨_, _, p1, p2, by assumption, q.val s rfl⟩
  · cases e
theorem os_lt : OpS X (compareOp .Lt) glt := by
  refine OpS.of op_lt fun F H x y d1 d2 d Q s p1 p2 e q => ?_
  cases d1 <;> cases d2 <;> first | (cases e; done) | skip
  cases e
  exact ⟨_, _, p1, p2, q.val s rfl⟩
theorem os_gt : OpS X (compareOp .Gt) ggt := by
  refine OpS.of op_gt fun F H x y d1 d2 d Q s p1 p2 e q => ?_
  cases d1 <;> cases d2 <;> first | (cases e; done) | skip
  cases e
  exact ⟨_, _, p1, p2, q.val s rfl⟩
theorem os_ge : OpS X (compareOp .GtE) gge := by
  refine OpS.of op_ge fun F H x y d1 d2 d Q s p1 p2 e q => ?_
  cases d1 <;> cases d2 <;> first | (cases e; done) | skip
  cases e
  exact ⟨_, _, p1, p2, q.val s rfl⟩
theorem os_le (hu : X.A.units < cLine) : OpS X (compareOp .LtE) gle := by
  refine OpS.of (op_le.or (op_leT hu)) fun F H x y d1 d2 d Q s p1 p2 e q => ?_
  cases d1 <;> cases d2 <;> first | (cases e; done) | skip
  · cases e
    exact .inl ⟨_, _, p1, p2, q.val s rfl⟩
  · rename_i as bs
    obtain ⟨a, xs, rfl, h1, h2⟩ := p1
    obtain ⟨b, ys, rfl, h3, h4⟩ := p2
    have e : ((D.ints as).bind fun x => (D.ints bs).map fun y => D.bl (lexN x y)) = some d := e
    cases e1 : D.ints as with
    | none => rw [e1] at e; cases e
    | some ns =>
      rw [e1] at e
      have e : ((D.ints bs).map fun y => D.bl (lexN ns y)) = some d := e
      cases e2 : D.ints bs with
      | none => rw [e2] at e; cases e
      | some ms =>
        rw [e2] at e; cases e
        have x1 := RpA.ints e1 h2
        have x2 := RpA.ints e2 h4
        subst x1 x2
        exact .inr ⟨a, b, ns, ms, rfl, rfl, Same.sqt s h1, Same.sqt s h3, q.val s rfl⟩
theorem os_eq (hu : X.A.units + 64 < cLine) : OpS X (compareOp .Eq) geq := by
  refine OpS.of (op_eq.or (op_eqD hu)) fun F H x y d1 d2 d Q s p1 p2 e q => ?_
  cases e0 : geqB d1 d2 with
  | none => unfold geq at e; rw [e0] at e; cases e
  | some k =>
    unfold geq at e
    rw [e0] at e; cases e
    rcases geqB_cases e0 with ⟨zx, zy, rfl, rfl, rfl⟩ | e0
    · refine .inl ?_
      rw [show x = V.str zx from p1, show y = V.str zy from p2]
      refine ⟨rfl, ?_⟩
      rw [show decide (V.str zx = V.str zy) = decide (zx = zy) by simp]
      exact q.val s rfl
    obtain ⟨pa, pb, h1, h2, h3⟩ := geqP_of e0
    obtain ⟨q1, q2⟩ := pyOk_of h1
    obtain ⟨q3, q4⟩ := pyOk_of h2
    refine .inr ⟨pa, pb, Rp.dp d1 x pa (Rp.mono s d1 x p1) q1, Rp.dp d2 y pb (Rp.mono s d2 y p2) q3, q2, q4, ?_⟩
    rw [← h3]
    exact q.val s rfl
theorem os_ne (hu : X.A.units + 64 < cLine) : OpS X (compareOp .NotEq) gne := by
  refine OpS.of (op_ne.or (op_neD hu)) fun F H x y d1 d2 d Q s p1 p2 e q => ?_
  cases e0 : geqB d1 d2 with
  | none => unfold gne at e; rw [e0] at e; cases e
  | some k =>
    unfold gne at e
    rw [e0] at e; cases e
    rcases geqB_cases e0 with ⟨zx, zy, rfl, rfl, rfl⟩ | e0
    · refine .inl ?_
      rw [show x = V.str zx from p1, show y = V.str zy from p2]
      refine ⟨rfl, ?_⟩
      rw [show decide (V.str zx = V.str zy) = decide (zx = zy) by simp]
      exact q.val s rfl
    obtain ⟨pa, pb, h1, h2, h3⟩ := geqP_of e0
    obtain ⟨q1, q2⟩ := pyOk_of h1
    obtain ⟨q3, q4⟩ := pyOk_of h2
    refine .inr ⟨pa, pb, Rp.dp d1 x pa (Rp.mono s d1 x p1) q1, Rp.dp d2 y pb (Rp.mono s d2 y p2) q3, q2, q4, ?_⟩
    rw [← h3]
    exact q.val s rfl
theorem os_in (hu : X.A.units + 65 < cLine) : OpS X (compareOp .In) gin := by
  refine OpS.of (op_inD hu) fun F H x y d1 d2 d Q s p1 p2 e q => ?_
  unfold gin at e
  cases e1 : pyOk d1 with
  | none => rw [e1] at e; cases e
  | some pa =>
    rw [e1] at e
    cases e2 : pyOk d2 with
    | none => rw [e2] at e; cases e
    | some pb =>
      rw [e2] at e
      cases pb with
      | list qs =>
        cases e
        obtain ⟨q1, q2⟩ := pyOk_of e1
        obtain ⟨q3, q4⟩ := pyOk_of e2
        exact ⟨pa, qs, Rp.dp d1 x pa (Rp.mono s d1 x p1) q1, Rp.dp d2 y _ (Rp.mono s d2 y p2) q3, q2, q4, q.val s rfl⟩
      | _ => cases e
theorem os_nin (hu : X.A.units + 65 < cLine) : OpS X (compareOp .NotIn) gnin := by
  refine OpS.of (op_notInD hu) fun F H x y d1 d2 d Q s p1 p2 e q => ?_
  unfold gnin at e
  cases e1 : pyOk d1 with
  | none => rw [e1] at e; cases e
  | some pa =>
    rw [e1] at e
    cases e2 : pyOk d2 with
    | none => rw [e2] at e; cases e
    | some pb =>
      rw [e2] at e
      cases pb with
      | list qs =>
        cases e
        obtain ⟨q1, q2⟩ := pyOk_of e1
        obtain ⟨q3, q4⟩ := pyOk_of e2
        exact ⟨pa, qs, Rp.dp d1 x pa (Rp.mono s d1 x p1) q1, Rp.dp d2 y _ (Rp.mono s d2 y p2) q3, q2, q4, q.val s rfl⟩
      | _ => cases e
theorem gis_cases {a b d : D} (h : gis a b = some d) : (∃ x y, a = .bl x ∧ b = .bl y ∧ d = .bl (decide (x = y))) ∨ (b = .non ∧ ((a = .non ∧ d = .bl true) ∨ (d = .bl false ∧ ∀ K F v, Rp K F a v → v ≠ .non))) := by
  cases a <;> cases b <;> first | (cases h; done) | skip
  all_goals cases h
  · exact .inr ⟨rfl, .inl ⟨rfl, rfl⟩⟩
  · exact .inr ⟨rfl, .inr ⟨rfl, fun K F v p => by rw [show v = _ from p]; intro z; cases z⟩⟩
  · exact .inl ⟨_, _, rfl, rfl, rfl⟩
  · exact .inr ⟨rfl, .inr ⟨rfl, fun K F v p => by rw [show v = _ from p]; intro z; cases z⟩⟩
  · exact .inr ⟨rfl, .inr ⟨rfl, fun K F v p => by rw [show v = _ from p]; intro z; cases z⟩⟩
  · exact .inr ⟨rfl, .inr ⟨rfl, fun K F v p => by obtain ⟨_, _, e, _⟩ := p; rw [e]; intro z; cases z⟩⟩
  · exact .inr ⟨rfl, .inr ⟨rfl, fun K F v p => by obtain ⟨_, _, e, _⟩ := p; rw [e]; intro z; cases z⟩⟩
  · exact .inr ⟨rfl, .inr ⟨rfl, fun K F v p => by obtain ⟨_, e, _⟩ := p; rw [e]; intro z; cases z⟩⟩
  · exact .inr ⟨rfl, .inr ⟨rfl, fun K F v p => by obtain ⟨_, _, e, _⟩ := p; rw [e]; intro z; cases z⟩⟩
theorem os_is : OpS X (compareOp .Is) gis := by
  refine OpS.of (op_is_bl.or op_isN) fun F H x y d1 d2 d Q s p1 p2 e q => ?_
  rcases gis_cases e with ⟨a, b, rfl, rfl, rfl⟩ | ⟨rfl, ⟨rfl, rfl⟩ | ⟨rfl, h⟩⟩
  · exact .inl ⟨a, b, p1, p2, q.val s rfl⟩
  · refine .inr ⟨p2, ?_⟩
    rw [decide_eq_true (show x = .non from p1)]
    exact q.val s rfl
  · refine .inr ⟨p2, ?_⟩
    rw [decide_eq_false (h _ _ _ p1)]
    exact q.val s rfl
theorem os_isn : OpS X (compareOp .IsNot) gisn := by
  refine OpS.of (op_isnot_bl.or op_notN) fun F H x y d1 d2 d Q s p1 p2 e q => ?_
  unfold gisn at e
  cases e0 : gis d1 d2 with
  | none => rw [e0] at e; cases e
  | some d0 =>
    rw [e0] at e
    rcases gis_cases e0 with ⟨a, b, rfl, rfl, rfl⟩ | ⟨rfl, ⟨rfl, rfl⟩ | ⟨rfl, h⟩⟩
    · cases e
      exact .inl ⟨a, b, p1, p2, q.val s rfl⟩
    · cases e
      refine .inr ⟨p2, ?_⟩
      rw [decide_eq_true (show x = .non from p1)]
      exact q.val s rfl
    · cases e
      refine .inr ⟨p2, ?_⟩
      rw [decide_eq_false (h _ _ _ p1)]
      exact q.val s rfl
/-! ### one operand -/
variable {W : WX}
def mun (g : D → Option D) (a : M D) : M D := mbind a fun x => mopt (g x)
def gneg : D → Option D
  | .int i => some (.int (-i))
  | _ => none
theorem ev_neg {a : Expr} {pos : Pos} {m : M D} (h : EV X W a m) : EV X W (.UnaryOp .USub a pos) (mun gneg m) := by
  refine peW (pe_un un_neg h) fun σ H Q ⟨F, fp, ρ, r, o⟩ => ⟨F, fp, ρ, r, Out.bind o fun d ρ1 F1 H1 fp1 x _ r1 s1 p1 o1 => ?_⟩
  cases d with
  | int i => exact ⟨i, p1, o1 F1 H1 fp1 _ r1 Stp.refl rfl⟩
  | _ => exact o1.elim
/-! ### subscripts -/
def gix : D → D → Option D
  | .lst ds, .int i => atI ds i
  | .tup ds, .int i => atI ds i
  | .str z, .int i => if z.length ≤ sizeLine then (atI z.cps.toList i).map fun c => .str ⟨#[c]⟩ else none
  | _, _ => none
theorem RpA.at {K : PySem.W.Frag} {F : Hp} {ds : List D} {vs : List V} {i : Int} {d : D} (h : RpA K F ds vs) (e : atI ds i = some d) : ∃ v, atI vs i = some v ∧ Rp K F d v := by
  unfold atI at e ⊢
  rw [← RpA.length h]
  cases q : ixN ds.length i with
  | none => rw [q] at e; cases e
  | some j =>
    rw [q] at e
    have e : ds[j]? = some d := e
    obtain ⟨v, h1, h2⟩ := h.get e
    exact ⟨v, h1, h2⟩
theorem ev_ix {a b : Expr} {pos : Pos} {ma mb : M D} (ha : EV X W a ma) (hb : EV X W b mb) (hs : PlainIx b := by exact fun _ _ => rfl) : EV X W (.Subscript a b pos) (mop gix ma mb) := by
  have h : IxR X fun x y H Q => ∃ F d1 d2 d, Same F H ∧ Rp X.K F d1 x ∧ Rp X.K F d2 y ∧ gix d1 d2 = some d ∧ Gives X.K F H d Q := by
    intro value slice pins s σ H x y v u Q I rx ry ⟨F, d1, d2, d, s1, p1, p2, e, q⟩ hs
    refine ix_seq value slice pins s σ H x y v u Q I rx ry ?_ hs
    cases d1 <;> cases d2 <;> first | (cases e; done) | skip
    case str.int z i =>
      have e : (if z.length ≤ sizeLine then (atI z.cps.toList i).map fun c => D.str ⟨#[c]⟩ else none) = some d := e
      by_cases hz : z.length ≤ sizeLine
      · rw [if_pos hz] at e
        cases q' : atI z.cps.toList i with
        | none => rw [q'] at e; cases e
        | some c =>
          rw [q'] at e; cases e
          exact .inr (.inr ⟨z, i, c, p1, p2, hz, q', q.val s1 rfl⟩)
      · rw [if_neg hz] at e; cases e
    case lst.int ds i =>
      obtain ⟨p, xs, rfl, h1, h2⟩ := p1
      obtain ⟨v', e1, e2⟩ := h2.at e
      exact .inl ⟨p, xs, _, v', rfl, p2, Same.sql s1 h1, e1, q.val s1 e2⟩
    case tup.int ds i =>
      obtain ⟨p, xs, rfl, h1, h2⟩ := p1
      obtain ⟨v', e1, e2⟩ := h2.at e
      exact .inr (.inl ⟨p, xs, _, v', rfl, p2, Same.sqt s1 h1, e1, q.val s1 e2⟩)
  exact peW (pe_ix h ha hb hs) TM.op
/-! ### slices -/
def mpart : D → Option Int
  | .int i => some i
  | _ => none
def cutD (ds : List D) (lo hi : Option Int) : List D := (ds.drop (HT.sIx ds.length 0 lo)).take (HT.sIx ds.length ds.length hi - HT.sIx ds.length 0 lo)
theorem RpA.cut {K : PySem.W.Frag} {F : Hp} {ds : List D} {vs : List V} (lo hi : Option Int) (h : RpA K F ds vs) : RpA K F (cutD ds lo hi) (cutV vs lo hi) := by
  unfold cutD cutV
  rw [← RpA.length h]
  exact (h.drop _).take _
def gsl (d : D) (lo hi : Option Int) : Option D := match d with
  | .lst ds => some (.lst (cutD ds lo hi))
  | .tup ds => some (.tup (cutD ds lo hi))
  | .str z => if z.length ≤ sizeLine then some (.str (cutS z lo hi)) else none
  | _ => none
structure EP' (X : Cx) (W : WX) (e : Option Expr) (m : M (Option Int)) : Prop where
  ex : PO X e fun σ H Q => ∃ F fp ρ, Rel X.K F H fp σ ρ ∧ Out X.K W σ F H fp (fun _ _ a b => a = b) Q (m ρ)
theorem poW {e : Option Expr} {t t' : TO} (h : PO X e t) (k : ∀ σ H Q, t' σ H Q → t σ H Q) : PO X e t' := ⟨fun pins s σ H Q I q => h.run pins s σ H Q I (k σ H Q q)⟩
theorem ep_none : EP' X W none (mret none) := ⟨poW po_none fun σ H Q ⟨F, fp, ρ, r, o⟩ => o F H fp none r Stp.refl rfl⟩
theorem ep_some {e : Expr} {m : M D} (h : EV X W e m) : EP' X W (some e) (mbind m fun d => mbind (mopt (mpart d)) fun i => mret (some i)) := ⟨poW (po_some h) fun σ H Q ⟨F, fp, ρ, r, o⟩ => ⟨F, fp, ρ, r, Out.bind o fun d ρ1 F1 H1 fp1 x _ r1 s1 p1 o1 => by
  cases d with
  | int i => exact ⟨i, p1, o1 F1 H1 fp1 _ r1 Stp.refl rfl⟩
  | _ => exact o1.elim⟩⟩
def mslice (m : M D) (l h : M (Option Int)) : M D := mbind m fun d => mbind l fun lo => mbind h fun hi => mopt (gsl d lo hi)
theorem ev_slice {e : Expr} {lo hi : Option Expr} {p2 pos : Pos} {m : M D} {ml mh : M (Option Int)} (he : EV X W e m) (hl : EP' X W lo ml) (hh : EP' X W hi mh) : EV X W (.Subscript e (.Slice lo hi none p2) pos) (mslice m ml mh) := by
  refine peW (pe_slice (sl_list.or (sl_tupA.or sl_str)) he hl.ex hh.ex) fun σ H Q ⟨F, fp, ρ, r, o⟩ => ⟨F, fp, ρ, r, Out.bind o fun d ρ1 F1 H1 fp1 x _ r1 s1 p1 o1 =>
    ⟨F1, fp1, ρ1, r1, Out.bind o1 fun a ρ2 F2 H2 fp2 b _ r2 s2 p2 o2 => ⟨F2, fp2, ρ2, r2, Out.bind o2 fun c ρ3 F3 H3 fp3 b3 _ r3 s3 p3 o3 => ?_⟩⟩⟩
  have p2' : b = a := p2
  have p3' : b3 = c := p3
  subst p2' p3'
  have p1 := Rp.mono (s2.sub.trans s3.sub) d x p1
  cases d with
  | lst ds =>
    obtain ⟨a, xs, rfl, h1, h2⟩ := p1
    refine .inl ⟨a, xs, rfl, Same.sql r3.sub h1, fun p hp => ?_⟩
    obtain ⟨r4, s4⟩ := r3.ext (Ext.one (o := .lst (cutV xs b b3)) r3.sub hp)
    exact o3 _ _ fp3 (.ref p) r4 s4 (Rp.lst_new r3.sub (h2.cut b b3) hp)
  | tup ds =>
    have p1' := p1
    obtain ⟨a, xs, rfl, h1, h2⟩ := p1
    refine .inr (.inl ⟨a, xs, rfl, Same.sqt r3.sub h1, fun hw => ?_, fun _ p hp => ?_⟩)
    · refine o3 _ _ fp3 (.ref a) r3 Stp.refl ?_
      have e : cutD ds b b3 = ds := by
        unfold cutD
        rw [RpA.length h2, hw.1, hw.2]
        simp [← RpA.length h2]
      show Rp X.K F3 (.tup (cutD ds b b3)) (.ref a)
      rw [e]
      exact p1'
    · obtain ⟨r4, s4⟩ := r3.ext (Ext.one (o := .tup (cutV xs b b3)) r3.sub hp)
      exact o3 _ _ fp3 (.ref p) r4 s4 (Rp.tup_new r3.sub (h2.cut b b3) hp)
  | str z =>
    have o3 : Out X.K W σ F3 H3 fp3 (rrD X.K) Q (mopt (if z.length ≤ sizeLine then some (D.str (cutS z b b3)) else none) ρ3) := o3
    split at o3
    · exact .inr (.inr ⟨z, p1, by assumption, o3 F3 H3 fp3 _ r3 Stp.refl rfl⟩)
    · exact o3.elim
  | _ => exact o3.elim
/-! ### built-in calls -/
def CallS (X : Cx) (f : Value) (g : List D → Option D) : Prop := CallR X f fun vs H Q => ∃ F ds d, Same F H ∧ RpA X.K F ds vs ∧ g ds = some d ∧ Gives X.K F H d Q
theorem CallS.of {f : Value} {r : List V → Hp → VK → Prop} {g : List D → Option D} (h : CallR X f r) (k : ∀ F H vs ds d Q, Same F H → RpA X.K F ds vs → g ds = some d → Gives X.K F H d Q → r vs H Q) : CallS X f g := by
  intro pins s σ H xs us Q I rx ⟨F, ds, d, s1, p, e, q⟩
  exact h pins s σ H xs us Q I rx (k F H xs ds d Q s1 p e q)
def mcb (g : List D → Option D) (ms : M (List D)) : M D := mbind ms fun ds => mopt (g ds)
theorem TM.cb {K : PySem.W.Frag} {g : List D → Option D} {ms : M (List D)} : ∀ σ H Q, TM K W (mcb g ms) σ H Q → tCB (fun vs H Q => ∃ F ds d, Same F H ∧ RpA K F ds vs ∧ g ds = some d ∧ Gives K F H d Q) (TAs K W ms) σ H Q := by
  intro σ H Q ⟨F, fp, ρ, r, o⟩
  refine ⟨F, fp, ρ, r, Out.bind o fun ds ρ1 F1 H1 fp1 vs _ r1 s1 p1 o1 => ?_⟩
  cases e : g ds with
  | none => rw [e] at o1; exact o1.elim
  | some d =>
    rw [e] at o1
    refine ⟨F1, ds, d, r1.sub, p1, e, fun F' H' v z p => ?_⟩
    obtain ⟨r3, s3⟩ := r1.ext z
    exact o1 F' H' fp1 v r3 s3 p
theorem ev_cb {x : Str} {p pos : Pos} {e : Expr} {es : List Expr} {ms : M (List D)} {g : List D → Option D} {id : String} (hc : CallS X (.builtin id) g) (hg : Gl X x) (hm : X.mg x = none) (hv : bootBuiltins x = some (.builtin id)) (ha : EA X W (e :: es) ms)
    (hn : x ≠ "__name__" := by decide) (hd : (x == ("__debug__" : Str)) = false := by decide) (he : starEach (e :: es) X.env = (false, eval e X.env) :: starEach es X.env := by rfl) (hpl : (backTo pos (starEach es X.env)).any (·.1) = false := by rfl) :
    EV X W (.Call (.Name x p) (e :: es) [] pos) (mcb g ms) := peW (pe_callB hc hg hm hv ha hn hd he hpl) TM.cb
theorem ev_ct {x : Str} {p pos : Pos} {e : Expr} {es : List Expr} {ms : M (List D)} {g : List D → Option D} {id : String} (hc : CallS X (.type id) g) (hg : Gl X x) (hm : X.mg x = none) (hv : bootBuiltins x = some (.type id)) (ha : EA X W (e :: es) ms)
    (hn : x ≠ "__name__" := by decide) (hd : (x == ("__debug__" : Str)) = false := by decide) (he : starEach (e :: es) X.env = (false, eval e X.env) :: starEach es X.env := by rfl) (hpl : (backTo pos (starEach es X.env)).any (·.1) = false := by rfl) :
    EV X W (.Call (.Name x p) (e :: es) [] pos) (mcb g ms) := peW (pe_callTy hc hg hm hv ha hn hd he hpl) TM.cb
end
end Z

namespace Z
open PySem PySem.Spec L2
/-! ## statements -/
def Prt (pr : List Nat) (σ σ' : St) : Prop := σ'.length = σ.length ∧ ∀ i ∈ pr, σ'[i]? = σ[i]?
theorem Prt.refl {pr : List Nat} {σ : St} : Prt pr σ σ := ⟨rfl, fun _ _ => rfl⟩
theorem Prt.trans {pr : List Nat} {σ σ1 σ2 : St} (a : Prt pr σ σ1) (b : Prt pr σ1 σ2) : Prt pr σ σ2 := ⟨b.1.trans a.1, fun i h => (b.2 i h).trans (a.2 i h)⟩
theorem Prt.set {pr : List Nat} {σ : St} {i : Nat} {x : Option V} (h : pr.contains i = false) : Prt pr σ (σ.set i x) := by
  refine ⟨List.length_set, fun j hj => ?_⟩
  have : j ≠ i := fun e => by
    subst e
    rw [List.contains_iff_mem.mpr hj] at h
    cases h
  rw [List.getElem?_set_ne (Ne.symm this)]
section
variable (K : PySem.W.Frag) (W : WX) (pr : List Nat) (σ : St) (F H : Hp) (fp : List Addr) (D : Ends)
def SOut : S → Prop
  | .nxt ρ' => ∀ F' H' fp' σ', Rel K F' H' fp' σ' ρ' → Stp F H fp F' H' fp' → Prt pr σ σ' → D.nx σ' H'
  | .brk ρ' => ∀ F' H' fp' σ', Rel K F' H' fp' σ' ρ' → Stp F H fp F' H' fp' → Prt pr σ σ' → D.bk σ' H'
  | .cnt ρ' => ∀ F' H' fp' σ', Rel K F' H' fp' σ' ρ' → Stp F H fp F' H' fp' → Prt pr σ σ' → D.ct σ' H'
  | .ret o ρ' => ∀ F' H' fp' σ' v, Rel K F' H' fp' (some v :: σ') (some o :: ρ') → Stp F H fp F' H' fp' → Prt pr σ σ' → D.rt v H'
  | .exn c ρ' => ∀ F' H' fp' σ', Rel K F' H' fp' σ' ρ' → Stp F H fp F' H' fp' → Prt pr σ σ' → W c none σ' H'
  | .bad => False
end
def TSt (K : PySem.W.Frag) (W : WX) (pr : List Nat) (m : SM) : TS := fun D σ H => ∃ F fp ρ, Rel K F H fp σ ρ ∧ SOut K W pr σ F H fp D (m ρ)
abbrev SV (X : Cx) (W : WX) (pr : List Nat) (st : Stmt) (m : SM) : Prop := PS X st (TSt X.K W pr m)
abbrev BV (X : Cx) (W : WX) (pr : List Nat) (sts : List Stmt) (m : SM) : Prop := PSs X sts (TSt X.K W pr m)
def slift {α : Type} (m : M α) (k : α → SM) : SM := fun ρ => match m ρ with
  | .ok a ρ' => k a ρ'
  | .exn c ρ' => .exn c ρ'
  | .bad => .bad
def sseq (a b : SM) : SM := fun ρ => match a ρ with
  | .nxt ρ' => b ρ'
  | .ret o ρ' => .ret o ρ'
  | .brk ρ' => .brk ρ'
  | .cnt ρ' => .cnt ρ'
  | .exn c ρ' => .exn c ρ'
  | .bad => .bad
def snxt : SM := fun ρ => .nxt ρ
section
variable {K : PySem.W.Frag} {W : WX} {pr : List Nat} {σ σ1 : St} {F H F1 H1 : Hp} {fp fp1 : List Addr} {ρ : Env} {D : Ends} {α β : Type}
theorem SOut.shift {r : S} (s : Stp F H fp F1 H1 fp1) (p : Prt pr σ σ1) (h : SOut K W pr σ F H fp D r) : SOut K W pr σ1 F1 H1 fp1 D r := by
  cases r with
  | nxt ρ' => exact fun F' H' fp' σ' r t q => h F' H' fp' σ' r (s.trans t) (p.trans q)
  | brk ρ' => exact fun F' H' fp' σ' r t q => h F' H' fp' σ' r (s.trans t) (p.trans q)
  | cnt ρ' => exact fun F' H' fp' σ' r t q => h F' H' fp' σ' r (s.trans t) (p.trans q)
  | ret o ρ' => exact fun F' H' fp' σ' v r t q => h F' H' fp' σ' v r (s.trans t) (p.trans q)
  | exn c ρ' => exact fun F' H' fp' σ' r t q => h F' H' fp' σ' r (s.trans t) (p.trans q)
  | bad => exact h
/-- an expression within a statement -/
theorem SOut.lift {rr : Hp → Hp → β → α → Prop} {P : β → Hp → Prop} {m : M α} {k : α → SM} (h : SOut K W pr σ F H fp D (slift m k ρ))
    (q : ∀ a ρ1 F1 H1 fp1 b, m ρ = .ok a ρ1 → Rel K F1 H1 fp1 σ ρ1 → Stp F H fp F1 H1 fp1 → rr F1 H1 b a → SOut K W pr σ F1 H1 fp1 D (k a ρ1) → P b H1) : Out K W σ F H fp rr P (m ρ) := by
  unfold slift at h
  cases e : m ρ with
  | ok a ρ' =>
    rw [e] at h
    exact fun F' H' fp' b r t rr' => q a ρ' F' H' fp' b e r t rr' (h.shift t Prt.refl)
  | exn c ρ' => rw [e] at h; exact fun F' H' fp' r t => h F' H' fp' σ r t Prt.refl
  | bad => rw [e] at h; exact h
theorem SOut.liftO {P : V → Hp → Prop} {m : M O} {k : O → SM} (h : SOut K W pr σ F H fp D (slift m k ρ))
    (q : ∀ a ρ1 F1 H1 fp1 b, m ρ = .ok a ρ1 → Rel K F1 H1 fp1 (some b :: σ) (some a :: ρ1) → Stp F H fp F1 H1 fp1 → SOut K W pr σ F1 H1 fp1 D (k a ρ1) → P b H1) : OutO K W σ F H fp P (m ρ) := by
  unfold slift at h
  cases e : m ρ with
  | ok a ρ' =>
    rw [e] at h
    exact fun F' H' fp' b r t => q a ρ' F' H' fp' b e r t (h.shift t Prt.refl)
  | exn c ρ' => rw [e] at h; exact fun F' H' fp' r t => h F' H' fp' σ r t Prt.refl
  | bad => rw [e] at h; exact h
theorem SOut.seq {a b : SM} (h : SOut K W pr σ F H fp D (sseq a b ρ)) : SOut K W pr σ F H fp { D with nx := TSt K W pr b D } (a ρ) := by
  unfold sseq at h
  cases e : a ρ with
  | nxt ρ' =>
    rw [e] at h
    exact fun F' H' fp' σ' r t q => ⟨F', fp', ρ', r, SOut.shift t q h⟩
  | brk ρ' => rw [e] at h; exact h
  | cnt ρ' => rw [e] at h; exact h
  | ret o ρ' => rw [e] at h; exact h
  | exn c ρ' => rw [e] at h; exact h
  | bad => rw [e] at h; exact h
end
section
variable {X : Cx} {W : WX} {pr : List Nat} {pos : Pos}
theorem bv_nil : BV X W pr [] snxt := pssW pss_nil fun D σ H ⟨F, fp, ρ, r, o⟩ => o F H fp σ r Stp.refl Prt.refl
theorem bv_cons {st : Stmt} {sts : List Stmt} {a b : SM} (h : SV X W pr st a) (k : BV X W pr sts b) : BV X W pr (st :: sts) (sseq a b) := pssW (pss_cons h k) fun D σ H ⟨F, fp, ρ, r, o⟩ => ⟨F, fp, ρ, r, o.seq⟩
theorem bv_one {st : Stmt} {a : SM} (h : SV X W pr st a) : BV X W pr [st] a := pss_one h
theorem sv_pass : SV X W pr (.Pass pos) snxt := psW ps_pass fun D σ H ⟨F, fp, ρ, r, o⟩ => o F H fp σ r Stp.refl Prt.refl
theorem sv_doc {x j pos'} : SV X W pr (.Expr (.Constant (.str x) j pos) pos') snxt := psW ps_doc fun D σ H ⟨F, fp, ρ, r, o⟩ => o F H fp σ r Stp.refl Prt.refl
theorem sv_brk : SV X W pr (.Break pos) (fun ρ => .brk ρ) := psW ps_break fun D σ H ⟨F, fp, ρ, r, o⟩ => o F H fp σ r Stp.refl Prt.refl
theorem sv_cnt : SV X W pr (.Continue pos) (fun ρ => .cnt ρ) := psW ps_continue fun D σ H ⟨F, fp, ρ, r, o⟩ => o F H fp σ r Stp.refl Prt.refl
theorem sv_never {st : Stmt} : SV X W pr st (fun _ => .bad) := psW ps_never fun D σ H ⟨F, fp, ρ, r, o⟩ => o
def sexpr (m : M D) : SM := slift m fun _ ρ => .nxt ρ
theorem sv_expr {e : Expr} {m : M D} (h : EV X W e m) (hs : swapsWith e none pos.line X.env = pure false := by rfl) : SV X W pr (.Expr e pos) (sexpr m) :=
  psW (ps_expr h hs) fun D σ H ⟨F, fp, ρ, r, o⟩ => ⟨F, fp, ρ, r, o.lift fun d ρ1 F1 H1 fp1 v _ r1 s1 p1 o1 => o1 F1 H1 fp1 σ r1 Stp.refl Prt.refl⟩
def sretO (m : M O) : SM := slift m fun o ρ => .ret o ρ
def sretD (m : M D) : SM := slift m fun d ρ => .ret (.frz d) ρ
theorem sv_retO {e : Expr} {m : M O} (h : EO X W e m) : SV X W pr (.Return (some e) pos) (sretO m) :=
  psW (ps_ret h) fun D σ H ⟨F, fp, ρ, r, o⟩ => ⟨F, fp, ρ, r, o.liftO fun d ρ1 F1 H1 fp1 v _ r1 s1 o1 => o1 F1 H1 fp1 σ v r1 Stp.refl Prt.refl⟩
theorem sv_retD {e : Expr} {m : M D} (h : EV X W e m) : SV X W pr (.Return (some e) pos) (sretD m) :=
  psW (ps_ret h) fun D σ H ⟨F, fp, ρ, r, o⟩ => ⟨F, fp, ρ, r, o.lift fun d ρ1 F1 H1 fp1 v _ r1 s1 p1 o1 => o1 F1 H1 fp1 σ v (r1.push p1) Stp.refl Prt.refl⟩
theorem sv_retN : SV X W pr (.Return none pos) (fun ρ => .ret (.frz .non) ρ) :=
  psW ps_retN fun D σ H ⟨F, fp, ρ, r, o⟩ => o F H fp σ .non (r.push (show Rp X.K F .non .non from rfl)) Stp.refl Prt.refl
def sif (c : M Bool) (a b : SM) : SM := slift c fun k => if k then a else b
theorem sv_if {c : Expr} {a b : List Stmt} {mc : M Bool} {ma mb : SM} (hc : EB X W c mc) (ha : BV X W pr a ma) (hb : BV X W pr b mb) : SV X W pr (.If c a b pos) (sif mc ma mb) := by
  refine psW (ps_if hc ha hb) fun D σ H ⟨F, fp, ρ, r, o⟩ => ⟨F, fp, ρ, r, o.lift fun k ρ1 F1 H1 fp1 b _ r1 s1 p1 o1 => ?_⟩
  have e : b = k := p1
  subst e
  cases b with
  | true => exact ⟨F1, fp1, ρ1, r1, o1⟩
  | false => exact ⟨F1, fp1, ρ1, r1, o1⟩
def ksetO (i : Nat) (o : O) : SM := fun ρ => if i < ρ.length then .nxt (ρ.set i (some o)) else .bad
def ssetD (i : Nat) (m : M D) : SM := slift m fun d => ksetO i (.frz d)
def ssetO (i : Nat) (m : M O) : SM := slift m fun o => ksetO i o
theorem sv_setD {i : Nat} {x : Str} {e : Expr} {pos' : Pos} {m : M D} (hN : X.N.Nodup) (hi : X.N[i]? = some x) (hx : Loc X.env.scope x) (h : EV X W e m) (hp : pr.contains i = false := by rfl)
    (hs : swapsWith e (some (.Name x pos')) pos.line X.env = pure false := by rfl) (hf : X.fn x = true ∨ X.env.scope.names.lookup x = some .local := by first | exact .inl rfl | exact .inr rfl) : SV X W pr (.Assign [.Name x pos'] e pos) (ssetD i m) := by
  refine psW (ps_set hN hi hx h hs hf) fun D σ H ⟨F, fp, ρ, r, o⟩ => ⟨F, fp, ρ, r, o.lift fun d ρ1 F1 H1 fp1 v _ r1 s1 p1 o1 => ?_⟩
  unfold ksetO at o1
  split at o1
  · rename_i hl
    obtain ⟨fp2, r2, m2⟩ := (r1.push p1).store hl
    exact o1 F1 H1 fp2 _ r2 (Stp.less m2) (Prt.set hp)
  · exact o1.elim
theorem sv_setO {i : Nat} {x : Str} {e : Expr} {pos' : Pos} {m : M O} (hN : X.N.Nodup) (hi : X.N[i]? = some x) (hx : Loc X.env.scope x) (h : EO X W e m) (hp : pr.contains i = false := by rfl)
    (hs : swapsWith e (some (.Name x pos')) pos.line X.env = pure false := by rfl) (hf : X.fn x = true ∨ X.env.scope.names.lookup x = some .local := by first | exact .inl rfl | exact .inr rfl) : SV X W pr (.Assign [.Name x pos'] e pos) (ssetO i m) := by
  refine psW (ps_set hN hi hx h hs hf) fun D σ H ⟨F, fp, ρ, r, o⟩ => ⟨F, fp, ρ, r, o.liftO fun d ρ1 F1 H1 fp1 v _ r1 s1 o1 => ?_⟩
  unfold ksetO at o1
  split at o1
  · rename_i hl
    obtain ⟨fp2, r2, m2⟩ := r1.store hl
    exact o1 F1 H1 fp2 _ r2 (Stp.less m2) (Prt.set hp)
  · exact o1.elim
/-! ### targets -/
/-- nothing but these slots is stored -/
def Onl (ts : List Nat) (σ σ' : St) : Prop := σ'.length = σ.length ∧ ∀ (i : Nat), i ∉ ts → σ'[i]? = σ[i]?
theorem Onl.refl {ts : List Nat} {σ : St} : Onl ts σ σ := ⟨rfl, fun _ _ => rfl⟩
theorem Onl.trans {ts us : List Nat} {σ σ1 σ2 : St} (a : Onl ts σ σ1) (b : Onl us σ1 σ2) : Onl (ts ++ us) σ σ2 := ⟨b.1.trans a.1, fun i h => (b.2 i fun z => h (List.mem_append_right _ z)).trans (a.2 i fun z => h (List.mem_append_left _ z))⟩
theorem Onl.set {σ : St} {i : Nat} {x : Option V} : Onl [i] σ (σ.set i x) := ⟨List.length_set, fun j hj => List.getElem?_set_ne fun e => hj (by rw [e]; exact List.mem_cons_self)⟩
theorem Onl.prt {pr ts : List Nat} {σ σ' : St} (h : Onl ts σ σ') (k : (ts.all fun i => !pr.contains i) = true) : Prt pr σ σ' := ⟨h.1, fun i hi => h.2 i fun z => by
  have := List.all_eq_true.mp k i z
  rw [List.contains_iff_mem.mpr hi] at this
  cases this⟩
/-- a target takes data -/
def TGd (K : PySem.W.Frag) (ts : List Nat) (g : D → Env → Option Env) : TG := fun v σ H Q => ∃ F fp ρ d ρ', Rel K F H fp σ ρ ∧ Rp K F d v ∧ g d ρ = some ρ' ∧ ∀ fp' σ', Rel K F H fp' σ' ρ' → (∀ b ∈ fp', b ∈ fp) → Onl ts σ σ' → Q σ' H
abbrev GV (X : Cx) (ts : List Nat) (t : Expr) (g : D → Env → Option Env) : Prop := PG X t (TGd X.K ts g)
theorem pgW {e : Expr} {t t' : TG} (h : PG X e t) (k : ∀ v σ H Q, t' v σ H Q → t v σ H Q) : PG X e t' := ⟨fun pins s σ H v u Q I r q => h.run pins s σ H v u Q I r (k v σ H Q q)⟩
def gset (i : Nat) (d : D) (ρ : Env) : Option Env := if i < ρ.length then some (ρ.set i (some (.frz d))) else none
theorem gv_name {i : Nat} {x : Str} (hN : X.N.Nodup) (hi : X.N[i]? = some x) (hx : Loc X.env.scope x) (hf : X.fn x = true ∨ X.env.scope.names.lookup x = some .local := by first | exact .inl rfl | exact .inr rfl) : GV X [i] (.Name x pos) (gset i) := by
  refine pgW (pg_name hN hi hx hf) fun v σ H Q ⟨F, fp, ρ, d, ρ', r, p, e, q⟩ => ?_
  unfold gset at e
  split at e
  · rename_i hl
    cases e
    obtain ⟨fp2, r2, m2⟩ := (r.push p).store hl
    exact q fp2 _ r2 m2 Onl.set
  · cases e
/-- several targets -/
def TGsd (K : PySem.W.Frag) (ts : List Nat) (g : List D → Env → Option Env) : TGs := fun vs σ H Q => ∃ F fp ρ ds ρ', Rel K F H fp σ ρ ∧ RpA K F ds vs ∧ g ds ρ = some ρ' ∧ ∀ fp' σ', Rel K F H fp' σ' ρ' → (∀ b ∈ fp', b ∈ fp) → Onl ts σ σ' → Q σ' H
abbrev GVs (X : Cx) (ts : List Nat) (es : List Expr) (g : List D → Env → Option Env) : Prop := PGs X es (TGsd X.K ts g)
theorem pgsW {e : List Expr} {t t' : TGs} (h : PGs X e t) (k : ∀ v σ H Q, t' v σ H Q → t v σ H Q) : PGs X e t' := ⟨fun pins s σ H v u Q I r q => h.run pins s σ H v u Q I r (k v σ H Q q)⟩
def gsnil : List D → Env → Option Env
  | [], ρ => some ρ
  | _ :: _, _ => none
def gscons (g : D → Env → Option Env) (gs : List D → Env → Option Env) : List D → Env → Option Env
  | [], _ => none
  | d :: ds, ρ => (g d ρ).bind (gs ds)
theorem gvs_nil : GVs X [] [] gsnil := by
  refine pgsW pgs_nil fun vs σ H Q ⟨F, fp, ρ, ds, ρ', r, p, e, q⟩ => ?_
  cases ds with
  | nil =>
    cases e
    exact ⟨p, q fp σ r (fun _ h => h) Onl.refl⟩
  | cons d ds => cases e
theorem gvs_cons {ts us : List Nat} {t : Expr} {es : List Expr} {g : D → Env → Option Env} {gs : List D → Env → Option Env} (h : GV X ts t g) (k : GVs X us es gs)
    (hs : (assignEach (t :: es) X.env).map (·.2) = assign t X.env :: (assignEach es X.env).map (·.2) := by rfl) : GVs X (ts ++ us) (t :: es) (gscons g gs) := by
  refine pgsW (pgs_cons h k hs) fun vs σ H Q ⟨F, fp, ρ, ds, ρ', r, p, e, q⟩ => ?_
  cases ds with
  | nil => cases e
  | cons d ds =>
    obtain ⟨x, xs, rfl, p1, p2⟩ := p
    have e : (g d ρ).bind (gs ds) = some ρ' := e
    cases e1 : g d ρ with
    | none => rw [e1] at e; cases e
    | some ρ1 =>
      rw [e1] at e
      exact ⟨x, xs, rfl, F, fp, ρ, d, ρ1, r, p1, e1, fun fp1 σ1 r1 m1 t1 => ⟨F, fp1, ρ1, ds, ρ', r1, p2, e, fun fp2 σ2 r2 m2 t2 => q fp2 σ2 r2 (fun b hb => m1 b (m2 b hb)) (t1.trans t2)⟩⟩
def gtup (n : Nat) (gs : List D → Env → Option Env) : D → Env → Option Env
  | .tup ds, ρ => if ds.length = n then gs ds ρ else none
  | _, _ => none
theorem gv_tup {ts : List Nat} {es : List Expr} {k n : Nat} {gs : List D → Env → Option Env} (hc : X.calm = true) (h : GVs X ts es gs)
    (hn : (assignEach es X.env).length = n := by rfl) (hst : (assignEach es X.env).findIdx? (·.1) = none := by rfl) : GV X ts (.Tuple es k pos) (gtup n gs) := by
  refine pgW (pg_tup hc h hn hst) fun v σ H Q ⟨F, fp, ρ, d, ρ', r, p, e, q⟩ => ?_
  cases d with
  | tup ds =>
    obtain ⟨a, xs, rfl, h1, h2⟩ := p
    have e : (if ds.length = n then gs ds ρ else none) = some ρ' := e
    split at e
    · rename_i hl
      exact ⟨a, xs, rfl, Same.sqt r.sub h1, by rw [← RpA.length h2]; exact hl, F, fp, ρ, ds, ρ', r, h2, e, q⟩
    · cases e
  | _ => cases e
def sasg (m : M D) (g : D → Env → Option Env) : SM := slift m fun d ρ => match g d ρ with
  | some ρ' => .nxt ρ'
  | none => .bad
theorem sv_asg {ts : List Nat} {tg e : Expr} {m : M D} {g : D → Env → Option Env} (h : EV X W e m) (k : GV X ts tg g) (hp : (ts.all fun i => !pr.contains i) = true := by rfl) (hs : swapsWithSole [tg] e pos.line X.env = pure false := by rfl) (hw : swappedStores [tg] e X.env = pure none := by rfl)
    (h1 : (assignEach [tg] X.env).map (·.2) = [assign tg X.env] := by rfl) : SV X W pr (.Assign [tg] e pos) (sasg m g) := by
  refine psW (ps_asg h k hs hw h1) fun D σ H ⟨F, fp, ρ, r, o⟩ => ⟨F, fp, ρ, r, o.lift fun d ρ1 F1 H1 fp1 v _ r1 s1 p1 o1 => ?_⟩
  cases q : g d ρ1 with
  | none => rw [q] at o1; exact o1.elim
  | some ρ2 =>
    rw [q] at o1
    exact ⟨F1, fp1, ρ1, d, ρ2, r1, p1, q, fun fp2 σ2 r2 m2 t2 => o1 F1 H1 fp2 σ2 r2 (Stp.less m2) (t2.prt hp)⟩
/-- a, b = x, y with plain local names -/
def spar (i j : Nat) (a b : M D) : SM := slift a fun x => slift b fun y ρ => if i < ρ.length ∧ j < ρ.length then .nxt ((ρ.set i (some (.frz x))).set j (some (.frz y))) else .bad
theorem sv_par {i j : Nat} {x y : Str} {a b : Expr} {ma mb : M D} {px py pt : Pos} {kt k2 pt2} (hc : X.calm = true) (hN : X.N.Nodup) (hi : X.N[i]? = some x) (hj : X.N[j]? = some y) (hij : i ≠ j)
    (hx : X.env.scope.names.lookup x = some .local) (hy : X.env.scope.names.lookup y = some .local) (ha : EV X W a ma) (hb : EV X W b mb) (h1 : pr.contains i = false := by rfl) (h2 : pr.contains j = false := by rfl)
    (hst : starEach [a, b] X.env = (false, eval a X.env) :: starEach [b] X.env := by rfl) (hst2 : starEach [b] X.env = (false, eval b X.env) :: starEach [] X.env := by rfl)
    (hw : swappedStores [.Tuple [.Name x px, .Name y py] kt pt] (.Tuple [a, b] k2 pt2) X.env = pure (some [x, y]) := by rfl)
    (hs : swapsWithSole [.Tuple [.Name x px, .Name y py] kt pt] (.Tuple [a, b] k2 pt2) pos.line X.env = pure false := by rfl) :
    SV X W pr (.Assign [.Tuple [.Name x px, .Name y py] kt pt] (.Tuple [a, b] k2 pt2) pos) (spar i j ma mb) := by
  have hq := ps_par hc hN hi hj hij hx hy (pa_cons ha (pa_cons hb pa_nil hst2) hst) hw hs
  refine psW hq fun D σ H ⟨F, fp, ρ, r, o⟩ => ⟨F, fp, ρ, r, o.lift fun d ρ1 F1 H1 fp1 v _ r1 s1 p1 o1 => ⟨F1, fp1, ρ1, r1, o1.lift fun d2 ρ2 F2 H2 fp2 v2 _ r2 s2 p2 o2 => ?_⟩⟩
  refine ⟨v, v2, rfl, ?_⟩
  have o2 : SOut X.K W pr σ F2 H2 fp2 D (if i < ρ2.length ∧ j < ρ2.length then S.nxt ((ρ2.set i (some (O.frz d))).set j (some (O.frz d2))) else .bad) := o2
  split at o2
  · rename_i hl
    obtain ⟨fp3, r3, m3⟩ := (r2.push (Rp.mono s2.sub d v p1)).store hl.1
    obtain ⟨fp4, r4, m4⟩ := (r3.push p2).store (i := j) (by rw [List.length_set]; exact hl.2)
    exact o2 F2 H2 fp4 _ r4 (Stp.less fun b hb => m3 b (m4 b hb)) ((Prt.set h1).trans (Prt.set h2))
  · exact o2.elim
end
/-! ## defs -/
inductive FR where
  | ok (o : O) (fs : List O) | exn (c : Value) (fs : List O) | bad
def frzOk : List Bool → List O → Bool
  | [], [] => true
  | true :: ms, _ :: os => frzOk ms os
  | false :: ms, .frz _ :: os => frzOk ms os
  | _, _ => false
def finals : List Bool → List O → Env → Option (List O)
  | [], [], _ => some []
  | true :: ms, _ :: os, some o :: ρ => (finals ms os ρ).map (o :: ·)
  | false :: ms, o :: os, _ :: ρ => (finals ms os ρ).map (o :: ·)
  | _, _, _ => none
/-- a def by its body: which parameters may be written, how many more names there are -/
def runFn (mask : List Bool) (nl : Nat) (body : SM) (os : List O) : FR :=
  if frzOk mask os = true then match body (os.map some ++ List.replicate nl none) with
    | .ret o ρ' => match finals mask os ρ' with
      | some fs => .ok o fs
      | none => .bad
    | .nxt ρ' => match finals mask os ρ' with
      | some fs => .ok (.frz .non) fs
      | none => .bad
    | .exn c ρ' => match finals mask os ρ' with
      | some fs => .exn c fs
      | none => .bad
    | _ => .bad
  else .bad
def spF (K : PySem.W.Frag) (n : Nat) (f : List O → FR) : Sp := fun vs H Q E => vs.length = n ∧ ∃ F fp os, Rel K F H fp (vs.map some) (os.map some) ∧ match f os with
  | .ok o fs => ∀ F' H' fp' v, Rel K F' H' fp' (some v :: vs.map some) (some o :: fs.map some) → Stp F H fp F' H' fp' → Q v H'
  | .exn c fs => ∀ F' H' fp', Rel K F' H' fp' (vs.map some) (fs.map some) → Stp F H fp F' H' fp' → E c none H'
  | .bad => False
/-- a def keeps a promise, wherever no repr runs -/
structure FnG (P : Program) (w : World) (K : PySem.W.Frag) (mg : Str → Option Value) (base : Heap) (k : Nat) (f : Addr) (fd : FuncData) (ps : List Str) (sp : Sp) : Prop where
  len : ∀ vs H Q E, sp vs H Q E → vs.length = ps.length
  run : ∀ (A : Around) (outer : List PySem.Env) (s : Shared) (H : Hp) (args : Args) (us : List Value) (vs : List V) (Q : VK) (E : XK), Room k A → A.guards = some [] → Env0 P w K mg base A outer s H →
    BindsTo s fd args (ps.zip us) → Vals vs us → sp vs H Q E → codeAny (model P w) A (.call (.ref f) args) (CR (L2.CX P w) outer P w H s Q E) s
/-- a def of the text that runs as f -/
structure FnS (P : Program) (w : World) (K : PySem.W.Frag) (mg : Str → Option Value) (base : Heap) (k : Nat) (x : Str) (st : Stmt) (ps : List Str) (f : List O → FR) : Prop where
  ex : ∃ a fd qual, mg x = some (.ref a) ∧ Fun K x qual st a fd ∧ Binds K fd ps [] ∧ FnG P w K mg base k a fd ps (spF K ps.length f)
section
variable {K : PySem.W.Frag} {F H : Hp}
def trues : List Bool → Nat → List Nat
  | [], _ => []
  | true :: ms, i => i :: trues ms (i + 1)
  | false :: ms, i => trues ms (i + 1)
theorem mem_trues : ∀ {ms : List Bool} {i j : Nat}, ms[j]? = some true → i + j ∈ trues ms i
  | [], _, _, h => by simp at h
  | true :: ms, i, 0, _ => by simp [trues]
  | false :: ms, i, 0, h => by simp at h
  | true :: ms, i, j + 1, h => by
    have := mem_trues (ms := ms) (i := i + 1) (j := j) (by simpa using h)
    rw [show i + (j + 1) = i + 1 + j by omega]
    exact List.mem_cons_of_mem _ this
  | false :: ms, i, j + 1, h => by
    have := mem_trues (ms := ms) (i := i + 1) (j := j) (by simpa using h)
    rw [show i + (j + 1) = i + 1 + j by omega]
    exact this
theorem frzOk_len : ∀ {ms : List Bool} {os : List O}, frzOk ms os = true → ms.length = os.length
  | [], [], _ => rfl
  | [], _ :: _, h => by simp [frzOk] at h
  | true :: ms, [], h => by simp [frzOk] at h
  | false :: ms, [], h => by simp [frzOk] at h
  | true :: ms, _ :: os, h => by simp [frzOk] at h; simp [frzOk_len h]
  | false :: ms, .frz _ :: os, h => by simp [frzOk] at h; simp [frzOk_len h]
  | false :: ms, .lst _ :: os, h => by simp [frzOk] at h
  | false :: ms, .dct _ :: os, h => by simp [frzOk] at h
/-- the arguments' trees behind the body -/
theorem finals_slots {F' H' : Hp} (s : Same F F') : ∀ {ms : List Bool} {os fs : List O} {ρ : Env} {σ' : St} {vs : List V} {f f0 : List Addr}, frzOk ms os = true → finals ms os ρ = some fs → Slots K F H (os.map some) f0 (vs.map some) →
    Slots K F' H' ρ f σ' → (∀ (j : Nat), ms[j]? = some true → σ'[j]? = (vs.map some)[j]?) → ∃ g, g.Sublist f ∧ Slots K F' H' (fs.map some) g (vs.map some)
  | [], [], fs, ρ, σ', vs, f, f0, _, e, h0, _, _ => by
    cases e
    have : vs.map some = [] := h0.2
    rw [this]
    exact ⟨[], List.nil_sublist _, ⟨rfl, rfl⟩⟩
  | true :: ms, o :: os, fs, some o' :: ρ, σ', vs, f, f0, k, e, h0, h, w => by
    have e : (finals ms os ρ).map (o' :: ·) = some fs := e
    cases q : finals ms os ρ with
    | none => rw [q] at e; cases e
    | some gs =>
      rw [q] at e; cases e
      obtain ⟨a1, a2, v0, r0, _, e0, _, h02⟩ := h0
      cases vs with
      | nil => cases e0
      | cons v vs =>
        injection e0 with e1 e2
        obtain ⟨f1, f2, v', r, rfl, rfl, h1, h2⟩ := h
        have hv := w 0 rfl
        have hv : v' = v := by simpa using hv
        subst hv
        obtain ⟨g, q1, q2⟩ := finals_slots s (by simpa [frzOk] using k) q (by rw [← e2] at h02; exact h02) h2 (fun j hj => by simpa using w (j + 1) (by simpa using hj))
        exact ⟨f1 ++ g, List.Sublist.append_left q1 f1, ⟨f1, g, v', _, rfl, rfl, h1, q2⟩⟩
  | true :: ms, o :: os, fs, none :: ρ, _, _, _, _, _, e, _, _, _ => by cases e
  | true :: ms, o :: os, fs, [], _, _, _, _, _, e, _, _, _ => by cases e
  | false :: ms, .frz d :: os, fs, y :: ρ, σ', vs, f, f0, k, e, h0, h, w => by
    have e : (finals ms os ρ).map (O.frz d :: ·) = some fs := e
    cases q : finals ms os ρ with
    | none => rw [q] at e; cases e
    | some gs =>
      rw [q] at e; cases e
      obtain ⟨a1, a2, v0, r0, _, e0, h01, h02⟩ := h0
      cases vs with
      | nil => cases e0
      | cons v vs =>
        injection e0 with e1 e2
        injection e1 with e1
        have tail : ∃ f2 r, (∀ b ∈ f2, b ∈ f) ∧ f2.Sublist f ∧ σ' = σ'.head?.join.map id :: r ∧ Slots K F' H' ρ f2 r := by
          cases y with
          | none =>
            obtain ⟨x, r, rfl, h⟩ := h
            exact ⟨f, r, fun _ h => h, List.Sublist.refl _, by cases x <;> rfl, h⟩
          | some o' =>
            obtain ⟨f1, f2, v', r, rfl, rfl, h1, h2⟩ := h
            exact ⟨f2, r, fun b hb => List.mem_append_right _ hb, List.sublist_append_right _ _, rfl, h2⟩
        obtain ⟨f2, r, m, sb, er, h2⟩ := tail
        obtain ⟨g, q1, q2⟩ := finals_slots s (by simpa [frzOk] using k) q (by rw [← e2] at h02; exact h02) h2 (fun j hj => by
          have := w (j + 1) (by simpa using hj)
          rw [er] at this
          simpa using this)
        refine ⟨g, q1.trans sb, ⟨[], g, v, _, rfl, rfl, ⟨rfl, ?_⟩, q2⟩⟩
        rw [e1]
        exact Rp.mono s d _ h01.2
  | false :: ms, .lst _ :: os, _, _, _, _, _, _, k, _, _, _, _ => by simp [frzOk] at k
  | false :: ms, .dct _ :: os, _, _, _, _, _, _, k, _, _, _, _ => by simp [frzOk] at k
  | false :: ms, .frz _ :: os, fs, [], _, _, _, _, _, e, _, _, _ => by cases e
  | [], _ :: _, _, _, _, _, _, _, k, _, _, _, _ => by simp [frzOk] at k
  | true :: _, [], _, _, _, _, _, _, k, _, _, _, _ => by simp [frzOk] at k
  | false :: _, [], _, _, _, _, _, _, k, _, _, _, _ => by simp [frzOk] at k
theorem slots_none : ∀ n : Nat, Slots K F H (List.replicate n none) [] (List.replicate n none)
  | 0 => ⟨rfl, rfl⟩
  | n + 1 => ⟨none, _, rfl, slots_none n⟩
end
section
variable {P : Program} {w : World} {K : PySem.W.Frag} {mg : Str → Option Value} {base : Heap}
/-- a def as it stands, whatever its defaults -/
structure FunB (K : PySem.W.Frag) (x qual : Str) (st : Stmt) (f : Addr) (fd : FuncData) : Prop where
  ex : ∃ (oc : Value) (od : Option Addr) (dV kV doc pm : Value) (an : Option Addr) (cdv ct : Value) (osl : Array (Option Value)), fd = PySem.W.fnOf x qual (defArgs st) (defBody st) (defScope st) dV kV doc pm an cdv ct ∧ K.lookup f = some ⟨oc, od, .func fd, osl⟩ ∧ PySem.W.codeIn K cdv qual = true
theorem funB {x qual : Str} {st : Stmt} {f : Addr} {fd : FuncData} (h : Fun K x qual st f fd) : FunB K x qual st f fd := by
  obtain ⟨oc, od, kV, doc, pm, an, cdv, ct, osl, e, lk, hcd⟩ := h.ex
  exact ⟨oc, od, _, kV, doc, pm, an, cdv, ct, osl, e, lk, hcd⟩
/-- from a body to the promise -/
theorem fng_of {x qual : Str} {st : Stmt} {f : Addr} {fd : FuncData} {N ps : List Str} {k : Nat} {sp : Sp} (Fu : FunB K x qual st f fd) (S : FnScope N ps (defScope st)) (len : ∀ vs H Q E, sp vs H Q E → vs.length = ps.length)
    (hb : ∀ (cdv : Value) (A : Around) (outer : List PySem.Env) (s : Shared) (H : Hp) (vs : List V) (Q : VK) (E : XK), Room k (A.deeper (PyProof.Rows.envOfC qual (defScope st) s.heap.objs.size f cdv)) → A.guards = some [] → sp vs H Q E →
      ∃ t, PSs (cxOf (L2.CX P w) P w K mg base N qual (defScope st) f cdv A outer s H E) (defBody st) t ∧ t { nx := fun _ H' => Q .non H', rt := Q } (L2.start N vs) H) : FnG P w K mg base (k + 1) f fd ps sp := by
  obtain ⟨oc, od, dV, kV, doc, pm, an, cdv, ct, osl, rfl, lk, hcd⟩ := Fu.ex
  refine ⟨len, fun A outer s H args us vs Q E hr hgd e0 hbd r hsp => ?_⟩
  have kx : K.In s.heap := e0.mod.kin.keeps fun b o e => (e0.bs b o e).1
  have nl : s.heap.NoLimit := e0.mod.nolimit.keeps fun b o e => (e0.bs b o e).1
  have kinds : ∀ y ∈ ps.zip us, (defScope st).names.lookup y.1 = some .local ∨ ((defScope st).names.lookup y.1 = some .cell ∧ ((cellsFrom (s.heap.objs.size + 1) (defScope st).names []).lookup y.1).isSome = true) := fun y hy => by
    rcases S.par y.1 (List.of_mem_zip (show (y.1, y.2) ∈ ps.zip us from hy)).1 with q | q
    · exact .inl q
    · exact .inr ⟨q, PySem.W.cellsFrom_some _ _ _ (.inl q)⟩
  refine codeAny_call_function hr.depth (kx _ _ lk) rfl S.co S.gen rfl (PySem.W.codeRec_of kx hcd) (hbd _ _ _ _ ?_)
  refine wpAny_newFunctionEnv_cells S.kind kinds fun env he s1 xx => ?_
  subst he
  refine ⟨nl.keeps xx.toInCall.keep, codeAny_func ?_⟩
  obtain ⟨t, ht, hq⟩ := hb cdv A outer s H vs Q E (hr.deeper _) hgd hsp
  refine wpAny_mono (ht.run [] s1 (L2.start N vs) H _ (inv_start S hr.hd e0 (len _ _ _ _ hsp) r xx) hq) (fun fl s' hs => ?_) fun e s' hs => hs
  cases fl with
  | ret u =>
    obtain ⟨v, σ', H', J, rv, q⟩ := hs
    exact ⟨v, H', J.os, J.bare, J.base, J.hok, rv, q⟩
  | next =>
    obtain ⟨σ', H', J, q⟩ := hs
    exact ⟨V.non, H', J.os, J.bare, J.base, J.hok, rfl, q⟩
  | brk =>
    obtain ⟨_, _, _, q⟩ := hs
    exact False.elim q
  | cont =>
    obtain ⟨_, _, _, q⟩ := hs
    exact False.elim q
/-- a body as its run says -/
theorem fn_bodyI {qual : Str} {st : Stmt} {f : Addr} {N ps : List Str} {k : Nat} {mask : List Bool} {nl : Nat} {m : SM} (hml : mask.length = ps.length) (hnl : N.length = ps.length + nl)
    (h : ∀ (cdv : Value) (A : Around) (outer : List PySem.Env) (s : Shared) (H : Hp) (E : XK), Room k (A.deeper (PyProof.Rows.envOfC qual (defScope st) s.heap.objs.size f cdv)) → A.guards = some [] →
      Takes (cxOf (L2.CX P w) P w K mg base N qual (defScope st) f cdv A outer s H E) (fun c d _ H => E c d H) → PassesOwn (model P w) (A.deeper (PyProof.Rows.envOfC qual (defScope st) s.heap.objs.size f cdv)) (PyProof.Rows.envOfC qual (defScope st) s.heap.objs.size f cdv) (cxOf (L2.CX P w) P w K mg base N qual (defScope st) f cdv A outer s H E).xe →
      BV (cxOf (L2.CX P w) P w K mg base N qual (defScope st) f cdv A outer s H E) (fun c d _ H => E c d H) (trues mask 0) (defBody st) m) :
    ∀ (cdv : Value) (A : Around) (outer : List PySem.Env) (s : Shared) (H : Hp) (vs : List V) (Q : VK) (E : XK), Room k (A.deeper (PyProof.Rows.envOfC qual (defScope st) s.heap.objs.size f cdv)) → A.guards = some [] → spF K ps.length (runFn mask nl m) vs H Q E →
      ∃ t, PSs (cxOf (L2.CX P w) P w K mg base N qual (defScope st) f cdv A outer s H E) (defBody st) t ∧ t { nx := fun _ H' => Q .non H', rt := Q } (L2.start N vs) H := by
  intro cdv A outer s H vs Q E hr hgd ⟨hl, F, fp, os, r, o⟩
  refine ⟨_, h cdv A outer s H E hr hgd (takes_of (E := E) rfl rfl rfl rfl) (passes_of rfl), ?_⟩
  unfold runFn at o
  by_cases hk : frzOk mask os = true
  · rw [if_pos hk] at o
    have lo : os.length = vs.length := by
      have := r.len
      simpa using this
    have r0 : Rel K F H fp (L2.start N vs) (os.map some ++ List.replicate nl none) := by
      refine ⟨r.sub, r.fre, r.nd, ?_⟩
      have := Slots.join (os.map some) fp (vs.map some) r.sl (slots_none (K := K) (F := F) (H := H) nl)
      rw [List.append_nil] at this
      unfold L2.start
      rw [show N.length - vs.length = nl by omega]
      exact this
    refine ⟨F, fp, _, r0, ?_⟩
    have fin : ∀ {F' H' : Hp} {fp' : List Addr} {σ' : St} {ρ' : Env} {fs : List O}, finals mask os ρ' = some fs → Same F F' → Slots K F' H' ρ' fp' σ' → Prt (trues mask 0) (L2.start N vs) σ' → ∃ g, g.Sublist fp' ∧ Slots K F' H' (fs.map some) g (vs.map some) := by
      intro F' H' fp' σ' ρ' fs e s' sl pt
      refine finals_slots s' hk e r.sl sl fun j hj => ?_
      have hjl : j < vs.length := by
        have := lt_of_get hj
        omega
      have := pt.2 j (by have := mem_trues (i := 0) hj; rwa [Nat.zero_add] at this)
      rw [this]
      unfold L2.start
      rw [List.getElem?_append_left (by simpa using hjl)]
    cases e : m (os.map some ++ List.replicate nl none) with
    | nxt ρ' =>
      rw [e] at o
      intro F' H' fp' σ' r' t pt
      cases e2 : finals mask os ρ' with
      | none => simp only [e2] at o
      | some fs =>
        simp only [e2] at o
        obtain ⟨g, q1, q2⟩ := fin e2 t.sub r'.sl pt
        refine o F' H' g .non ⟨r'.sub, fun b hb => r'.fre b (q1.subset hb), r'.nd.sublist q1, ⟨[], g, .non, _, rfl, rfl, ⟨rfl, rfl⟩, q2⟩⟩ (t.trans (Stp.less fun b hb => q1.subset hb))
    | ret z ρ' =>
      rw [e] at o
      intro F' H' fp' σ' v r' t pt
      cases e2 : finals mask os ρ' with
      | none => simp only [e2] at o
      | some fs =>
        simp only [e2] at o
        obtain ⟨f1, f2, v', r2, rfl, e3, h1, h2⟩ := r'.sl
        injection e3 with e3 e4
        injection e3 with e3
        subst e3 e4
        obtain ⟨g, q1, q2⟩ := fin e2 t.sub h2 pt
        have sb : (f1 ++ g).Sublist (f1 ++ f2) := List.Sublist.append_left q1 f1
        exact o F' H' (f1 ++ g) v ⟨r'.sub, fun b hb => r'.fre b (sb.subset hb), r'.nd.sublist sb, ⟨f1, g, v, _, rfl, rfl, h1, q2⟩⟩ (t.trans (Stp.less fun b hb => sb.subset hb))
    | exn c ρ' =>
      rw [e] at o
      intro F' H' fp' σ' r' t pt
      cases e2 : finals mask os ρ' with
      | none => simp only [e2] at o
      | some fs =>
        simp only [e2] at o
        obtain ⟨g, q1, q2⟩ := fin e2 t.sub r'.sl pt
        exact o F' H' g ⟨r'.sub, fun b hb => r'.fre b (q1.subset hb), r'.nd.sublist q1, q2⟩ (t.trans (Stp.less fun b hb => q1.subset hb))
    | brk ρ' => rw [e] at o; exact o.elim
    | cnt ρ' => rw [e] at o; exact o.elim
    | bad => rw [e] at o; exact o.elim
  · rw [if_neg hk] at o; exact o.elim
/-- THE RULE for a def -/
theorem fn_bodyB {x qual : Str} {st : Stmt} {f : Addr} {fd : FuncData} {N ps : List Str} {k : Nat} {mask : List Bool} {nl : Nat} {m : SM} (Fu : FunB K x qual st f fd) (S : FnScope N ps (defScope st)) (hml : mask.length = ps.length) (hnl : N.length = ps.length + nl)
    (h : ∀ (cdv : Value) (A : Around) (outer : List PySem.Env) (s : Shared) (H : Hp) (E : XK), Room k (A.deeper (PyProof.Rows.envOfC qual (defScope st) s.heap.objs.size f cdv)) → A.guards = some [] →
      Takes (cxOf (L2.CX P w) P w K mg base N qual (defScope st) f cdv A outer s H E) (fun c d _ H => E c d H) → PassesOwn (model P w) (A.deeper (PyProof.Rows.envOfC qual (defScope st) s.heap.objs.size f cdv)) (PyProof.Rows.envOfC qual (defScope st) s.heap.objs.size f cdv) (cxOf (L2.CX P w) P w K mg base N qual (defScope st) f cdv A outer s H E).xe →
      BV (cxOf (L2.CX P w) P w K mg base N qual (defScope st) f cdv A outer s H E) (fun c d _ H => E c d H) (trues mask 0) (defBody st) m) :
    FnG P w K mg base (k + 1) f fd ps (spF K ps.length (runFn mask nl m)) := fng_of Fu S (fun vs H Q E h => h.1) (fn_bodyI hml hnl h)
theorem fn_body {x qual : Str} {st : Stmt} {f : Addr} {fd : FuncData} {N ps : List Str} {k : Nat} {mask : List Bool} {nl : Nat} {m : SM} (Fu : Fun K x qual st f fd) (S : FnScope N ps (defScope st)) (hml : mask.length = ps.length) (hnl : N.length = ps.length + nl)
    (h : ∀ (cdv : Value) (A : Around) (outer : List PySem.Env) (s : Shared) (H : Hp) (E : XK), Room k (A.deeper (PyProof.Rows.envOfC qual (defScope st) s.heap.objs.size f cdv)) → A.guards = some [] →
      Takes (cxOf (L2.CX P w) P w K mg base N qual (defScope st) f cdv A outer s H E) (fun c d _ H => E c d H) → PassesOwn (model P w) (A.deeper (PyProof.Rows.envOfC qual (defScope st) s.heap.objs.size f cdv)) (PyProof.Rows.envOfC qual (defScope st) s.heap.objs.size f cdv) (cxOf (L2.CX P w) P w K mg base N qual (defScope st) f cdv A outer s H E).xe →
      BV (cxOf (L2.CX P w) P w K mg base N qual (defScope st) f cdv A outer s H E) (fun c d _ H => E c d H) (trues mask 0) (defBody st) m) :
    FnG P w K mg base (k + 1) f fd ps (spF K ps.length (runFn mask nl m)) := fn_bodyB (funB Fu) S hml hnl h
end
end Z

namespace Z
open PySem PySem.Spec L2
/-! ## calls of defs -/
def ArR (K : PySem.W.Frag) (σ : St) (F : Hp) : List (Sum D Nat) → List V → Prop
  | [], vs => vs = []
  | .inl d :: as, vs => ∃ v r, vs = v :: r ∧ Rp K F d v ∧ ArR K σ F as r
  | .inr i :: as, vs => ∃ v r, vs = v :: r ∧ σ[i]? = some (some v) ∧ ArR K σ F as r
def rrR (K : PySem.W.Frag) (σ : St) : Hp → Hp → List V → List (Sum D Nat) → Prop := fun F _ vs as => ArR K σ F as vs
def TAr (K : PySem.W.Frag) (W : WX) (m : M (List (Sum D Nat))) : TA := fun σ H Q => ∃ F fp ρ, Rel K F H fp σ ρ ∧ Out K W σ F H fp (rrR K σ) Q (m ρ)
abbrev AV (X : Cx) (W : WX) (es : List Expr) (m : M (List (Sum D Nat))) : Prop := PA X es (TAr X.K W m)
def maE (m : M D) (r : M (List (Sum D Nat))) : M (List (Sum D Nat)) := mbind m fun d => mbind r fun as => mret (.inl d :: as)
def maI (i : Nat) (r : M (List (Sum D Nat))) : M (List (Sum D Nat)) := fun ρ => match ρ[i]? with
  | some (some _) => mbind r (fun as => mret (.inr i :: as)) ρ
  | _ => .bad
section
variable {K : PySem.W.Frag} {F F' H H' : Hp} {σ : St}
theorem ArR.mono (s : Same F F') : ∀ {as : List (Sum D Nat)} {vs : List V}, ArR K σ F as vs → ArR K σ F' as vs
  | [], _, h => h
  | .inl d :: as, _, h => by
    obtain ⟨v, r, e, h1, h2⟩ := h
    exact ⟨v, r, e, Rp.mono s d v h1, ArR.mono s h2⟩
  | .inr i :: as, _, h => by
    obtain ⟨v, r, e, h1, h2⟩ := h
    exact ⟨v, r, e, h1, ArR.mono s h2⟩
end
section
variable {X : Cx} {W : WX}
theorem av_nil : AV X W [] (mret []) := paW pa_nil fun σ H Q ⟨F, fp, ρ, r, o⟩ => o F H fp [] r Stp.refl rfl
theorem av_e {e : Expr} {es : List Expr} {m : M D} {ms : M (List (Sum D Nat))} (h : EV X W e m) (hs : AV X W es ms) (hst : starEach (e :: es) X.env = (false, eval e X.env) :: starEach es X.env := by rfl) : AV X W (e :: es) (maE m ms) := by
  refine paW (pa_cons h hs hst) fun σ H Q ⟨F, fp, ρ, r, o⟩ => ⟨F, fp, ρ, r, Out.bind o fun d ρ1 F1 H1 fp1 x _ r1 s1 p1 o1 => ⟨F1, fp1, ρ1, r1, Out.bind o1 fun ds ρ2 F2 H2 fp2 xs _ r2 s2 p2 o2 => ?_⟩⟩
  exact o2 F2 H2 fp2 (x :: xs) r2 Stp.refl ⟨x, xs, rfl, Rp.mono s2.sub d x p1, p2⟩
theorem av_io (i : Nat) {x : Str} {pos : Pos} {es : List Expr} {ms : M (List (Sum D Nat))} (hs : AV X W es ms) (hN : X.N[i]? = some x := by rfl) (hv : Vis X.env.scope x := by first | exact Or.inl rfl | exact Or.inr (Or.inl rfl) | exact Or.inr (Or.inr rfl))
    (hd : (x == ("__debug__" : Str)) = false := by decide) (hcd : (x == ("__classdict__" : Str)) = false := by decide) (hst : starEach (.Name x pos :: es) X.env = (false, eval (.Name x pos) X.env) :: starEach es X.env := by rfl) : AV X W (.Name x pos :: es) (maI i ms) := by
  refine paW (pa_cons (pe_var hN hv hd hcd) hs hst) fun σ H Q ⟨F, fp, ρ, r, o⟩ => ?_
  unfold maI at o
  cases q : ρ[i]? with
  | none => rw [q] at o; exact o.elim
  | some t =>
    rw [q] at o
    cases t with
    | none => exact o.elim
    | some t =>
      obtain ⟨v, h1⟩ := r.val q
      have o : Out X.K W σ F H fp (rrR X.K σ) Q (mbind ms (fun as => mret (.inr i :: as)) ρ) := o
      exact ⟨v, h1, F, fp, ρ, r, Out.bind o fun ds ρ2 F2 H2 fp2 xs _ r2 s2 p2 o2 => o2 F2 H2 fp2 (v :: xs) r2 Stp.refl ⟨v, xs, rfl, h1, p2⟩⟩
end
def grab : List (Sum D Nat) → Env → Option (List O × Env)
  | [], ρ => some ([], ρ)
  | .inl d :: l, ρ => (grab l ρ).map fun p => (.frz d :: p.1, p.2)
  | .inr i :: l, ρ => match ρ[i]? with
    | some (some o) => (grab l (ρ.set i none)).map fun p => (o :: p.1, p.2)
    | _ => none
def give : List (Sum D Nat) → List O → Env → Option Env
  | [], [], ρ => some ρ
  | .inl _ :: l, _ :: fs, ρ => give l fs ρ
  | .inr i :: l, o :: fs, ρ => if i < ρ.length then give l fs (ρ.set i (some o)) else none
  | _, _, _ => none
def mcall (f : List O → FR) (as : M (List (Sum D Nat))) : M O := mbind as fun l ρ => match grab l ρ with
  | none => .bad
  | some (os, ρ1) => match f os with
    | .ok o fs => match give l fs ρ1 with
      | some ρ2 => .ok o ρ2
      | none => .bad
    | .exn c fs => match give l fs ρ1 with
      | some ρ2 => .exn c ρ2
      | none => .bad
    | .bad => .bad
section
variable {K : PySem.W.Frag} {F F' H H' : Hp} {σ : St}
theorem grab_slots : ∀ {l : List (Sum D Nat)} {vs : List V} {ρ ρ' : Env} {os : List O} {fp : List Addr}, ArR K σ F l vs → Slots K F H ρ fp σ → grab l ρ = some (os, ρ') →
    ∃ fA fB, Slots K F H (os.map some) fA (vs.map some) ∧ Slots K F H ρ' fB σ ∧ fp.Perm (fA ++ fB)
  | [], _, ρ, ρ', os, fp, a, h, e => by
    cases e
    rw [show _ = [] from a]
    exact ⟨[], fp, ⟨rfl, rfl⟩, h, List.Perm.refl _⟩
  | .inl d :: l, _, ρ, ρ', os, fp, a, h, e => by
    obtain ⟨v, r, rfl, p, a⟩ := a
    have e : (grab l ρ).map (fun p => (O.frz d :: p.1, p.2)) = some (os, ρ') := e
    cases q : grab l ρ with
    | none => rw [q] at e; cases e
    | some p' =>
      obtain ⟨os', ρ''⟩ := p'
      rw [q] at e; cases e
      obtain ⟨fA, fB, h1, h2, h3⟩ := grab_slots a h q
      exact ⟨fA, fB, ⟨[], fA, v, _, rfl, rfl, ⟨rfl, p⟩, h1⟩, h2, h3⟩
  | .inr i :: l, _, ρ, ρ', os, fp, a, h, e => by
    obtain ⟨v, r, rfl, p, a⟩ := a
    unfold grab at e
    cases q0 : ρ[i]? with
    | none => rw [q0] at e; cases e
    | some t =>
      cases t with
      | none => rw [q0] at e; cases e
      | some o =>
        rw [q0] at e
        have e : (grab l (ρ.set i none)).map (fun p => (o :: p.1, p.2)) = some (os, ρ') := e
        cases q : grab l (ρ.set i none) with
        | none => rw [q] at e; cases e
        | some p' =>
          obtain ⟨os', ρ''⟩ := p'
          rw [q] at e; cases e
          obtain ⟨v', f1, f2, g1, g2, g3, g4⟩ := Slots.take ρ fp σ i o h q0
          rw [p] at g1; cases g1
          obtain ⟨fA, fB, h1, h2, h3⟩ := grab_slots a g3 q
          refine ⟨f1 ++ fA, fB, ⟨f1, fA, v, _, rfl, rfl, g2, h1⟩, h2, g4.trans ?_⟩
          rw [List.append_assoc]
          exact h3.append_left f1
theorem give_slots : ∀ {l : List (Sum D Nat)} {vs : List V} {ρ ρ' : Env} {fs : List O} {fA fB : List Addr}, ArR K σ F l vs → Slots K F' H' (fs.map some) fA (vs.map some) → Slots K F' H' ρ fB σ → (fA ++ fB).Nodup → give l fs ρ = some ρ' →
    ∃ f', Slots K F' H' ρ' f' σ ∧ f'.Nodup ∧ ∀ b ∈ f', b ∈ fA ++ fB
  | [], _, ρ, ρ', [], fA, fB, a, hA, hB, nd, e => by
    cases e
    exact ⟨fB, hB, (List.nodup_append.mp nd).2.1, fun b hb => List.mem_append_right _ hb⟩
  | .inl d :: l, _, ρ, ρ', o :: fs, fA, fB, a, hA, hB, nd, e => by
    obtain ⟨v, r, rfl, p, a⟩ := a
    obtain ⟨f1, f2, v', r', rfl, e1, h1, h2⟩ := hA
    injection e1 with e1 e2
    subst e2
    have nd' : (f2 ++ fB).Nodup := by
      rw [List.append_assoc] at nd
      exact (List.nodup_append.mp nd).2.1
    obtain ⟨f', q1, q2, q3⟩ := give_slots a h2 hB nd' e
    exact ⟨f', q1, q2, fun b hb => by rw [List.append_assoc]; exact List.mem_append_right _ (q3 b hb)⟩
  | .inr i :: l, _, ρ, ρ', o :: fs, fA, fB, a, hA, hB, nd, e => by
    obtain ⟨v, r, rfl, p, a⟩ := a
    obtain ⟨f1, f2, v', r', rfl, e1, h1, h2⟩ := hA
    injection e1 with e1 e2
    injection e1 with e1
    subst e1 e2
    unfold give at e
    split at e
    · rename_i hi
      obtain ⟨g, g', q1, q2, q3⟩ := Slots.put ρ fB σ i o f1 v hB hi h1
      rw [set_same p] at q3
      have sub : ∀ b ∈ g', b ∈ f1 ++ fB := fun b hb => by
        rcases List.mem_append.mp (q2.mem_iff.mp hb) with z | z
        · exact List.mem_append_left _ z
        · exact List.mem_append_right _ (q1.subset z)
      rw [List.append_assoc] at nd
      have nd1 := List.nodup_append.mp nd
      have nd2 := List.nodup_append.mp nd1.2.1
      have ndg : g'.Nodup := q2.nodup_iff.mpr (List.nodup_append.mpr ⟨nd1.1, nd2.2.1.sublist q1, fun x hx y hy => nd1.2.2 x hx y (List.mem_append_right _ (q1.subset hy))⟩)
      have nd' : (f2 ++ g').Nodup := List.nodup_append.mpr ⟨nd2.1, ndg, fun x hx y hy z => by
        rcases List.mem_append.mp (sub y hy) with w | w
        · exact nd1.2.2 y w x (List.mem_append_left _ hx) z.symm
        · exact nd2.2.2 x hx y w z⟩
      obtain ⟨f', w1, w2, w3⟩ := give_slots a h2 q3 nd' e
      refine ⟨f', w1, w2, fun b hb => ?_⟩
      rcases List.mem_append.mp (w3 b hb) with z | z
      · exact List.mem_append_left _ (List.mem_append_right _ z)
      · rcases List.mem_append.mp (sub b z) with z | z
        · exact List.mem_append_left _ (List.mem_append_left _ z)
        · exact List.mem_append_right _ z
    · cases e
  | [], _, _, _, _ :: _, _, _, _, _, _, _, e => by cases e
  | .inl _ :: _, _, _, _, [], _, _, _, _, _, _, e => by cases e
  | .inr _ :: _, _, _, _, [], _, _, _, _, _, _, e => by cases e
end
section
variable {K : PySem.W.Frag} {W : WX} {σ : St} {F H : Hp} {fp : List Addr} {ρ : Env} {vs : List V}
/-- the callee's promise from what the call wants -/
theorem call_sp {f : List O → FR} {l : List (Sum D Nat)} {n : Nat} {Q : VK} (r : Rel K F H fp σ ρ) (a : ArR K σ F l vs) (hl : vs.length = n)
    (o : OutO K W σ F H fp Q (match grab l ρ with
      | none => .bad
      | some (os, ρ1) => match f os with
        | .ok o fs => match give l fs ρ1 with
          | some ρ2 => .ok o ρ2
          | none => .bad
        | .exn c fs => match give l fs ρ1 with
          | some ρ2 => .exn c ρ2
          | none => .bad
        | .bad => .bad)) : spF K n f vs H Q (fun c d H => W c d σ H) := by
  refine ⟨hl, ?_⟩
  cases e : grab l ρ with
  | none => rw [e] at o; exact o.elim
  | some p =>
    obtain ⟨os, ρ1⟩ := p
    simp only [e] at o
    obtain ⟨fA, fB, h1, h2, h3⟩ := grab_slots a r.sl e
    have nd := h3.nodup_iff.mp r.nd
    have nd3 := List.nodup_append.mp nd
    have inA : ∀ b ∈ fA, b ∈ fp := fun b hb => h3.mem_iff.mpr (List.mem_append_left _ hb)
    have inB : ∀ b ∈ fB, b ∈ fp := fun b hb => h3.mem_iff.mpr (List.mem_append_right _ hb)
    have thB := Slots.there ρ1 fB σ h2
    have keepB : ∀ {F' H' : Hp} {fp' : List Addr}, Stp F H fA F' H' fp' → ∀ b ∈ fB, F' b = none ∧ ∀ u, H b = some u → H' b = some u := fun {F' H' fp'} t b hb => by
      have nA : b ∉ fA := fun z => nd3.2.2 b z b hb rfl
      refine ⟨?_, fun u e => t.keep b u e nA⟩
      cases q : F' b with
      | none => rfl
      | some u =>
        rcases t.new b (by rw [q]; intro z; cases z) with z | z | z
        · exact absurd (r.fre b (inB b hb)) z
        · obtain ⟨u', e⟩ := thB b hb
          rw [z] at e; cases e
        · exact absurd z nA
    have stp : ∀ {F' H' : Hp} {fp' f : List Addr}, Stp F H fA F' H' fp' → (∀ b ∈ f, b ∈ fp' ∨ b ∈ fB) → Stp F H fp F' H' f := fun {F' H' fp' f} t m => ⟨t.sub, fun b u e n => t.keep b u e fun z => n (inA b z), fun b e => by
      rcases t.new b e with z | z | z
      · exact .inl z
      · exact .inr (.inl z)
      · exact .inr (.inr (inA b z)), fun b hb => by
      rcases m b hb with z | z
      · rcases t.own b z with z | z
        · exact .inl (inA b z)
        · exact .inr z
      · exact .inl (inB b z)⟩
    have apart : ∀ {F' H' : Hp} {fp' : List Addr}, Stp F H fA F' H' fp' → ∀ b ∈ fp', ∀ c ∈ fB, b ≠ c := fun {F' H' fp'} t b hb c hc z => by
      subst z
      rcases t.own b hb with w | w
      · exact nd3.2.2 b w b hc rfl
      · obtain ⟨u, e⟩ := thB b hc
        rw [w] at e; cases e
    refine ⟨F, fA, os, ⟨r.sub, fun b hb => r.fre b (inA b hb), nd3.1, h1⟩, ?_⟩
    cases e2 : f os with
    | bad => simp only [e2] at o; exact o.elim
    | ok z fs =>
      simp only [e2] at o
      cases e3 : give l fs ρ1 with
      | none => simp only [e3] at o; exact o.elim
      | some ρ2 =>
        simp only [e3] at o
        intro F' H' fp' v r' t
        obtain ⟨fo, ff, v', s', rfl, e4, g1, g2⟩ := r'.sl
        injection e4 with e4 e5
        injection e4 with e4
        subst e4 e5
        have ndr := List.nodup_append.mp r'.nd
        have hB' : Slots K F' H' ρ1 fB σ := Slots.mono t.sub ρ1 fB σ (fun b hb => (keepB t b hb).2) h2
        obtain ⟨f', w1, w2, w3⟩ := give_slots a g2 hB' (List.nodup_append.mpr ⟨ndr.2.1, nd3.2.1, fun x hx y hy => apart t x (List.mem_append_right _ hx) y hy⟩) e3
        refine o F' H' (fo ++ f') v ⟨r'.sub, fun b hb => ?_, List.nodup_append.mpr ⟨ndr.1, w2, fun x hx y hy z => ?_⟩, ⟨fo, f', v, σ, rfl, rfl, g1, w1⟩⟩ (stp t fun b hb => ?_)
        · rcases List.mem_append.mp hb with z | z
          · exact r'.fre b (List.mem_append_left _ z)
          · rcases List.mem_append.mp (w3 b z) with z | z
            · exact r'.fre b (List.mem_append_right _ z)
            · exact (keepB t b z).1
        · rcases List.mem_append.mp (w3 y hy) with q | q
          · exact ndr.2.2 x hx y q z
          · exact apart t x (List.mem_append_left _ hx) y q z
        · rcases List.mem_append.mp hb with z | z
          · exact .inl (List.mem_append_left _ z)
          · rcases List.mem_append.mp (w3 b z) with z | z
            · exact .inl (List.mem_append_right _ z)
            · exact .inr z
    | exn c fs =>
      simp only [e2] at o
      cases e3 : give l fs ρ1 with
      | none => simp only [e3] at o; exact o.elim
      | some ρ2 =>
        simp only [e3] at o
        intro F' H' fp' r' t
        have hB' : Slots K F' H' ρ1 fB σ := Slots.mono t.sub ρ1 fB σ (fun b hb => (keepB t b hb).2) h2
        obtain ⟨f', w1, w2, w3⟩ := give_slots a r'.sl hB' (List.nodup_append.mpr ⟨r'.nd, nd3.2.1, fun x hx y hy => apart t x hx y hy⟩) e3
        refine o F' H' f' ⟨r'.sub, fun b hb => ?_, w2, w1⟩ (stp t fun b hb => ?_)
        · rcases List.mem_append.mp (w3 b hb) with z | z
          · exact r'.fre b z
          · exact (keepB t b z).1
        · exact List.mem_append.mp (w3 b hb)
end
section
variable {X : Cx} {W : WX}
theorem ArR.len {K : PySem.W.Frag} {σ : St} {F : Hp} : ∀ {as : List (Sum D Nat)} {vs : List V}, ArR K σ F as vs → vs.length = as.length
  | [], _, h => by rw [show _ = [] from h]; rfl
  | .inl d :: as, _, h => by
    obtain ⟨v, r, e, h1, h2⟩ := h
    rw [e, List.length_cons, List.length_cons, ArR.len h2]
  | .inr i :: as, _, h => by
    obtain ⟨v, r, e, h1, h2⟩ := h
    rw [e, List.length_cons, List.length_cons, ArR.len h2]
/-- f(..), so many arguments -/
def mcallN (n : Nat) (f : List O → FR) (as : M (List (Sum D Nat))) : M O := mbind as fun l ρ => if l.length = n then (match grab l ρ with
  | none => .bad
  | some (os, ρ1) => match f os with
    | .ok o fs => match give l fs ρ1 with
      | some ρ2 => .ok o ρ2
      | none => .bad
    | .exn c fs => match give l fs ρ1 with
      | some ρ2 => .exn c ρ2
      | none => .bad
    | .bad => .bad) else .bad
theorem run_fnG {k : Nat} {f : Addr} {fd : FuncData} {ps : List Str} {sp : Sp} (F : FnG X.prog X.w X.K X.mg X.base k f fd ps sp) (hr : Room k X.A) (hgd : X.A.guards = some []) (tk : Takes X W) {pins : List (Addr × Obj)} {s : Shared} {σ : St} {H : Hp} {Q : VK} {args : Args} {us : List Value} {vs : List V}
    (I : Inv X pins σ H s) (hb : BindsTo s fd args (ps.zip us)) (r : Vals vs us) (h : sp vs H Q (fun c d H => W c d σ H)) : codeAny (model X.prog X.w) X.A (.call (.ref f) args) (fun r s' => match r with
      | .error e => X.xe e s'
      | .ok (.ret u) => EP X pins σ Q u s'
      | .ok _ => False) s := by
  refine codeAny_mono (F.run X.A X.stack s H args us vs Q _ hr hgd I.env0 hb r h) fun r s' hq => ?_
  cases r with
  | error e => exact passAt tk σ pins H s e s' I hq
  | ok fl =>
    cases fl with
    | ret u => exact I.after hq
    | next => exact False.elim hq
    | brk => exact False.elim hq
    | cont => exact False.elim hq
theorem wp_callG {k : Nat} {f : Addr} {fd : FuncData} {ps : List Str} {sp : Sp} (F : FnG X.prog X.w X.K X.mg X.base k f fd ps sp) (hr : Room k X.A) (hgd : X.A.guards = some []) (tk : Takes X W) {pins : List (Addr × Obj)} {s : Shared} {σ : St} {H : Hp} {Q : VK} {us0 : List Value} {kw : List (Str × Value)} {us : List Value} {vs : List V}
    (I : Inv X pins σ H s) (hb : BindsTo s fd ⟨us0, kw⟩ (ps.zip us)) (r : Vals vs us) (h : sp vs H Q (fun c d H => W c d σ H)) : wpAny (model X.prog X.w) X.A (call (.ref f) us0 kw) (EP X pins σ Q) X.xe s := by
  refine wpAny_call (codeAny_mono (run_fnG F hr hgd tk I hb r h) fun r s' hq => ?_)
  cases r with
  | error e => exact hq
  | ok fl =>
    cases fl with
    | ret u => exact hq
    | next => exact False.elim hq
    | brk => exact False.elim hq
    | cont => exact False.elim hq
theorem eo_call {k : Nat} {x : Str} {st : Stmt} {ps : List Str} {f : List O → FR} {p pos : Pos} {e : Expr} {es : List Expr} {ms : M (List (Sum D Nat))} (h : FnS X.prog X.w X.K X.mg X.base k x st ps f) (hr : Room k X.A) (hgd : X.A.guards = some []) (tk : Takes X W) (hg : Gl X x) (ha : AV X W (e :: es) ms)
    (hdb : (x == ("__debug__" : Str)) = false := by decide) (he : starEach (e :: es) X.env = (false, eval e X.env) :: starEach es X.env := by rfl) (hpl : (backTo pos (starEach es X.env)).any (·.1) = false := by rfl) : EO X W (.Call (.Name x p) (e :: es) [] pos) (mcallN ps.length f ms) := by
  obtain ⟨a, fd, qual, hm, Fu, hb, F⟩ := h.ex
  refine ⟨fun pins s σ H Q I ⟨FF, fp, ρ, r, o⟩ => ?_⟩
  refine wpAny_Call_Name_kw (ld_glob I hg hm ?_ hdb)
  have hh : Out X.K W σ FF H fp (rrR X.K σ) (fun vs H1 => vs.length = ps.length ∧ spF X.K ps.length f vs H1 Q (fun c d H => W c d σ H)) (ms ρ) := Out.bindO o fun l ρ1 F1 H1 fp1 vs _ r1 s1 p1 o1 => by
    by_cases hl : l.length = ps.length
    · rw [if_pos hl] at o1
      exact ⟨(ArR.len p1).trans hl, call_sp r1 p1 ((ArR.len p1).trans hl) o1⟩
    · rw [if_neg hl] at o1; exact o1.elim
  refine PySem.W.callWith_K (h₀ := X.base) I.ok.mod.kin Fu.kp (thn (ha.run pos pins s σ H _ I ⟨FF, fp, ρ, r, hh⟩) fun us s1 ⟨vs, H1, I1, rv, hl, q⟩ => ⟨I1.kIn, ?_⟩) he hpl
  have b0 := hb s1 us I1.kIn (by rw [List.append_nil, ← rv.length]; exact hl)
  rw [List.append_nil] at b0
  exact wp_callG F hr hgd tk I1 b0 rv q
theorem ev_call {k : Nat} {x : Str} {st : Stmt} {ps : List Str} {f : List O → FR} {p pos : Pos} {e : Expr} {es : List Expr} {ms : M (List (Sum D Nat))} (h : FnS X.prog X.w X.K X.mg X.base k x st ps f) (hr : Room k X.A) (hgd : X.A.guards = some []) (tk : Takes X W) (hg : Gl X x) (ha : AV X W (e :: es) ms)
    (hdb : (x == ("__debug__" : Str)) = false := by decide) (he : starEach (e :: es) X.env = (false, eval e X.env) :: starEach es X.env := by rfl) (hpl : (backTo pos (starEach es X.env)).any (·.1) = false := by rfl) : EV X W (.Call (.Name x p) (e :: es) [] pos) (mbind (mcallN ps.length f ms) fun o => mret o.toD) := ev_of_eo (eo_call h hr hgd tk hg ha hdb he hpl)
/-! ### f(a, k = v) -/
def pick {α : Type} (perm : List Nat) (l : List α) : List α := perm.filterMap fun i => l[i]?
theorem vals_pick {xs : List V} {us : List Value} (r : Vals xs us) : ∀ perm : List Nat, Vals (pick perm xs) (pick perm us)
  | [] => .nil
  | i :: perm => by
    unfold pick
    rw [List.filterMap_cons, List.filterMap_cons]
    cases e : xs[i]? with
    | none =>
      rw [Vals.none_of r e]
      exact vals_pick r perm
    | some x =>
      obtain ⟨u, e1, e2⟩ := r.get e
      rw [e1]
      exact .cons e2 (vals_pick r perm)
theorem ArR.get {K : PySem.W.Frag} {σ : St} {F : Hp} : ∀ {as : List (Sum D Nat)} {vs : List V} {i : Nat}, ArR K σ F as vs → (as[i]? = none ∧ vs[i]? = none) ∨ ∃ a v, as[i]? = some a ∧ vs[i]? = some v ∧ ArR K σ F [a] [v]
  | [], _, i, h => by rw [show _ = [] from h]; exact .inl ⟨by simp, by simp⟩
  | .inl d :: as, _, 0, h => by
    obtain ⟨v, r, rfl, h1, h2⟩ := h
    exact .inr ⟨_, v, rfl, rfl, v, [], rfl, h1, rfl⟩
  | .inr d :: as, _, 0, h => by
    obtain ⟨v, r, rfl, h1, h2⟩ := h
    exact .inr ⟨_, v, rfl, rfl, v, [], rfl, h1, rfl⟩
  | .inl d :: as, _, i + 1, h => by
    obtain ⟨v, r, rfl, h1, h2⟩ := h
    simpa using ArR.get (i := i) h2
  | .inr d :: as, _, i + 1, h => by
    obtain ⟨v, r, rfl, h1, h2⟩ := h
    simpa using ArR.get (i := i) h2
theorem ArR.cons {K : PySem.W.Frag} {σ : St} {F : Hp} {a : Sum D Nat} {v : V} {as : List (Sum D Nat)} {vs : List V} (h : ArR K σ F [a] [v]) (k : ArR K σ F as vs) : ArR K σ F (a :: as) (v :: vs) := by
  cases a with
  | inl d =>
    obtain ⟨v', r, e, h1, h2⟩ := h
    injection e with e1 e2
    subst e1
    exact ⟨v, vs, rfl, h1, k⟩
  | inr i =>
    obtain ⟨v', r, e, h1, h2⟩ := h
    injection e with e1 e2
    subst e1
    exact ⟨v, vs, rfl, h1, k⟩
theorem ArR.pick {K : PySem.W.Frag} {σ : St} {F : Hp} {as : List (Sum D Nat)} {vs : List V} (h : ArR K σ F as vs) : ∀ perm : List Nat, ArR K σ F (pick perm as) (pick perm vs)
  | [] => rfl
  | i :: perm => by
    unfold Z.pick
    rw [List.filterMap_cons, List.filterMap_cons]
    rcases h.get (i := i) with ⟨e1, e2⟩ | ⟨a, v, e1, e2, h1⟩
    · rw [e1, e2]; exact ArR.pick h perm
    · rw [e1, e2]; exact ArR.cons h1 (ArR.pick h perm)
theorem ArR.append {K : PySem.W.Frag} {σ : St} {F : Hp} : ∀ {as bs : List (Sum D Nat)} {vs us : List V}, ArR K σ F as vs → ArR K σ F bs us → ArR K σ F (as ++ bs) (vs ++ us)
  | [], _, _, _, h, k => by rw [show _ = [] from h]; exact k
  | .inl d :: as, _, _, _, h, k => by
    obtain ⟨v, r, rfl, h1, h2⟩ := h
    exact ⟨v, _, rfl, h1, ArR.append h2 k⟩
  | .inr d :: as, _, _, _, h, k => by
    obtain ⟨v, r, rfl, h1, h2⟩ := h
    exact ⟨v, _, rfl, h1, ArR.append h2 k⟩
abbrev KV (X : Cx) (W : WX) (kws : List Keyword) (m : M (List (Sum D Nat))) : Prop := PK X kws (TAr X.K W m)
theorem pkW {kws : List Keyword} {t t' : TA} (h : PK X kws t) (k : ∀ σ H Q, t' σ H Q → t σ H Q) : PK X kws t' := ⟨fun p pins s σ H Q I q => h.run p pins s σ H Q I (k σ H Q q)⟩
theorem kv_nil : KV X W [] (mret []) := pkW pk_nil fun σ H Q ⟨F, fp, ρ, r, o⟩ => o F H fp [] r Stp.refl rfl
theorem kv_e {nm : Option Str} {kpos : Pos} {e : Expr} {kws : List Keyword} {m : M D} {ms : M (List (Sum D Nat))} (h : EV X W e m) (hs : KV X W kws ms) : KV X W (⟨nm, e, kpos⟩ :: kws) (maE m ms) := by
  refine pkW (pk_cons h hs) fun σ H Q ⟨F, fp, ρ, r, o⟩ => ⟨F, fp, ρ, r, Out.bind o fun d ρ1 F1 H1 fp1 x _ r1 s1 p1 o1 => ⟨F1, fp1, ρ1, r1, Out.bind o1 fun ds ρ2 F2 H2 fp2 xs _ r2 s2 p2 o2 => ?_⟩⟩
  exact o2 F2 H2 fp2 (x :: xs) r2 Stp.refl ⟨x, xs, rfl, Rp.mono s2.sub d x p1, p2⟩
def mcallK (n : Nat) (perm : List Nat) (f : List O → FR) (a b : M (List (Sum D Nat))) : M O := mbind a fun l1 => mbind b fun l2 => mcallN n f (mret (pick perm (l1 ++ l2)))
theorem bindK {x qual : Str} {st : Stmt} {K : PySem.W.Frag} {a : Addr} {fd : FuncData} {ps ks : List Str} {perm : List Nat} {n : Nat} (Fu : Fun K x qual st a fd)
    (hb : ∀ (qual : Str) (kV doc pm : Value) (an : Option Addr) (cdv ct : Value) (us ws : List Value), us.length = n → ws.length = ks.length → bindArgs (PySem.W.fnOf x qual (defArgs st) (defBody st) (defScope st) .none kV doc pm an cdv ct) ⟨us, ks.zip ws⟩ = pure (ps.zip (pick perm (us ++ ws)))) :
    ∀ us ws : List Value, us.length = n → ws.length = ks.length → bindArgs fd ⟨us, ks.zip ws⟩ = pure (ps.zip (pick perm (us ++ ws))) := by
  obtain ⟨oc, od, kV, doc, pm, an, cdv, ct, osl, rfl, lk, hcd⟩ := Fu.ex
  exact hb qual kV doc pm an cdv ct
/-- every argument by name -/
theorem eo_callK0 {k : Nat} {x : Str} {st : Stmt} {ps : List Str} {f : List O → FR} {p pos : Pos} {kws : List Keyword} {ms : M (List (Sum D Nat))} {ks : List Str} (perm : List Nat) (h : FnS X.prog X.w X.K X.mg X.base k x st ps f) (hr : Room k X.A) (hgd : X.A.guards = some []) (tk : Takes X W) (hg : Gl X x) (ha : KV X W kws ms)
    (hb : ∀ (qual : Str) (kV doc pm : Value) (an : Option Addr) (cdv ct : Value) (us ws : List Value), us.length = 0 → ws.length = ks.length → bindArgs (PySem.W.fnOf x qual (defArgs st) (defBody st) (defScope st) .none kV doc pm an cdv ct) ⟨us, ks.zip ws⟩ = pure (ps.zip (pick perm (us ++ ws))))
    (hlen : kws.length = ks.length := by rfl) (hall : (backToKw pos (keywordEach kws X.env)).all (·.1.isSome) = true := by rfl) (hks : (backToKw pos (keywordEach kws X.env)).filterMap (·.1) = ks := by rfl)
    (hdb : (x == ("__debug__" : Str)) = false := by decide) (hpl : ((backTo pos (starEach [] X.env)).any (·.1) || (backToKw pos (keywordEach kws X.env)).any (·.1.isNone)) = false := by rfl) :
    EO X W (.Call (.Name x p) [] kws pos) (mbind ms fun l => if l.length = ks.length then mcallN ps.length f (mret (pick perm l)) else fun _ => .bad) := by
  obtain ⟨a, fd, qual, hm, Fu, _, F⟩ := h.ex
  have hbk := bindK Fu hb
  refine ⟨fun pins s σ H Q I ⟨FF, fp, ρ, r, o⟩ => ?_⟩
  refine wpAny_Call_Name_kw (ld_glob I hg hm ?_ hdb)
  refine PySem.W.callWith_KW0 (h₀ := X.base) I.ok.mod.kin Fu.kp hall ?_ hpl
  have hh : Out X.K W σ FF H fp (rrR X.K σ) (fun zs H1 => zs.length = ks.length ∧ spF X.K ps.length f (pick perm zs) H1 Q (fun c d H => W c d σ H)) (ms ρ) := Out.bindO o fun l ρ1 F1 H1 fp1 vs _ r1 s1 p1 o1 => by
    by_cases hl : l.length = ks.length
    · rw [if_pos hl] at o1
      refine ⟨(ArR.len p1).trans hl, ?_⟩
      have p2 : ArR X.K σ F1 (pick perm l) (pick perm vs) := ArR.pick p1 perm
      have o2 : OutO X.K W σ F1 H1 fp1 Q (if (pick perm l).length = ps.length then _ else R.bad) := o1
      by_cases hl2 : (pick perm l).length = ps.length
      · rw [if_pos hl2] at o2
        exact call_sp r1 p2 ((ArR.len p2).trans hl2) o2
      · rw [if_neg hl2] at o2; exact o2.elim
    · rw [if_neg hl] at o1; exact o1.elim
  refine thn (ha.run pos pins s σ H _ I ⟨FF, fp, ρ, r, hh⟩) fun ws s2 ⟨zs, H2, I2, rz, hl, q2⟩ => ⟨I2.kIn, ?_⟩
  rw [hks]
  have hbe := hbk [] ws rfl (rz.length.symm.trans hl)
  exact wp_callG F hr hgd tk I2 (.of_eq hbe) (vals_pick rz perm) q2
end
/-! ## for -/
def sloop (body : SM) (tg : D → Env → Option Env) : List D → SM
  | [], ρ => .nxt ρ
  | d :: ds, ρ => match tg d ρ with
    | none => .bad
    | some ρ1 => match body ρ1 with
      | .nxt ρ2 => sloop body tg ds ρ2
      | .cnt ρ2 => sloop body tg ds ρ2
      | .brk ρ2 => .nxt ρ2
      | .ret o ρ2 => .ret o ρ2
      | .exn c ρ2 => .exn c ρ2
      | .bad => .bad
/-- what is walked, as data: at turn i it gives the i-th item -/
structure Wk (K : PySem.W.Frag) (J : It) (F0 H0 : Hp) (ds : List D) : Prop where
  go : ∀ (i : Nat) F H d, Same F0 F → Same F H → ds[i]? = some d → J.go i H ∧ ∀ v H', J.yld i H v H' → ∃ F', Ext F H F' H' ∧ Rp K F' d v
  stop : ∀ F H, Same F0 F → Same F H → J.stop ds.length H
def TIt (K : PySem.W.Frag) (W : WX) (m : M (List D)) : TI := fun σ H R => ∃ F fp ρ, Rel K F H fp σ ρ ∧ Out K W σ F H fp (fun F' H' J ds => Wk K J F' H' ds) R (m ρ)
abbrev IV (X : Cx) (W : WX) (tg it : Expr) (m : M (List D)) : Prop := PI X tg it (TIt X.K W m)
theorem piW {X : Cx} {tg e : Expr} {t t' : TI} (h : PI X tg e t) (k : ∀ σ H Q, t' σ H Q → t σ H Q) : PI X tg e t' := ⟨fun pins s σ H Q I q => h.run pins s σ H Q I (k σ H Q q)⟩
def sfor (m : M (List D)) (tg : D → Env → Option Env) (body : SM) : SM := slift m fun ds => sloop body tg ds
section
variable {X : Cx} {W : WX} {pr : List Nat} {pos : Pos}
theorem sv_for {ts : List Nat} {tg iter : Expr} {body : List Stmt} {m : M (List D)} {g : D → Env → Option Env} {mb : SM} (hpo : PassesOwn (model X.prog X.w) X.A X.env X.xe) (hc : X.calm = true) (hi : IV X W tg iter m) (hg : GV X ts tg g) (hb : BV X W pr body mb) (hp : (ts.all fun i => !pr.contains i) = true := by rfl)
    (hs : ∀ x, foldedSetIterable iter X.env x = pure x := by intro _; rfl) : SV X W pr (.For tg iter body [] pos) (sfor m g mb) := by
  refine psW (ps_for hpo hc hi hg hb hs) fun D σ H ⟨F, fp, ρ, r, o⟩ => ⟨F, fp, ρ, r, o.lift fun ds ρ1 F1 H1 fp1 J _ r1 s1 w o1 => ?_⟩
  refine ⟨fun i m σ' H' => ∃ F' fp' ρ', Rel X.K F' H' fp' σ' ρ' ∧ Same F1 F' ∧ i + m = ds.length ∧ SOut X.K W pr σ' F' H' fp' D (sloop mb g (ds.drop i) ρ'), ⟨ds.length, F1, fp1, ρ1, r1, Same.refl _, Nat.zero_add _, by rw [List.drop_zero]; exact o1⟩, fun i m σ' H' hW => ?_⟩
  obtain ⟨F', fp', ρ', r', sF, em, o'⟩ := hW
  by_cases hlt : i < ds.length
  · have hd : ds[i]? = some ds[i] := List.getElem?_eq_getElem hlt
    rw [List.drop_eq_getElem_cons hlt] at o'
    obtain ⟨hgo, hy⟩ := w.go i F' H' _ sF r'.sub hd
    refine .inr ⟨hgo, fun σ2 H2 => ∃ F2 fp2 ρ2, Rel X.K F2 H2 fp2 σ2 ρ2 ∧ Same F1 F2 ∧ SOut X.K W pr σ2 F2 H2 fp2 D (sloop mb g (ds.drop (i + 1)) ρ2), fun σ2 H2 ⟨F2, fp2, ρ2, q1, q2, q3⟩ => ⟨m - 1, by omega, F2, fp2, ρ2, q1, q2, by omega, q3⟩, fun v H2 hv => ?_⟩
    obtain ⟨F2, x2, p2⟩ := hy v H2 hv
    obtain ⟨r2, t2⟩ := r'.ext x2
    unfold sloop at o'
    cases e : g ds[i] ρ' with
    | none => rw [e] at o'; exact o'.elim
    | some ρ3 =>
      rw [e] at o'
      refine ⟨F2, fp', ρ', ds[i], ρ3, r2, p2, e, fun fp3 σ3 r3 m3 t3 => ⟨F2, fp3, ρ3, r3, ?_⟩⟩
      have t3 := t3.prt hp
      have st : Stp F' H' fp' F2 H2 fp3 := t2.trans (Stp.less m3)
      cases e2 : mb ρ3 with
      | nxt ρ4 =>
        simp only [e2] at o'
        exact fun F4 H4 fp4 σ4 r4 s4 q4 => ⟨F4, fp4, ρ4, r4, (sF.trans (t2.sub.trans s4.sub)), SOut.shift (st.trans s4) (t3.trans q4) o'⟩
      | cnt ρ4 =>
        simp only [e2] at o'
        exact fun F4 H4 fp4 σ4 r4 s4 q4 => ⟨F4, fp4, ρ4, r4, (sF.trans (t2.sub.trans s4.sub)), SOut.shift (st.trans s4) (t3.trans q4) o'⟩
      | brk ρ4 =>
        simp only [e2] at o'
        exact fun F4 H4 fp4 σ4 r4 s4 q4 => o' F4 H4 fp4 σ4 r4 (st.trans s4) (t3.trans q4)
      | ret z ρ4 =>
        simp only [e2] at o'
        exact fun F4 H4 fp4 σ4 v4 r4 s4 q4 => o' F4 H4 fp4 σ4 v4 r4 (st.trans s4) (t3.trans q4)
      | exn c ρ4 =>
        simp only [e2] at o'
        exact fun F4 H4 fp4 σ4 r4 s4 q4 => o' F4 H4 fp4 σ4 r4 (st.trans s4) (t3.trans q4)
      | bad => simp only [e2] at o'; exact o'.elim
  · have e : i = ds.length := by omega
    subst e
    rw [List.drop_length] at o'
    exact .inl ⟨w.stop F' H' sF r'.sub, o' F' H' fp' σ' r' Stp.refl Prt.refl⟩
/-! ### what is walked -/
theorem Wk.list {K : PySem.W.Frag} {F H : Hp} {a : Addr} {xs : List V} {ds : List D} (h1 : SqL K F a xs) (h2 : RpA K F ds xs) : Wk K (Itl K a) F H ds where
  go := fun i F' H' d s1 s2 e => by
    obtain ⟨v, e1, e2⟩ := h2.get e
    refine ⟨⟨xs, v, Same.sql (s1.trans s2) h1, e1⟩, fun v' H2 hy => ?_⟩
    obtain ⟨rfl, hy⟩ := hy
    have := hy xs (Same.sql (s1.trans s2) h1)
    rw [e1] at this
    cases this
    exact ⟨F', Ext.refl s2, Rp.mono s1 d v e2⟩
  stop := fun F' H' s1 s2 => ⟨xs, Same.sql (s1.trans s2) h1, by rw [RpA.length h2]; exact Nat.le_refl _⟩
theorem Wk.tuple {K : PySem.W.Frag} {F H : Hp} {a : Addr} {xs : List V} {ds : List D} (h1 : SqT K F a xs) (h2 : RpA K F ds xs) : Wk K (Itt K a) F H ds where
  go := fun i F' H' d s1 s2 e => by
    obtain ⟨v, e1, e2⟩ := h2.get e
    refine ⟨⟨xs, v, Same.sqt (s1.trans s2) h1, e1⟩, fun v' H2 hy => ?_⟩
    obtain ⟨rfl, hy⟩ := hy
    have := hy xs (Same.sqt (s1.trans s2) h1)
    rw [e1] at this
    cases this
    exact ⟨F', Ext.refl s2, Rp.mono s1 d v e2⟩
  stop := fun F' H' s1 s2 => ⟨xs, Same.sqt (s1.trans s2) h1, by rw [RpA.length h2]; exact Nat.le_refl _⟩
def iSeq (K : PySem.W.Frag) (te : TE) : TI := fun σ H R => te σ H fun x H1 => ∃ a, x = .ref a ∧ ((∃ xs, SqL K H1 a xs) ∧ R (Itl K a) H1 ∨ (∃ xs, SqT K H1 a xs) ∧ R (Itt K a) H1)
theorem pi_seq {tg l : Expr} {tl : TE} (hl : PE X l tl) : PI X tg l (iSeq X.K tl) := by
  refine ⟨fun pins s σ H R I h => ?_⟩
  refine thn (hl.run pins s σ H _ I h) fun v s1 ⟨x, H1, I1, r1, q1⟩ => ?_
  obtain ⟨a, e, q⟩ := q1
  subst e
  cases r1
  rcases q with ⟨⟨xs, hq⟩, q⟩ | ⟨⟨xs, hq⟩, q⟩
  · obtain ⟨its, rv, p, hz⟩ := I1.list hq
    refine wpAny_pyIter_list p.isList ?_
    refine ⟨s1.heap.objs.size, [s1.heap.objs.size], _, _, H1, rfl, I1.kept (t' := s1.toks) fun b o e => Heap.get?_push_of_some _ e, turn_list a _, ⟨_, Heap.get?_push_size _ rfl, rfl, rfl⟩, fun b hb => ?_, q⟩
    have e : b = s1.heap.objs.size := by simpa using hb
    subst e
    exact I1.fpOk (Nat.le_refl _) (I1.hok.fresh (Nat.le_refl _))
  · obtain ⟨its, rv, p, hz⟩ := I1.tuple hq
    refine wpAny_pyIter_tuple (show s1.heap.IsTuple a its.toArray from p) ?_
    refine ⟨s1.heap.objs.size, [s1.heap.objs.size], _, _, H1, rfl, I1.kept (t' := s1.toks) fun b o e => Heap.get?_push_of_some _ e, turn_tuple a _, ⟨_, Heap.get?_push_size _ rfl, rfl, rfl⟩, fun b hb => ?_, q⟩
    have e : b = s1.heap.objs.size := by simpa using hb
    subst e
    exact I1.fpOk (Nat.le_refl _) (I1.hok.fresh (Nat.le_refl _))
def mitems : D → Option (List D)
  | .lst ds => some ds
  | .tup ds => some ds
  | _ => none
theorem iv_seq {tg e : Expr} {m : M D} (h : EV X W e m) : IV X W tg e (mbind m fun d => mopt (mitems d)) := by
  refine piW (pi_seq h) fun σ H Q ⟨F, fp, ρ, r, o⟩ => ⟨F, fp, ρ, r, Out.bind o fun d ρ1 F1 H1 fp1 x _ r1 s1 p1 o1 => ?_⟩
  cases d with
  | lst ds =>
    obtain ⟨a, xs, rfl, h1, h2⟩ := p1
    exact ⟨a, rfl, .inl ⟨⟨xs, Same.sql r1.sub h1⟩, o1 F1 H1 fp1 _ r1 Stp.refl (Wk.list h1 h2)⟩⟩
  | tup ds =>
    obtain ⟨a, xs, rfl, h1, h2⟩ := p1
    exact ⟨a, rfl, .inr ⟨⟨xs, Same.sqt r1.sub h1⟩, o1 F1 H1 fp1 _ r1 Stp.refl (Wk.tuple h1 h2)⟩⟩
  | _ => exact o1.elim
def rangeD (lo : Int) (n : Nat) : List D := (List.range n).map fun (i : Nat) => .int (lo + (i : Int))
theorem Wk.range {K : PySem.W.Frag} {F H : Hp} (lo : Int) (n : Nat) : Wk K (Itr lo n) F H (rangeD lo n) where
  go := fun i F' H' d s1 s2 e => by
    unfold rangeD at e
    rw [List.getElem?_map] at e
    have hi : i < n := by
      cases q : (List.range n)[i]? with
      | none => rw [q] at e; cases e
      | some j => exact by simpa using lt_of_get q
    rw [List.getElem?_range hi] at e
    cases e
    refine ⟨hi, fun v H2 hy => ?_⟩
    obtain ⟨rfl, rfl⟩ := hy
    exact ⟨F', Ext.refl s2, rfl⟩
  stop := fun F' H' s1 s2 => by
    show n ≤ (rangeD lo n).length
    unfold rangeD
    simp
/-- within 62 bits; said so that the kernel gets stuck at once -/
def i62 : Int → Bool
  | .ofNat n => Nat.ble n 4611686018427387903
  | .negSucc n => Nat.ble n 4611686018427387903
theorem i62_iff {j : Int} : i62 j = true ↔ -(2 ^ 62) ≤ j ∧ j < 2 ^ 62 := by
  cases j with
  | ofNat n =>
    show Nat.ble n 4611686018427387903 = true ↔ _
    rw [Nat.ble_eq]
    constructor
    · intro h
      refine ⟨?_, ?_⟩ <;> (show _ ; simp only [Int.ofNat_eq_natCast]; omega)
    · intro ⟨_, h⟩
      simp only [Int.ofNat_eq_natCast] at h
      omega
  | negSucc n =>
    show Nat.ble n 4611686018427387903 = true ↔ _
    rw [Nat.ble_eq]
    constructor
    · intro h
      refine ⟨?_, ?_⟩ <;> omega
    · intro ⟨h, _⟩
      omega
def mrange1 : List D → Option (List D)
  | [.int j] => if i62 j = true then some (rangeD 0 j.toNat) else none
  | _ => none
def mrange2 : List D → Option (List D)
  | [.int i, .int j] => if i62 i = true ∧ i62 j = true then some (rangeD i (j - i).toNat) else none
  | _ => none
theorem iv_range1 {tg a : Expr} {p pos : Pos} {ms : M (List D)} (hg : Gl X "range") (hm : X.mg "range" = none) (ha : EA X W [a] ms) (hs : starEach [a] X.env = [(false, eval a X.env)] := by rfl) : IV X W tg (.Call (.Name "range" p) [a] [] pos) (mbind ms fun ds => mopt (mrange1 ds)) := by
  refine piW (pi_range1 hg hm ha hs) fun σ H Q ⟨F, fp, ρ, r, o⟩ => ⟨F, fp, ρ, r, Out.bind o fun ds ρ1 F1 H1 fp1 x _ r1 s1 p1 o1 => ?_⟩
  unfold mrange1 at o1
  split at o1
  · obtain ⟨v, vs, rfl, e1, e2⟩ := p1
    rw [show vs = [] from e2, show v = _ from e1]
    split at o1
    · rename_i hj
      exact ⟨_, rfl, (i62_iff.1 hj).1, (i62_iff.1 hj).2, o1 F1 H1 fp1 _ r1 Stp.refl (Wk.range _ _)⟩
    · exact o1.elim
  · exact o1.elim
theorem iv_range2 {tg a b : Expr} {p pos : Pos} {ms : M (List D)} (hg : Gl X "range") (hm : X.mg "range" = none) (ha : EA X W [a, b] ms) (hs : starEach [a, b] X.env = [(false, eval a X.env), (false, eval b X.env)] := by rfl) (hs2 : starEach [b] X.env = [(false, eval b X.env)] := by rfl) :
    IV X W tg (.Call (.Name "range" p) [a, b] [] pos) (mbind ms fun ds => mopt (mrange2 ds)) := by
  refine piW (pi_range2 hg hm ha hs hs2) fun σ H Q ⟨F, fp, ρ, r, o⟩ => ⟨F, fp, ρ, r, Out.bind o fun ds ρ1 F1 H1 fp1 x _ r1 s1 p1 o1 => ?_⟩
  unfold mrange2 at o1
  split at o1
  · obtain ⟨v, vs, rfl, e1, v2, vs2, rfl, e2, e3⟩ := p1
    rw [show vs2 = [] from e3, show v = _ from e1, show v2 = _ from e2]
    split at o1
    · rename_i hj
      exact ⟨_, _, rfl, ⟨(i62_iff.1 hj.1).1, (i62_iff.1 hj.1).2, (i62_iff.1 hj.2).1, (i62_iff.1 hj.2).2⟩, o1 F1 H1 fp1 _ r1 Stp.refl (Wk.range _ _)⟩
    · exact o1.elim
  · exact o1.elim
end
end Z

namespace Z
open PySem PySem.Spec L2
/-! ## comprehensions -/
def wipeE (ρ : Env) : List Nat → Env
  | [] => ρ
  | v :: vs => (wipeE ρ vs).set v none
section
variable {K : PySem.W.Frag} {F F' H H' : Hp} {σ : St}
theorem wipeE_some {ρ : Env} {i : Nat} {o : O} : ∀ {vs : List Nat}, (wipeE ρ vs)[i]? = some (some o) → ρ[i]? = some (some o) ∧ i ∉ vs
  | [], h => ⟨h, by simp⟩
  | v :: vs, h => by
    unfold wipeE at h
    by_cases hi : v = i
    · subst hi
      by_cases hv : v < (wipeE ρ vs).length
      · rw [List.getElem?_set_self hv] at h; cases h
      · rw [List.getElem?_eq_none (by simpa using hv)] at h; cases h
    · rw [List.getElem?_set_ne hi] at h
      obtain ⟨h1, h2⟩ := wipeE_some h
      exact ⟨h1, by simp only [List.mem_cons, not_or]; exact ⟨fun e => hi e.symm, h2⟩⟩
theorem Slots.unset : ∀ (ρ : Env) (fp : List Addr) (σ : St) (i : Nat), Slots K F H ρ fp σ → ∃ f', f'.Sublist fp ∧ Slots K F H (ρ.set i none) f' σ
  | [], fp, _, _, h => ⟨fp, List.Sublist.refl _, h⟩
  | none :: ρ, fp, _, 0, h => ⟨fp, List.Sublist.refl _, h⟩
  | none :: ρ, fp, _, i + 1, h => by
    obtain ⟨x, r, rfl, h⟩ := h
    obtain ⟨f', q1, q2⟩ := Slots.unset ρ fp r i h
    exact ⟨f', q1, ⟨x, r, rfl, q2⟩⟩
  | some o :: ρ, _, _, 0, h => by
    obtain ⟨f1, f2, v, r, rfl, rfl, h1, h2⟩ := h
    exact ⟨f2, List.sublist_append_right _ _, ⟨some v, r, rfl, h2⟩⟩
  | some o :: ρ, _, _, i + 1, h => by
    obtain ⟨f1, f2, v, r, rfl, rfl, h1, h2⟩ := h
    obtain ⟨f', q1, q2⟩ := Slots.unset ρ f2 r i h2
    exact ⟨f1 ++ f', List.Sublist.append_left q1 f1, ⟨f1, f', v, r, rfl, rfl, h1, q2⟩⟩
theorem Slots.wipe {ρ : Env} {fp : List Addr} {σ : St} (h : Slots K F H ρ fp σ) : ∀ vs : List Nat, ∃ f', f'.Sublist fp ∧ Slots K F H (wipeE ρ vs) f' σ
  | [] => ⟨fp, List.Sublist.refl _, h⟩
  | v :: vs => by
    obtain ⟨f1, q1, q2⟩ := Slots.wipe h vs
    obtain ⟨f2, q3, q4⟩ := Slots.unset _ f1 σ v q2
    exact ⟨f2, q3.trans q1, q4⟩
theorem Slots.other : ∀ (ρ : Env) (fp : List Addr) (σ σ' : St), Slots K F H ρ fp σ → σ'.length = σ.length → (∀ (i : Nat) o, ρ[i]? = some (some o) → σ'[i]? = σ[i]?) → Slots K F H ρ fp σ'
  | [], fp, σ, σ', h, e, _ => ⟨h.1, List.eq_nil_of_length_eq_zero (by rw [e, h.2]; rfl)⟩
  | none :: ρ, fp, _, σ', h, e, k => by
    obtain ⟨x, r, rfl, h⟩ := h
    cases σ' with
    | nil => cases e
    | cons y s => exact ⟨y, s, rfl, Slots.other ρ fp r s h (by simpa using e) fun i o q => by simpa using k (i + 1) o (by simpa using q)⟩
  | some o :: ρ, _, _, σ', h, e, k => by
    obtain ⟨f1, f2, v, r, rfl, rfl, h1, h2⟩ := h
    cases σ' with
    | nil => cases e
    | cons y s =>
      have hy := k 0 o rfl
      have hy : y = some v := by simpa using hy
      subst hy
      exact ⟨f1, f2, v, s, rfl, rfl, h1, Slots.other ρ f2 r s h2 (by simpa using e) fun i o q => by simpa using k (i + 1) o (by simpa using q)⟩
theorem wipe_other {σ : St} {i : Nat} : ∀ {vs : List Nat}, i ∉ vs → (wipe σ vs)[i]? = σ[i]?
  | [], _ => rfl
  | v :: vs, h => by
    simp only [List.mem_cons, not_or] at h
    unfold wipe
    rw [List.getElem?_set_ne (Ne.symm h.1), wipe_other h.2]
theorem wipe_none {σ : St} {i : Nat} : ∀ {vs : List Nat}, i ∈ vs → i < σ.length → (wipe σ vs)[i]? = some none
  | [], h, _ => by cases h
  | v :: vs, h, hl => by
    unfold wipe
    by_cases e : v = i
    · subst e
      rw [List.getElem?_set_self (by rw [wipe_length]; exact hl)]
    · rw [List.getElem?_set_ne e]
      rcases List.mem_cons.mp h with z | z
      · exact absurd z.symm e
      · exact wipe_none z hl
theorem wipe_eq {σ σ2 : St} {vs ts : List Nat} (h : Onl ts (wipe σ vs) σ2) (hs : ∀ i ∈ ts, i ∈ vs) : wipe σ2 vs = wipe σ vs := by
  have hl : σ2.length = σ.length := by rw [h.1, wipe_length]
  apply List.ext_getElem?
  intro i
  by_cases hv : i ∈ vs
  · by_cases hi : i < σ.length
    · rw [wipe_none hv hi, wipe_none hv (by omega)]
    · rw [List.getElem?_eq_none (by rw [wipe_length]; omega), List.getElem?_eq_none (by rw [wipe_length]; omega)]
  · rw [wipe_other hv, h.2 i fun z => hv (hs i z)]
theorem ROA.frzs : ∀ {ds : List D} {fr : List Addr} {xs : List V}, ROA K F H (ds.map .frz) fr xs → fr = [] ∧ RpA K F ds xs
  | [], fr, xs, h => h
  | d :: ds, fr, xs, h => by
    obtain ⟨f1, f2, x, r, rfl, rfl, ⟨rfl, h1⟩, h2⟩ := h
    obtain ⟨rfl, h3⟩ := ROA.frzs h2
    exact ⟨rfl, x, r, rfl, h1, h3⟩
end
def lcloop (vs : List Nat) (g : D → Env → Option Env) (mt : M Bool) (me : M D) : List D → List D → M (List D)
  | [], acc, ρ => .ok acc ρ
  | d :: ds, acc, ρ => match g d ρ with
    | none => .bad
    | some ρ1 => match mt ρ1 with
      | .ok b ρ2 => if b = true then (match me ρ2 with
        | .ok x ρ3 => if acc.length < sizeLine then lcloop vs g mt me ds (acc ++ [x]) (wipeE ρ3 vs) else .bad
        | _ => .bad) else lcloop vs g mt me ds acc (wipeE ρ2 vs)
      | _ => .bad
def mlc (vs : List Nat) (im : M (List D)) (g : D → Env → Option Env) (mt : M Bool) (me : M D) : M O := mbind im fun ds ρ => mbind (lcloop vs g mt me ds []) (fun acc => mret (.lst (acc.map .frz))) (wipeE ρ vs)
abbrev W0 : WX := fun _ _ _ _ => False
section
variable {K : PySem.W.Frag} {W : WX}
theorem TLC {vs ts : List Nat} {im : M (List D)} {g : D → Env → Option Env} {mt : M Bool} {me : M D} (hs : ∀ i ∈ ts, i ∈ vs) : ∀ σ H Q, TOw K W (mlc vs im g mt me) σ H Q → tLc (TIt K W im) (TGd K ts g) (TB K W0 mt) (TM K W0 me) vs σ H Q := by
  intro σ H Q ⟨F, fp, ρ, r, o⟩
  refine ⟨F, fp, ρ, r, Out.bindO o fun ds ρ1 F1 H1 fp1 J _ r1 s1 w o1 L0 hD => ?_⟩
  obtain ⟨fw, sbw, slw⟩ := Slots.wipe r1.sl vs
  have rw0 : Rel K F1 H1 fw σ (wipeE ρ1 vs) := ⟨r1.sub, fun b hb => r1.fre b (sbw.subset hb), r1.nd.sublist sbw, slw⟩
  obtain ⟨r2, s2⟩ := rw0.newL (ds := []) (vs := []) rfl hD
  have o1 : OutO K W σ F1 H1 fp1 Q (mbind (lcloop vs g mt me ds []) (fun acc => mret (.lst (acc.map .frz))) (wipeE ρ1 vs)) := o1
  refine ⟨fun i m H' => ∃ F' fp' ρ' acc, Rel K F' H' fp' (some (.ref L0) :: σ) (some (.lst (acc.map .frz)) :: ρ') ∧ Same F1 F' ∧ (∀ (j : Nat) t, ρ'[j]? = some (some t) → j ∉ vs) ∧ i + m = ds.length ∧
      OutO K W σ F' H' fp' Q (mbind (lcloop vs g mt me (ds.drop i) acc) (fun acc => mret (.lst (acc.map .frz))) ρ'),
    ⟨ds.length, F1, L0 :: fw, wipeE ρ1 vs, [], r2, Same.refl _, fun j t e => (wipeE_some e).2, Nat.zero_add _, ?_⟩, fun i m H' hW => ?_⟩
  · rw [List.drop_zero]
    exact o1.shift ((Stp.less fun b hb => sbw.subset hb).trans s2)
  obtain ⟨F', fp', ρ', acc, r', sF, wp, em, o'⟩ := hW
  by_cases hlt : i < ds.length
  · have hd : ds[i]? = some ds[i] := List.getElem?_eq_getElem hlt
    rw [List.drop_eq_getElem_cons hlt] at o'
    obtain ⟨hgo, hy⟩ := w.go i F' H' _ sF r'.sub hd
    refine .inr ⟨hgo, fun H2 => ∃ F2 fp2 ρ2 acc2, Rel K F2 H2 fp2 (some (.ref L0) :: σ) (some (.lst (acc2.map .frz)) :: ρ2) ∧ Same F1 F2 ∧ (∀ (j : Nat) t, ρ2[j]? = some (some t) → j ∉ vs) ∧
        OutO K W σ F2 H2 fp2 Q (mbind (lcloop vs g mt me (ds.drop (i + 1)) acc2) (fun acc => mret (.lst (acc.map .frz))) ρ2), fun H2 ⟨F2, fp2, ρ2, acc2, q1, q2, q3, q4⟩ => ⟨m - 1, by omega, F2, fp2, ρ2, acc2, q1, q2, q3, by omega, q4⟩, fun v H2 hv => ?_⟩
    obtain ⟨F2, x2, p2⟩ := hy v H2 hv
    obtain ⟨r2, t2⟩ := r'.ext x2
    have o2 := o'.shift t2
    -- the frame without the list
    obtain ⟨f1, f2, v', s', efp, e1, hL, hS⟩ := r2.sl
    injection e1 with e1 e2
    injection e1 with e1
    subst e1 e2
    obtain ⟨a', xs, fr, e3, rfl, hHD, hA⟩ := hL
    injection e3 with e3
    subst e3
    obtain ⟨er, hB⟩ := ROA.frzs hA
    subst er
    subst efp
    have nd := List.nodup_append.mp r2.nd
    have nD : L0 ∉ f2 := fun z => nd.2.2 L0 List.mem_cons_self L0 z rfl
    have hSw : Slots K F2 H2 ρ' f2 (wipe σ vs) := Slots.other ρ' f2 σ (wipe σ vs) hS (wipe_length σ vs) fun j t e => wipe_other (wp j t e)
    have rw1 : Rel K F2 H2 f2 (wipe σ vs) ρ' := ⟨r2.sub, fun b hb => r2.fre b (List.mem_append_right _ hb), nd.2.1, hSw⟩
    have fD : F2 L0 = none := r2.fre L0 (List.mem_append_left _ List.mem_cons_self)
    -- back to the whole frame
    have back : ∀ {F4 H4 : Hp} {fp4 : List Addr} {σ2 : St} {ρ4 : Env} {ys : List D} {zs : List V}, Rel K F4 H4 fp4 σ2 ρ4 → Stp F2 H2 f2 F4 H4 fp4 → Onl ts (wipe σ vs) σ2 → RpA K F4 ys zs →
        ∃ f5, Rel K F4 (upd H4 L0 (.lst zs)) (L0 :: f5) (some (.ref L0) :: σ) (some (.lst (ys.map .frz)) :: wipeE ρ4 vs) ∧ Stp F2 H2 ([L0] ++ f2) F4 (upd H4 L0 (.lst zs)) (L0 :: f5) ∧ H4 L0 = some (.lst xs) := by
      intro F4 H4 fp4 σ2 ρ4 ys zs r4 t4 on hys
      have hD4 : H4 L0 = some (.lst xs) := t4.keep L0 _ hHD nD
      have fD4 : F4 L0 = none := by
        cases q : F4 L0 with
        | none => rfl
        | some u =>
          rcases t4.new L0 (by rw [q]; intro z; cases z) with z | z | z
          · exact absurd fD z
          · rw [hHD] at z; cases z
          · exact absurd z nD
      have nD4 : L0 ∉ fp4 := fun z => by
        rcases t4.own L0 z with q | q
        · exact nD q
        · rw [hHD] at q; cases q
      obtain ⟨f5, sb, sl5⟩ := Slots.wipe r4.sl vs
      have hl2 : σ2.length = σ.length := by rw [on.1, wipe_length]
      have sl6 : Slots K F4 H4 (wipeE ρ4 vs) f5 σ := Slots.other _ f5 σ2 σ sl5 hl2.symm fun j t e => by
        have nv := (wipeE_some e).2
        rw [on.2 j fun z => nv (hs j z), wipe_other nv]
      have nD5 : L0 ∉ f5 := fun z => nD4 (sb.subset z)
      have k : ∀ b ∈ f5, ∀ u, H4 b = some u → upd H4 L0 (.lst zs) b = some u := fun b hb u e => by rw [upd_ne fun z => nD5 (by rw [← z]; exact hb)]; exact e
      refine ⟨f5, ⟨fun b u e => ?_, fun b hb => ?_, List.nodup_cons.mpr ⟨nD5, r4.nd.sublist sb⟩, ⟨[L0], f5, .ref L0, σ, rfl, rfl, ⟨L0, zs, [], rfl, rfl, upd_same, ROA.of_data ys zs hys⟩, Slots.mono (Same.refl F4) _ f5 σ k sl6⟩⟩, ⟨t4.sub, fun b u e n => ?_, fun b e => ?_, fun b hb => ?_⟩, hD4⟩
      · rw [upd_ne fun z => by rw [z, fD4] at e; cases e]; exact r4.sub b u e
      · rcases List.mem_cons.mp hb with z | z
        · rw [z]; exact fD4
        · exact r4.fre b (sb.subset z)
      · rw [upd_ne fun z => n (by rw [z]; exact List.mem_append_left _ List.mem_cons_self)]
        exact t4.keep b u e fun z => n (List.mem_append_right _ z)
      · rcases t4.new b e with z | z | z
        · exact .inl z
        · exact .inr (.inl z)
        · exact .inr (.inr (List.mem_append_right _ z))
      · rcases List.mem_cons.mp hb with z | z
        · rw [z]; exact .inl (List.mem_append_left _ List.mem_cons_self)
        · rcases t4.own b (sb.subset z) with q | q
          · exact .inl (List.mem_append_right _ q)
          · exact .inr q
    unfold mbind at o2
    unfold lcloop at o2
    cases e : g ds[i] ρ' with
    | none => simp only [e] at o2; exact o2.elim
    | some ρ3 =>
      simp only [e] at o2
      refine ⟨F2, f2, ρ', ds[i], ρ3, rw1, p2, e, fun fp3 σ3 r3 m3 t3 => ⟨wipe_eq t3 hs, F2, fp3, ρ3, r3, ?_⟩⟩
      have st3 : Stp F2 H2 f2 F2 H2 fp3 := Stp.less m3
      cases e2 : mt ρ3 with
      | exn c ρ4 => simp only [e2] at o2; exact o2.elim
      | bad => simp only [e2] at o2; exact o2.elim
      | ok b ρ4 =>
        simp only [e2] at o2
        intro F4 H4 fp4 b' r4 s4 eb
        have eb : b' = b := eb
        subst eb
        cases b' with
        | true =>
          rw [if_pos rfl] at o2 ⊢
          refine ⟨F4, fp4, ρ4, r4, ?_⟩
          cases e3 : me ρ4 with
          | exn c ρ5 => simp only [e3] at o2; exact o2.elim
          | bad => simp only [e3] at o2; exact o2.elim
          | ok x ρ5 =>
            simp only [e3] at o2
            intro F5 H5 fp5 v5 r5 s5 p5
            by_cases hlen : acc.length < sizeLine
            · rw [if_pos hlen] at o2
              have st5 : Stp F2 H2 f2 F5 H5 fp5 := (st3.trans s4).trans s5
              have hA5 : RpA K F5 (acc ++ [x]) (xs ++ [v5]) := (RpA.mono st5.sub acc xs hB).append ⟨v5, [], rfl, p5, rfl⟩
              obtain ⟨f6, r6, t6, hD6⟩ := back r5 st5 t3 hA5
              exact ⟨xs, hD6, by rw [← RpA.length hB]; exact hlen, F5, L0 :: f6, wipeE ρ5 vs, acc ++ [x], r6, (sF.trans t2.sub).trans st5.sub, fun j t e => (wipeE_some e).2, OutO.shift t6 o2⟩
            · rw [if_neg hlen] at o2; exact o2.elim
        | false =>
          rw [if_neg Bool.false_ne_true] at o2 ⊢
          have st5 : Stp F2 H2 f2 F4 H4 fp4 := st3.trans s4
          have hA5 : RpA K F4 acc xs := RpA.mono st5.sub acc xs hB
          obtain ⟨f6, r6, t6, hD6⟩ := back r4 st5 t3 hA5
          have eq : upd H4 L0 (.lst xs) = H4 := by
            funext b
            by_cases hb : b = L0
            · rw [hb, upd_same, hD6]
            · rw [upd_ne hb]
          rw [eq] at r6 t6
          exact ⟨F4, L0 :: f6, wipeE ρ4 vs, acc, r6, (sF.trans t2.sub).trans st5.sub, fun j t e => (wipeE_some e).2, OutO.shift t6 o2⟩
  · have e : i = ds.length := by omega
    subst e
    rw [List.drop_length] at o'
    exact .inl ⟨w.stop F' H' sF r'.sub, o' F' H' fp' (.ref L0) r' Stp.refl⟩
end
section
variable {X : Cx} {W : WX} {pr : List Nat}
abbrev PTV (X : Cx) (ifs : List Expr) (m : M Bool) : Prop := PTs X ifs (TB X.K W0 m)
theorem ptsW {ifs : List Expr} {t t' : TT} (h : PTs X ifs t) (k : ∀ σ H Q, t' σ H Q → t σ H Q) : PTs X ifs t' := ⟨fun pins s σ H Q I q => h.run pins s σ H Q I (k σ H Q q)⟩
theorem ptv_nil : PTV X [] (mret true) := ptsW pts_nil fun σ H Q ⟨F, fp, ρ, r, o⟩ => o F H fp true r Stp.refl rfl
theorem ptv_one {c : Expr} {m : M Bool} (h : EB X W0 c m) : PTV X [c] m := pts_one h
theorem eo_lc {elt tg iter : Expr} {ifs : List Expr} {scope : Scope} {own : List (Str × Nat)} {pos : Pos} {im : M (List D)} {g : D → Env → Option Env} {mt : M Bool} {me : M D} {ts : List Nat} (hc : X.calm = true) (hN : X.N.Nodup) (hi : IV X W tg iter im) (ok : BlkOk X.N X.env.scope scope own)
    (hg : ∀ (s : Shared) (H : Hp) (C : Addr) (cl : List (Str × Addr)) (fp : List Addr), GV (X.blk s H scope (compEnvC scope cl C X.env) fp) ts tg g) (ht : ∀ (s : Shared) (H : Hp) (C : Addr) (cl : List (Str × Addr)) (fp : List Addr), PTV (X.blk s H scope (compEnvC scope cl C X.env) fp) ifs mt)
    (he : ∀ (s : Shared) (H : Hp) (C : Addr) (cl : List (Str × Addr)) (fp : List Addr), EV (X.blk s H scope (compEnvC scope cl C X.env) fp) W0 elt me) (hts : ∀ i ∈ ts, i ∈ own.map (·.2) := by decide) (hs : ∀ x, foldedSetIterable iter X.env x = pure x := by intro _; rfl) :
    EO X W (.ListComp elt [⟨tg, iter, ifs, 0⟩] scope pos) (mlc (own.map (·.2)) im g mt me) := peW (pe_lc (g := TGd X.K ts g) (tt := TB X.K W0 mt) (te := TM X.K W0 me) hc hN hi ok hg ht he hs) (TLC hts)
theorem sv_setLc {i : Nat} {y : Str} {py : Pos} {elt tg iter : Expr} {ifs : List Expr} {scope : Scope} {own : List (Str × Nat)} {pos spos : Pos} {im : M (List D)} {g : D → Env → Option Env} {mt : M Bool} {me : M D} {ts : List Nat} (hc : X.calm = true) (hN : X.N.Nodup) (hy : X.N[i]? = some y) (hyl : X.env.scope.names.lookup y = some .local)
    (hsw : swapsWith (.ListComp elt [⟨tg, iter, ifs, 0⟩] scope pos) (some (.Name y py)) spos.line X.env = pure true) (hi : IV X W tg iter im) (ok : BlkOk X.N X.env.scope scope own)
    (hg : ∀ (s : Shared) (H : Hp) (C : Addr) (cl : List (Str × Addr)) (fp : List Addr), GV (X.blk s H scope (compEnvC scope cl C X.env) fp) ts tg g) (ht : ∀ (s : Shared) (H : Hp) (C : Addr) (cl : List (Str × Addr)) (fp : List Addr), PTV (X.blk s H scope (compEnvC scope cl C X.env) fp) ifs mt)
    (he : ∀ (s : Shared) (H : Hp) (C : Addr) (cl : List (Str × Addr)) (fp : List Addr), EV (X.blk s H scope (compEnvC scope cl C X.env) fp) W0 elt me) (hts : ∀ i ∈ ts, i ∈ own.map (·.2) := by decide) (hp : pr.contains i = false := by rfl) (hs : ∀ x, foldedSetIterable iter X.env x = pure x := by intro _; rfl) :
    SV X W pr (.Assign [.Name y py] (.ListComp elt [⟨tg, iter, ifs, 0⟩] scope pos) spos) (ssetO i (mlc (own.map (·.2)) im g mt me)) := by
  refine psW (ps_setLc (g := TGd X.K ts g) (tt := TB X.K W0 mt) (te := TM X.K W0 me) hc hN hy hyl hsw hi ok hg ht he hs) fun D σ H ⟨F, fp, ρ, r, o⟩ => ?_
  refine TLC hts σ H _ ⟨F, fp, ρ, r, o.liftO fun d ρ1 F1 H1 fp1 v _ r1 s1 o1 => ?_⟩
  unfold ksetO at o1
  split at o1
  · rename_i hl
    obtain ⟨fp2, r2, m2⟩ := r1.store hl
    exact o1 F1 H1 fp2 _ r2 (Stp.less m2) (Prt.set hp)
  · exact o1.elim
/-- .. kept as data -/
theorem sv_setLcD {i : Nat} {y : Str} {py : Pos} {elt tg iter : Expr} {ifs : List Expr} {scope : Scope} {own : List (Str × Nat)} {pos spos : Pos} {im : M (List D)} {g : D → Env → Option Env} {mt : M Bool} {me : M D} {ts : List Nat} (hc : X.calm = true) (hN : X.N.Nodup) (hy : X.N[i]? = some y) (hyl : X.env.scope.names.lookup y = some .local)
    (hsw : swapsWith (.ListComp elt [⟨tg, iter, ifs, 0⟩] scope pos) (some (.Name y py)) spos.line X.env = pure true) (hi : IV X W tg iter im) (ok : BlkOk X.N X.env.scope scope own)
    (hg : ∀ (s : Shared) (H : Hp) (C : Addr) (cl : List (Str × Addr)) (fp : List Addr), GV (X.blk s H scope (compEnvC scope cl C X.env) fp) ts tg g) (ht : ∀ (s : Shared) (H : Hp) (C : Addr) (cl : List (Str × Addr)) (fp : List Addr), PTV (X.blk s H scope (compEnvC scope cl C X.env) fp) ifs mt)
    (he : ∀ (s : Shared) (H : Hp) (C : Addr) (cl : List (Str × Addr)) (fp : List Addr), EV (X.blk s H scope (compEnvC scope cl C X.env) fp) W0 elt me) (hts : ∀ i ∈ ts, i ∈ own.map (·.2) := by decide) (hp : pr.contains i = false := by rfl) (hs : ∀ x, foldedSetIterable iter X.env x = pure x := by intro _; rfl) :
    SV X W pr (.Assign [.Name y py] (.ListComp elt [⟨tg, iter, ifs, 0⟩] scope pos) spos) (ssetD i (mbind (mlc (own.map (·.2)) im g mt me) fun o => mret o.toD)) := by
  refine psW (ps_setLc (g := TGd X.K ts g) (tt := TB X.K W0 mt) (te := TM X.K W0 me) hc hN hy hyl hsw hi ok hg ht he hs) fun D σ H ⟨F, fp, ρ, r, o⟩ => ?_
  refine TLC hts σ H _ ⟨F, fp, ρ, r, ?_⟩
  have o' : SOut X.K W pr σ F H fp D (slift (mlc (own.map (·.2)) im g mt me) (fun o => ksetO i (.frz o.toD)) ρ) := by
    unfold ssetD slift mbind at o
    unfold slift
    cases e : mlc (own.map (·.2)) im g mt me ρ with
    | ok a ρ1 => simp only [e] at o; exact o
    | exn c ρ1 => simp only [e] at o; exact o
    | bad => simp only [e] at o; exact o
  refine o'.liftO fun t ρ1 F1 H1 fp1 v _ r1 s1 o1 => ?_
  unfold ksetO at o1
  split at o1
  · rename_i hl
    obtain ⟨F2, fp2, r2, s2, p2⟩ := r1.freeze
    obtain ⟨fp3, r3, m3⟩ := (r2.push p2).store hl
    exact o1 F2 H1 fp3 _ r3 (s2.trans (Stp.less m3)) (Prt.set hp)
  · exact o1.elim
end
end Z

namespace Z
open PySem PySem.Spec L2
/-! ## a name that owns a list -/
def flat : D → Bool
  | .non => true
  | .bl _ => true
  | .int _ => true
  | .str _ => true
  | _ => false
theorem Rp.flat {K : PySem.W.Frag} {F G : Hp} : ∀ {d : D} {v : V}, Z.flat d = true → Rp K F d v → Rp K G d v
  | .non, _, _, h => h
  | .bl _, _, _, h => h
  | .int _, _, _, h => h
  | .str _, _, _, h => h
  | .lst _, _, e, _ => by cases e
  | .tup _, _, e, _ => by cases e
  | .dct _, _, e, _ => by cases e
  | .opq _, _, e, _ => by cases e
  | .exc, _, e, _ => by cases e
def slotOf (ρ : Env) (i : Nat) : Option O := match ρ[i]? with
  | some (some o) => some o
  | _ => none
theorem slotOf_some {ρ : Env} {i : Nat} {o : O} (h : slotOf ρ i = some o) : ρ[i]? = some (some o) := by
  unfold slotOf at h
  split at h
  · cases h; assumption
  · cases h
section
variable {X : Cx} {W : WX} {pr : List Nat}
/-- f(x), x as it stands -/
def mcbo (g : List D → Option D) (i : Nat) : M D := fun ρ => match slotOf ρ i with
  | some o => match g [o.toD] with
    | some d => if flat d = true then .ok d ρ else .bad
    | none => .bad
  | none => .bad
theorem Gives.flat {K : PySem.W.Frag} {σ : St} {F H : Hp} {fp : List Addr} {ρ : Env} {d : D} {Q : VK} (r : Rel K F H fp σ ρ) (hf : Z.flat d = true) (o : Out K W σ F H fp (rrD K) Q (.ok d ρ)) : Gives K H H d Q := fun F' H' v z p => by
  have x : Ext F H F H' := ⟨Same.refl F, z.keep, r.sub.trans z.keep, fun b h => .inl h⟩
  obtain ⟨r2, s2⟩ := r.ext x
  exact o F H' fp v r2 s2 (Rp.flat hf p)
theorem TM.cbo {g : List D → Option D} {i : Nat} : ∀ σ H Q, TM X.K W (mcbo g i) σ H Q → tCB (fun vs H Q => ∃ F ds d, Same F H ∧ RpA X.K F ds vs ∧ g ds = some d ∧ Gives X.K F H d Q) (tCons (tVar i) tNil) σ H Q := by
  intro σ H Q ⟨F, fp, ρ, r, o⟩
  unfold mcbo at o
  cases e : slotOf ρ i with
  | none => simp only [e] at o; exact o.elim
  | some t =>
    simp only [e] at o
    cases e2 : g [t.toD] with
    | none => simp only [e2] at o; exact o.elim
    | some d =>
      simp only [e2] at o
      split at o
      · rename_i hf
        obtain ⟨v, h1, h2⟩ := r.look (slotOf_some e)
        exact ⟨v, h1, H, [t.toD], d, Same.refl H, ⟨v, [], rfl, h2, rfl⟩, e2, Gives.flat r hf o⟩
      · exact o.elim
theorem ev_cbo {x y : Str} {p p2 pos : Pos} {i : Nat} {g : List D → Option D} {id : String} (hc : CallS X (.builtin id) g) (hg : Gl X x) (hm : X.mg x = none) (hv : bootBuiltins x = some (.builtin id)) (hN : X.N[i]? = some y) (hvis : Vis X.env.scope y)
    (hn : x ≠ "__name__" := by decide) (hd : (x == ("__debug__" : Str)) = false := by decide) (hd2 : (y == ("__debug__" : Str)) = false := by decide) (hcd : (y == ("__classdict__" : Str)) = false := by decide)
    (he : starEach [.Name y p2] X.env = (false, eval (.Name y p2) X.env) :: starEach [] X.env := by rfl) (hpl : (backTo pos (starEach [] X.env)).any (·.1) = false := by rfl) :
    EV X W (.Call (.Name x p) [.Name y p2] [] pos) (mcbo g i) := peW (pe_callB hc hg hm hv (pa_cons (pe_var hN hvis hd2 hcd) pa_nil he) hn hd he hpl) TM.cbo
/-- x op y, y a name as it stands -/
def mopo (g : D → D → Option D) (a : M D) (i : Nat) : M D := mbind a fun d ρ => match slotOf ρ i with
  | some o => match g d o.toD with
    | some z => if flat z = true then .ok z ρ else .bad
    | none => .bad
  | none => .bad
theorem TM.opo {g : D → D → Option D} {m : M D} {i : Nat} : ∀ σ H Q, TM X.K W (mopo g m i) σ H Q → tOp (fun x y H Q => ∃ F d1 d2 d, Same F H ∧ Rp X.K F d1 x ∧ Rp X.K F d2 y ∧ g d1 d2 = some d ∧ Gives X.K F H d Q) (TM X.K W m) (tVar i) σ H Q := by
  intro σ H Q ⟨F, fp, ρ, r, o⟩
  refine ⟨F, fp, ρ, r, Out.bind o fun d1 ρ1 F1 H1 fp1 x _ r1 s1 p1 o => ?_⟩
  cases e : slotOf ρ1 i with
  | none => simp only [e] at o; exact o.elim
  | some t =>
    simp only [e] at o
    cases e2 : g d1 t.toD with
    | none => simp only [e2] at o; exact o.elim
    | some d =>
      simp only [e2] at o
      split at o
      · rename_i hf
        obtain ⟨v, h1, h2⟩ := r1.look (slotOf_some e)
        exact ⟨v, h1, H1, d1, t.toD, d, Same.refl _, Rp.mono r1.sub d1 x p1, h2, e2, Gives.flat r1 hf o⟩
      · exact o.elim
theorem ev_cmpo {a : Expr} {y : Str} {p2 : Pos} {op : CmpOp} {pos : Pos} {m : M D} {i : Nat} {g : D → D → Option D} (ho : OpS X (compareOp op) g) (hm : behindInMarks op (.Name y p2) = false) (ha : EV X W a m) (hN : X.N[i]? = some y) (hvis : Vis X.env.scope y)
    (hd2 : (y == ("__debug__" : Str)) = false := by decide) (hcd : (y == ("__classdict__" : Str)) = false := by decide) : EV X W (.Compare a [op] [.Name y p2] pos) (mopo g m i) := peW (pe_cmpR ho ha (pe_var hN hvis hd2 hcd) hm) TM.opo
theorem eb_cmpo {a : Expr} {y : Str} {p2 : Pos} {op : CmpOp} {pos : Pos} {m : M D} {i : Nat} {g : D → D → Option D} (ho : OpS X (compareOp op) g) (hm : behindInMarks op (.Name y p2) = false) (ha : EV X W a m) (hN : X.N[i]? = some y) (hvis : Vis X.env.scope y)
    (hd2 : (y == ("__debug__" : Str)) = false := by decide) (hcd : (y == ("__classdict__" : Str)) = false := by decide) : EB X W (.Compare a [op] [.Name y p2] pos) (mbind (mopo g m i) fun d => mopt (mtru d)) := by
  refine ptW (pt_cmpR ho ha (pe_var hN hvis hd2 hcd) hm) fun σ H Q ⟨F, fp, ρ, r, o⟩ => ?_
  refine TM.opo σ H _ ⟨F, fp, ρ, r, Out.bind o fun d ρ1 F1 H1 fp1 b _ r1 s1 p o1 => ?_⟩
  cases d with
  | bl c => exact ⟨c, p, o1 F1 H1 fp1 c r1 Stp.refl rfl⟩
  | _ => exact o1.elim
/-- x[e], x a name as it stands -/
def gixo : O → D → Option D
  | .frz d, k => gix d k
  | .lst os, .int j => match atI os j with
    | some (.frz d) => some d
    | _ => none
  | _, _ => none
def mixo (i : Nat) (m : M D) : M D := fun ρ => match slotOf ρ i with
  | some _ => mbind m (fun k ρ => match slotOf ρ i with
    | some o => match gixo o k with
      | some d => .ok d ρ
      | none => .bad
    | none => .bad) ρ
  | none => .bad
theorem ROA.at {K : PySem.W.Frag} {F H : Hp} : ∀ {os : List O} {fp : List Addr} {vs : List V} {i : Nat} {d : D}, ROA K F H os fp vs → os[i]? = some (.frz d) → ∃ v, vs[i]? = some v ∧ Rp K F d v
  | [], _, _, _, _, _, e => by simp at e
  | o :: os, _, _, 0, d, h, e => by
    obtain ⟨f1, f2, x, r, rfl, rfl, h1, h2⟩ := h
    have e : o = .frz d := by simpa using e
    subst e
    exact ⟨x, rfl, h1.2⟩
  | o :: os, _, _, i + 1, d, h, e => by
    obtain ⟨f1, f2, x, r, rfl, rfl, h1, h2⟩ := h
    simpa using ROA.at (i := i) h2 (by simpa using e)
theorem ROA.length {K : PySem.W.Frag} {F H : Hp} : ∀ {os : List O} {fp : List Addr} {vs : List V}, ROA K F H os fp vs → os.length = vs.length
  | [], _, _, h => by rw [h.2]; rfl
  | o :: os, _, _, h => by
    obtain ⟨f1, f2, x, r, _, e, h1, h2⟩ := h
    rw [e, List.length_cons, List.length_cons, ROA.length h2]
theorem ev_ixo (i : Nat) {y : Str} {p2 pos : Pos} {b : Expr} {m : M D} (hb : EV X W b m) (hN : X.N[i]? = some y) (hvis : Vis X.env.scope y) (hs : PlainIx b := by exact fun _ _ => rfl)
    (hd2 : (y == ("__debug__" : Str)) = false := by decide) (hcd : (y == ("__classdict__" : Str)) = false := by decide) : EV X W (.Subscript (.Name y p2) b pos) (mixo i m) := by
  have h : IxR X fun x y H Q => (∃ F d1 d2 d, Same F H ∧ Rp X.K F d1 x ∧ Rp X.K F d2 y ∧ gix d1 d2 = some d ∧ Gives X.K F H d Q) ∨ rIxL X.K x y H Q := by
    intro value slice pins s σ H x y v u Q I rx ry q hs
    rcases q with ⟨F, d1, d2, d, s1, p1, p2, e, q⟩ | q
    · refine ix_seq value slice pins s σ H x y v u Q I rx ry ?_ hs
      cases d1 <;> cases d2 <;> first | (cases e; done) | skip
      case str.int z i =>
        have e : (if z.length ≤ sizeLine then (atI z.cps.toList i).map fun c => D.str ⟨#[c]⟩ else none) = some d := e
        by_cases hz : z.length ≤ sizeLine
        · rw [if_pos hz] at e
          cases q' : atI z.cps.toList i with
          | none => rw [q'] at e; cases e
          | some c =>
            rw [q'] at e; cases e
            exact .inr (.inr ⟨z, i, c, p1, p2, hz, q', q.val s1 rfl⟩)
        · rw [if_neg hz] at e; cases e
      case lst.int ds i =>
        obtain ⟨p, xs, rfl, h1, h2⟩ := p1
        obtain ⟨v', e1, e2⟩ := h2.at e
        exact .inl ⟨p, xs, _, v', rfl, p2, Same.sql s1 h1, e1, q.val s1 e2⟩
      case tup.int ds i =>
        obtain ⟨p, xs, rfl, h1, h2⟩ := p1
        obtain ⟨v', e1, e2⟩ := h2.at e
        exact .inr (.inl ⟨p, xs, _, v', rfl, p2, Same.sqt s1 h1, e1, q.val s1 e2⟩)
    · exact ix_seq value slice pins s σ H x y v u Q I rx ry (.inl q) hs
  refine peW (pe_ix h (pe_var hN hvis hd2 hcd) hb hs) fun σ H Q ⟨F, fp, ρ, r, o⟩ => ?_
  unfold mixo at o
  cases e : slotOf ρ i with
  | none => simp only [e] at o; exact o.elim
  | some t =>
    simp only [e] at o
    obtain ⟨v, h1⟩ := r.val (slotOf_some e)
    refine ⟨v, h1, F, fp, ρ, r, Out.bind o fun k ρ1 F1 H1 fp1 u _ r1 s1 p1 o1 => ?_⟩
    cases e1 : slotOf ρ1 i with
    | none => simp only [e1] at o1; exact o1.elim
    | some t1 =>
      simp only [e1] at o1
      cases e2 : gixo t1 k with
      | none => simp only [e2] at o1; exact o1.elim
      | some d =>
        simp only [e2] at o1
        obtain ⟨v', f1, f2, g1, g2, _, _⟩ := Slots.take ρ1 fp1 σ i t1 r1.sl (slotOf_some e1)
        rw [h1] at g1
        cases g1
        cases t1 with
        | frz d0 => exact .inl ⟨F1, d0, k, d, r1.sub, g2.2, p1, e2, fun F' H' w z p => by
            obtain ⟨r2, s2⟩ := r1.ext z
            exact o1 F' H' fp1 w r2 s2 p⟩
        | lst os =>
          cases k with
          | int j =>
            have e2 : (match atI os j with | some (.frz d) => some d | _ => none) = some d := e2
            obtain ⟨a, xs, fr, rfl, rfl, hH, hA⟩ := g2
            have key : atI os j = some (.frz d) := by
              split at e2
              · cases e2; assumption
              · cases e2
            unfold atI at key
            cases q : ixN os.length j with
            | none => rw [q] at key; cases key
            | some n =>
              rw [q] at key
              have key : os[n]? = some (.frz d) := key
              obtain ⟨w, e3, e4⟩ := ROA.at hA key
              refine .inr ⟨a, xs, j, w, rfl, p1, .inl (.inl hH), ?_, o1 F1 H1 fp1 w r1 Stp.refl e4⟩
              unfold atI
              rw [← ROA.length hA, q]
              exact e3
          | _ => cases e2
        | dct _ => cases k <;> cases e2
/-- x.append(e) -/
def sapp (i : Nat) (m : M D) : SM := fun ρ => match slotOf ρ i with
  | some (.lst _) => slift m (fun d ρ1 => match slotOf ρ1 i with
    | some (.lst os) => if os.length < sizeLine then .nxt (ρ1.set i (some (.lst (os ++ [.frz d])))) else .bad
    | _ => .bad) ρ
  | _ => .bad
theorem ROA.snoc {K : PySem.W.Frag} {F H : Hp} {d : D} {v : V} (p : Rp K F d v) : ∀ {os : List O} {fp : List Addr} {vs : List V}, ROA K F H os fp vs → ROA K F H (os ++ [.frz d]) fp (vs ++ [v])
  | [], _, _, h => by rw [h.1, h.2]; exact ⟨[], [], v, [], rfl, rfl, ⟨rfl, p⟩, rfl, rfl⟩
  | o :: os, _, _, h => by
    obtain ⟨f1, f2, x, r, e1, e2, h1, h2⟩ := h
    rw [e2]
    exact ⟨f1, f2, x, _, e1, rfl, h1, ROA.snoc p h2⟩
theorem ROA.put {K : PySem.W.Frag} {F H : Hp} {d : D} {v : V} (p : Rp K F d v) : ∀ {os : List O} {fp : List Addr} {vs : List V} (n : Nat), ROA K F H os fp vs → ∃ g, g.Sublist fp ∧ ROA K F H (os.set n (.frz d)) g (vs.set n v)
  | [], fp, _, _, h => ⟨fp, List.Sublist.refl _, by rw [h.2]; exact ⟨h.1, rfl⟩⟩
  | o :: os, _, _, 0, h => by
    obtain ⟨f1, f2, x, r, rfl, rfl, h1, h2⟩ := h
    exact ⟨f2, List.sublist_append_right _ _, ⟨[], f2, v, r, rfl, rfl, ⟨rfl, p⟩, h2⟩⟩
  | o :: os, _, _, n + 1, h => by
    obtain ⟨f1, f2, x, r, rfl, rfl, h1, h2⟩ := h
    obtain ⟨g, q1, q2⟩ := ROA.put p n h2
    exact ⟨f1 ++ g, List.Sublist.append_left q1 f1, ⟨f1, g, x, _, rfl, rfl, h1, q2⟩⟩
/-- a list at a slot is written -/
theorem slot_write {K : PySem.W.Frag} {F H : Hp} {fp : List Addr} {σ : St} {ρ : Env} {i : Nat} {os os' : List O} {v : V} (r : Rel K F H fp σ ρ) (e : ρ[i]? = some (some (.lst os))) (hv : σ[i]? = some (some v)) {f : List V → List V}
    (h : ∀ xs fr, ROA K F H os fr xs → ∃ g, g.Sublist fr ∧ ROA K F H os' g (f xs)) : ∃ a xs, v = .ref a ∧ H a = some (.lst xs) ∧ xs.length = os.length ∧
      ∃ fp', Rel K F (upd H a (.lst (f xs))) fp' σ (ρ.set i (some (.lst os'))) ∧ Stp F H fp F (upd H a (.lst (f xs))) fp' := by
  obtain ⟨v1, fp1, h1, r1, m1⟩ := r.pull e
  rw [hv] at h1
  cases h1
  obtain ⟨g1, g2, v', s', e1, e2, hO, hS⟩ := id r1.sl
  injection e2 with e2 e3
  injection e2 with e2
  subst e2 e3
  obtain ⟨a, xs, fr, rfl, e4, hH, hA⟩ := hO
  obtain ⟨fp2, r2, s2⟩ := r1.setL (xs' := f xs) (os' := os') (g := []) fun ys fr' hy hB nd na => by
    rw [hH] at hy
    cases hy
    obtain ⟨q, q1, q2⟩ := h xs fr' hB
    exact ⟨q, fun b hb => q1.subset hb, (List.nodup_cons.mp nd).2.sublist q1, q2⟩
  obtain ⟨fp3, r3, m3⟩ := r2.store (i := i) (by rw [List.length_set]; exact lt_of_get e)
  rw [set_same hv, set_set] at r3
  exact ⟨a, xs, rfl, hH, (ROA.length hA).symm, fp3, r3, ((Stp.less fun b hb => (m1 b).mp hb).trans s2).trans (Stp.less m3)⟩
theorem sv_app (i : Nat) {y : Str} {p2 apos cpos pos : Pos} {e : Expr} {m : M D} (he : EV X W e m) (hN : X.N[i]? = some y) (hvis : Vis X.env.scope y)
    (hd2 : (y == ("__debug__" : Str)) = false := by decide) (hcd : (y == ("__classdict__" : Str)) = false := by decide) (hst : starEach [e] X.env = (false, eval e X.env) :: starEach [] X.env := by rfl)
    (hbase : attributeBase (.Name y p2) "append" X.env (eval (.Name y p2) X.env) = eval (.Name y p2) X.env := by rfl)
    (hfew : ((backTo cpos (starEach [e] X.env)).all (fun x => !x.1) && (backToKw cpos (keywordEach [] X.env)).all (fun x => x.1.isSome)
      && decide ([e].length + ([] : List Keyword).length + (if ([] : List Keyword).isEmpty then 0 else 1) < 30)) = true := by rfl)
    (hline : (apos.endLine == cpos.line) = true := by rfl) (hplain : (backTo cpos (starEach [] X.env)).any (·.1) = false := by rfl)
    (hs : swapsWith (.Call (.Attribute (.Name y p2) "append" apos) [e] [] cpos) none pos.line X.env = pure false := by rfl) : SV X W pr (.Expr (.Call (.Attribute (.Name y p2) "append" apos) [e] [] cpos) pos) (sapp i m) := by
  refine psW (ps_expr (pe_bm PySem.F.plainAttrs_list PySem.F.slot_list_append PySem.F.type_list_append mt_append (pe_var hN hvis hd2 hcd) (pa_cons he pa_nil hst) hbase hfew hline hst hplain) hs) fun D σ H ⟨F, fp, ρ, r, o⟩ => ?_
  unfold sapp at o
  cases e0 : slotOf ρ i with
  | none => simp only [e0] at o; exact o.elim
  | some t =>
    simp only [e0] at o
    cases t with
    | lst os0 =>
      simp only at o
      obtain ⟨v, f1, f2, g1, g2, _, _⟩ := Slots.take ρ fp σ i _ r.sl (slotOf_some e0)
      obtain ⟨a, xs, fr, rfl, rfl, hH, hA⟩ := g2
      refine ⟨.ref a, g1, .inl ⟨rfl, xs, .inl (.inl hH)⟩, F, fp, ρ, r, o.lift fun d ρ1 F1 H1 fp1 w _ r1 s1 p1 o1 => ?_⟩
      cases e1 : slotOf ρ1 i with
      | none => simp only [e1] at o1; exact o1.elim
      | some t1 =>
        simp only [e1] at o1
        cases t1 with
        | lst os =>
          simp only at o1
          split at o1
          · rename_i hlen
            obtain ⟨a', xs', ea, hH', hl, fp2, r2, s2⟩ := slot_write (f := fun ys => ys ++ [w]) (os' := os ++ [.frz d]) r1 (slotOf_some e1) g1 fun ys fr' hB => ⟨fr', List.Sublist.refl _, ROA.snoc p1 hB⟩
            cases ea
            exact ⟨a, xs', w, rfl, rfl, hH', by omega, o1 F1 _ fp2 σ r2 s2 Prt.refl⟩
          · exact o1.elim
        | frz _ => simp only at o1; exact o1.elim
        | dct _ => simp only at o1; exact o1.elim
    | frz _ => simp only at o; exact o.elim
    | dct _ => simp only at o; exact o.elim
/-- x[k] = e -/
def sput (i : Nat) (m k : M D) : SM := slift m fun d ρ => match slotOf ρ i with
  | some _ => slift k (fun j ρ1 => match slotOf ρ1 i, j with
    | some (.lst os), .int j => match ixN os.length j with
      | some n => .nxt (ρ1.set i (some (.lst (os.set n (.frz d)))))
      | none => .bad
    | _, _ => .bad) ρ
  | none => .bad
theorem sv_put (i : Nat) {y : Str} {p2 pos' pos : Pos} {e b : Expr} {m k : M D} (he : EV X W e m) (hb : EV X W b k) (hN : X.N[i]? = some y) (hvis : Vis X.env.scope y)
    (hd2 : (y == ("__debug__" : Str)) = false := by decide) (hcd : (y == ("__classdict__" : Str)) = false := by decide)
    (ha : ∀ v, assign (.Subscript (.Name y p2) b pos') X.env v = (do
      let ov ← holding [v] (eval (.Name y p2) X.env)
      let iv ← holding [v, ov] (eval b X.env)
      standAt pos'
      holding [v, ov, iv] (setItem ov iv v)
      release [v, ov, iv] []) := by intro _; rfl)
    (hs : swapsWithSole [.Subscript (.Name y p2) b pos'] e pos.line X.env = pure false := by rfl) (hw : swappedStores [.Subscript (.Name y p2) b pos'] e X.env = pure none := by rfl)
    (h1 : (assignEach [.Subscript (.Name y p2) b pos'] X.env).map (·.2) = [assign (.Subscript (.Name y p2) b pos') X.env] := by rfl) : SV X W pr (.Assign [.Subscript (.Name y p2) b pos'] e pos) (sput i m k) := by
  refine psW (ps_asg he (pg_sub (pe_var hN hvis hd2 hcd) hb set_list ha) hs hw h1) fun D σ H ⟨F, fp, ρ, r, o⟩ => ⟨F, fp, ρ, r, o.lift fun d ρ1 F1 H1 fp1 w _ r1 s1 p1 o1 => ?_⟩
  cases e0 : slotOf ρ1 i with
  | none => simp only [e0] at o1; exact o1.elim
  | some t =>
    simp only [e0] at o1
    obtain ⟨v, g1⟩ := r1.val (slotOf_some e0)
    refine ⟨v, g1, F1, fp1, ρ1, r1, o1.lift fun j ρ2 F2 H2 fp2 u _ r2 s2 p2 o2 => ?_⟩
    cases e1 : slotOf ρ2 i with
    | none => simp only [e1] at o2; exact o2.elim
    | some t1 =>
      simp only [e1] at o2
      cases t1 with
      | lst os =>
        cases j with
        | int j =>
          simp only at o2
          cases e2 : ixN os.length j with
          | none => simp only [e2] at o2; exact o2.elim
          | some n =>
            simp only [e2] at o2
            obtain ⟨a, xs, rfl, hH, hl, fp3, r3, s3⟩ := slot_write (f := fun ys => ys.set n w) (os' := os.set n (.frz d)) r2 (slotOf_some e1) g1 fun ys fr' hB => ROA.put (Rp.mono s2.sub d w p1) n hB
            exact ⟨a, xs, j, n, rfl, p2, hH, by rw [hl]; exact e2, o2 F2 _ fp3 σ r3 s3 Prt.refl⟩
        | _ => simp only at o2; exact o2.elim
      | frz _ => simp only at o2; exact o2.elim
      | dct _ => simp only at o2; exact o2.elim
/-! ## built-ins -/
def glen : List D → Option D
  | [.lst ds] => some (.int ds.length)
  | [.tup ds] => some (.int ds.length)
  | [.str z] => if z.length ≤ sizeLine then some (.int z.length) else none
  | _ => none
theorem bi_len : CallS X (.builtin "len") glen := by
  refine CallS.of call_len fun F H vs ds d Q s p e q => ?_
  unfold glen at e
  split at e
  · cases e
    obtain ⟨v, r, rfl, ⟨a, xs, rfl, h1, h2⟩, e2⟩ := p
    rw [show r = [] from e2]
    exact ⟨_, xs.length, rfl, .inl ⟨xs, Same.sql s h1, rfl⟩, by rw [← RpA.length h2]; exact q.val s rfl⟩
  · cases e
    obtain ⟨v, r, rfl, ⟨a, xs, rfl, h1, h2⟩, e2⟩ := p
    rw [show r = [] from e2]
    exact ⟨_, xs.length, rfl, .inr ⟨xs, Same.sqt s h1, rfl⟩, by rw [← RpA.length h2]; exact q.val s rfl⟩
  · split at e
    · rename_i hz
      cases e
      obtain ⟨v, r, rfl, h1, e2⟩ := p
      rw [show r = [] from e2, show v = _ from h1]
      exact ⟨_, _, rfl, ⟨hz, rfl⟩, q.val s rfl⟩
    · cases e
  · cases e
def gsum : List D → Option D
  | [.lst ds] => (D.ints ds).map fun ns => .int ns.sum
  | [.tup ds] => (D.ints ds).map fun ns => .int ns.sum
  | _ => none
theorem bi_sum (hc : X.calm = true) : CallS X (.builtin "sum") gsum := by
  refine CallS.of (CallR.or (cr_sum hc) (cr_sumT hc)) fun F H vs ds d Q s p e q => ?_
  unfold gsum at e
  split at e
  · rename_i ds
    cases e1 : D.ints ds with
    | none => rw [e1] at e; cases e
    | some ns =>
      rw [e1] at e; cases e
      obtain ⟨v, r, rfl, ⟨a, xs, rfl, h1, h2⟩, e2⟩ := p
      rw [show r = [] from e2]
      have := RpA.ints e1 h2
      subst this
      exact .inl ⟨a, ns, rfl, Same.sql s h1, q.val s rfl⟩
  · rename_i ds
    cases e1 : D.ints ds with
    | none => rw [e1] at e; cases e
    | some ns =>
      rw [e1] at e; cases e
      obtain ⟨v, r, rfl, ⟨a, xs, rfl, h1, h2⟩, e2⟩ := p
      rw [show r = [] from e2]
      have := RpA.ints e1 h2
      subst this
      exact .inr ⟨a, ns, rfl, Same.sqt s h1, q.val s rfl⟩
  · cases e
def gmin2 : List D → Option D
  | [.int i, .int j] => some (.int (if j < i then j else i))
  | _ => none
def gmax2 : List D → Option D
  | [.int i, .int j] => some (.int (if j > i then j else i))
  | _ => none
theorem bi_min (hc : X.calm = true) : CallS X (.builtin "min") gmin2 := by
  refine CallS.of (call_min2 hc) fun F H vs ds d Q s p e q => ?_
  unfold gmin2 at e
  split at e
  · cases e
    obtain ⟨v, r, rfl, h1, v2, r2, rfl, h2, h3⟩ := p
    rw [show r2 = [] from h3, show v = _ from h1, show v2 = _ from h2]
    exact ⟨_, _, rfl, q.val s rfl⟩
  · cases e
theorem bi_max (hc : X.calm = true) : CallS X (.builtin "max") gmax2 := by
  refine CallS.of (call_max2 hc) fun F H vs ds d Q s p e q => ?_
  unfold gmax2 at e
  split at e
  · cases e
    obtain ⟨v, r, rfl, h1, v2, r2, rfl, h2, h3⟩ := p
    rw [show r2 = [] from h3, show v = _ from h1, show v2 = _ from h2]
    exact ⟨_, _, rfl, q.val s rfl⟩
  · cases e
def gint : List D → Option D
  | [.int i] => some (.int i)
  | [.bl b] => some (.int (if b then 1 else 0))
  | _ => none
theorem bt_int : CallS X (.type "int") gint := by
  refine CallS.of call_int1 fun F H vs ds d Q s p e q => ?_
  unfold gint at e
  split at e
  · cases e
    obtain ⟨v, r, rfl, h1, h3⟩ := p
    rw [show r = [] from h3, show v = _ from h1]
    exact .inl ⟨_, rfl, q.val s rfl⟩
  · cases e
    obtain ⟨v, r, rfl, h1, h3⟩ := p
    rw [show r = [] from h3, show v = _ from h1]
    exact .inr ⟨_, rfl, q.val s rfl⟩
  · cases e
def gtuple : List D → Option D
  | [.lst ds] => some (.tup ds)
  | [.tup ds] => some (.tup ds)
  | _ => none
theorem bt_tuple : CallS X (.type "tuple") gtuple := by
  refine CallS.of call_tuple_of fun F H vs ds d Q s p e q => ?_
  unfold gtuple at e
  split at e
  · cases e
    obtain ⟨v, r, rfl, ⟨a, xs, rfl, h1, h2⟩, e2⟩ := p
    rw [show r = [] from e2]
    exact ⟨a, xs, rfl, .inl ⟨Same.sql s h1, q.new s fun c hc => Rp.tup_new s h2 hc⟩⟩
  · cases e
    obtain ⟨v, r, rfl, p0, e2⟩ := p
    have p1 := p0
    obtain ⟨a, xs, rfl, h1, h2⟩ := p0
    rw [show r = [] from e2]
    exact ⟨a, xs, rfl, .inr ⟨Same.sqt s h1, q.val s p1⟩⟩
  · cases e
def glist : List D → Option D
  | [.lst ds] => some (.lst ds)
  | [.tup ds] => some (.lst ds)
  | _ => none
theorem bt_list : CallS X (.type "list") glist := by
  refine CallS.of call_list_of fun F H vs ds d Q s p e q => ?_
  unfold glist at e
  split at e
  · cases e
    obtain ⟨v, r, rfl, ⟨a, xs, rfl, h1, h2⟩, e2⟩ := p
    rw [show r = [] from e2]
    exact ⟨a, xs, rfl, .inl (Same.sql s h1), q.new s fun c hc => Rp.lst_new s h2 hc⟩
  · cases e
    obtain ⟨v, r, rfl, ⟨a, xs, rfl, h1, h2⟩, e2⟩ := p
    rw [show r = [] from e2]
    exact ⟨a, xs, rfl, .inr (Same.sqt s h1), q.new s fun c hc => Rp.lst_new s h2 hc⟩
  · cases e
/-! ### isinstance -/
def D.kind : D → Option String
  | .non => some "NoneType"
  | .bl _ => some "bool"
  | .int _ => some "int"
  | .str _ => some "str"
  | .lst _ => some "list"
  | .tup _ => some "tuple"
  | .dct _ => none
  | .opq _ => none
  | .exc => none
def gisi0 : List D → Option D
  | [d, .opq (.ty n)] => d.kind.bind fun t => (kitB t n).map .bl
  | _ => none
theorem SqL.ty {K : PySem.W.Frag} {H : Hp} {a : Addr} {xs : List V} (h : SqL K H a xs) : TyX K H (.ref a) (.type "list") := by
  rcases h with (h | ⟨o, h⟩) | ⟨o, its, n, h, c, _⟩
  · exact .base (.lst h)
  · exact .base (.frz h)
  · exact .kList h c
theorem SqT.ty {K : PySem.W.Frag} {H : Hp} {a : Addr} {xs : List V} (h : SqT K H a xs) : TyX K H (.ref a) (.type "tuple") := by
  rcases h with (h | ⟨o, h⟩) | ⟨o, its, n, h, c, _⟩
  · exact .base (.tup h)
  · exact .fTuple h
  · exact .kTuple h c
theorem Rp.ty {K : PySem.W.Frag} {F H : Hp} (s : Same F H) : ∀ {d : D} {v : V} {t : String}, Rp K F d v → d.kind = some t → TyX K H v (.type t)
  | .non, _, _, p, e => by cases e; rw [show _ = V.non from p]; exact .base .non
  | .bl _, _, _, p, e => by cases e; rw [show _ = V.bl _ from p]; exact .base (.bl _)
  | .int _, _, _, p, e => by cases e; rw [show _ = V.int _ from p]; exact .base (.int _)
  | .str _, _, _, p, e => by cases e; rw [show _ = V.str _ from p]; exact .base (.str _)
  | .lst _, _, _, p, e => by
    cases e
    obtain ⟨a, xs, rfl, h1, h2⟩ := p
    exact SqL.ty (Same.sql s h1)
  | .tup _, _, _, p, e => by
    cases e
    obtain ⟨a, xs, rfl, h1, h2⟩ := p
    exact SqT.ty (Same.sqt s h1)
  | .dct _, _, _, p, e => by cases e
  | .opq _, _, _, _, e => by cases e
  | .exc, _, _, _, e => by cases e
theorem bi_isi0 : CallS X (.builtin "isinstance") gisi0 := by
  refine CallS.of call_isi fun F H vs ds d Q s p e q => ?_
  unfold gisi0 at e
  split at e
  · rename_i d0 n
    cases e1 : d0.kind with
    | none => rw [e1] at e; cases e
    | some t =>
      rw [e1] at e
      have e : (kitB t n).map D.bl = some d := e
      cases e2 : kitB t n with
      | none => rw [e2] at e; cases e
      | some b =>
        rw [e2] at e; cases e
        obtain ⟨v, r, rfl, h1, v2, r2, rfl, h2, h3⟩ := p
        rw [show r2 = [] from h3, show v2 = _ from h2]
        exact ⟨v, .ty n, .type t, .type n, b, rfl, .ty n, Rp.ty s h1 e1, kit_ty e2, q.val s rfl⟩
  · cases e
def gisi : List D → Option D
  | [.exc, .opq (.ty n)] => if n ∈ excNo then some (.bl false) else none
  | ds => gisi0 ds
theorem kitMeta_no {n : String} (h : n ∈ excNo) : PySem.W.kitMeta n = true := by
  have : ∀ n ∈ excNo, PySem.W.kitMeta n = true := by decide +kernel
  exact this n h
theorem bi_isi : CallS X (.builtin "isinstance") gisi := by
  intro pins s σ H xs us Q I rx ⟨F, ds, d, s1, p, e, q⟩
  unfold gisi at e
  split at e
  · rename_i n
    split at e
    · rename_i hn
      cases e
      obtain ⟨v, r, rfl, ⟨a, C, rfl, hF, T⟩, v2, r2, rfl, h2, h3⟩ := p
      rw [show r2 = [] from h3, show v2 = _ from h2] at rx
      obtain ⟨u1, u2, rfl, r1, r2'⟩ := vals2 rx
      cases (show u1 = Value.ref a from r1)
      cases (show u2 = Value.type n from r2')
      obtain ⟨gt, hgt⟩ := T.gg
      obtain ⟨⟨oe, vs, ho, hz, hd, _⟩, _, _⟩ := I.hok a _ (s1 _ _ hF)
      have J : PySem.W.InstAt s.heap a oe C none := ⟨ho, hz.1, by unfold PySem.W.notCls; rw [hd] <;> rfl, by rw [hz.2]; trivial⟩
      have hk : PySem.W.kitOne X.K (.ref C) (.type n) = some false := by
        unfold PySem.W.kitOne
        rw [if_neg (show ¬ ((Value.ref C == Value.type n) = true) from Bool.false_ne_true)]
        show (if PySem.W.kitMeta n = true then PySem.W.subIn X.K (.ref C) (.type n) else none) = _
        rw [if_pos (kitMeta_no hn), T.ki n hn]
      refine PySem.W.kia_one (PySem.W.kitx_exc T.cl T.ga hgt T.sub T.ca T.sp T.tk T.mr) I.kIn J hk (fun z => nomatch z) fun tk => ⟨.bl false, H, I.tok tk, rfl, q.val s1 rfl⟩
    · cases e
  · exact bi_isi0 pins s σ H xs us Q I rx ⟨F, ds, d, s1, p, e, q⟩
theorem ev_ty {x : Str} {n : String} {pos : Pos} (hg : Gl X x) (hm : X.mg x = none) (hv : bootBuiltins x = some (.type n)) (hn : x ≠ "__name__" := by decide) (hd : (x == ("__debug__" : Str)) = false := by decide) : EV X W (.Name x pos) (mret (.opq (.ty n))) :=
  peW (pe_bltn (v := .ty n) hg hm hv rfl hn hd) (TM.const fun _ => rfl)
theorem ev_globI {x : Str} {i : Int} {t : Tok} {pos : Pos} (hg : Gl X x) (hm : X.mg x = some (.int i t)) (hd : (x == ("__debug__" : Str)) = false := by decide) : EV X W (.Name x pos) (mret (.int i)) :=
  peW (pe_glob (v := .int i) hg hm ⟨t, rfl⟩ hd) (TM.const fun _ => rfl)
/-! ### repr -/
/-- repr of what is no list and no tuple -/
def greprS : D → Option V
  | .int i => if i.natAbs.log2 < 1920 then some (.str (toString i)) else none
  | .bl b => some (.str (if b then "True" else "False"))
  | .non => some (.str "None")
  | .str x => if (reprText x).length ≤ sizeLine then some (.str (reprText x)) else none
  | _ => none
def strD : Option V → Option D
  | some (.str x) => some (.str x)
  | _ => none
def grepr : List D → Option D
  | [d] => match d with
    | .lst _ => d.py.bind fun p => if p.showable = true ∧ SeqAt.shaped p = true ∧ p.shown.length ≤ sizeLine then some (.str p.shown) else none
    | .tup _ => d.py.bind fun p => if p.showable = true ∧ SeqAt.shaped p = true ∧ p.shown.length ≤ sizeLine then some (.str p.shown) else none
    | d => strD (greprS d)
  | _ => none
theorem strD_of {v : Option V} {d : D} (h : strD v = some d) : ∃ x, v = some (.str x) ∧ d = .str x := by
  unfold strD at h
  split at h
  · cases h; exact ⟨_, rfl, rfl⟩
  · cases h
theorem grepr_of {ds : List D} {d : D} (h : grepr ds = some d) : (∃ d0 x, ds = [d0] ∧ greprS d0 = some (.str x) ∧ d = .str x) ∨ ∃ d0 p, ds = [d0] ∧ ((∃ xs, d0 = .lst xs) ∨ ∃ xs, d0 = .tup xs) ∧ d0.py = some p ∧ p.showable = true ∧ SeqAt.shaped p = true ∧ p.shown.length ≤ sizeLine ∧ d = .str p.shown := by
  unfold grepr at h
  have key : ∀ (d0 : D), (d0.py.bind fun p => if p.showable = true ∧ SeqAt.shaped p = true ∧ p.shown.length ≤ sizeLine then some (D.str p.shown) else none) = some d → ∃ p, d0.py = some p ∧ p.showable = true ∧ SeqAt.shaped p = true ∧ p.shown.length ≤ sizeLine ∧ d = .str p.shown := fun d0 h => by
    cases e : d0.py with
    | none => rw [e] at h; cases h
    | some p =>
      rw [e] at h
      have h : (if p.showable = true ∧ SeqAt.shaped p = true ∧ p.shown.length ≤ sizeLine then some (D.str p.shown) else none) = some d := h
      split at h
      · rename_i hc
        cases h
        exact ⟨p, rfl, hc.1, hc.2.1, hc.2.2, rfl⟩
      · cases h
  split at h
  · split at h
    · obtain ⟨p, h1, h2⟩ := key _ h
      exact .inr ⟨_, p, rfl, .inl ⟨_, rfl⟩, h1, h2⟩
    · obtain ⟨p, h1, h2⟩ := key _ h
      exact .inr ⟨_, p, rfl, .inr ⟨_, rfl⟩, h1, h2⟩
    · obtain ⟨x, h1, h2⟩ := strD_of h
      exact .inl ⟨_, x, rfl, h1, h2⟩
  · cases h
theorem bi_repr {k : Nat} (hr : Room k X.A) (hgd : X.A.guards = some []) : CallS X (.builtin "repr") grepr := by
  intro pins s σ H xs us Q I rx ⟨F, ds, d, s1, p, e, q⟩
  rcases grepr_of e with ⟨d0, x, rfl, hx, rfl⟩ | ⟨d0, pd, rfl, hk, h1, h2, h3, h4, rfl⟩
  · obtain ⟨v, r, rfl, hv, e2⟩ := p
    rw [show r = [] from e2] at rx
    obtain ⟨u, rfl, ru⟩ := vals1 rx
    have fin : ∀ s', s' = { s with toks := s.toks + 1 } → EP X pins σ Q (.str x s.toks) s' := fun s' e => by
      rw [e]
      exact ⟨.str x, H, I.tok _, ⟨_, rfl⟩, q.val s1 rfl⟩
    cases d0 with
    | int i =>
      rw [show v = V.int i from hv] at ru
      obtain ⟨t, rfl⟩ := ru
      have hx : (if i.natAbs.log2 < 1920 then some (V.str (toString i)) else none) = some (V.str x) := hx
      by_cases hz : i.natAbs.log2 < 1920
      · rw [if_pos hz] at hx
        cases hx
        exact PySem.P.repr_of_int hz (fin _ rfl)
      · rw [if_neg hz] at hx; cases hx
    | bl b =>
      rw [show v = V.bl b from hv] at ru
      cases (show u = Value.bool b from ru)
      cases hx
      exact PySem.P.repr_of_bool (fin _ rfl)
    | non =>
      rw [show v = V.non from hv] at ru
      cases (show u = Value.none from ru)
      cases hx
      exact PySem.P.repr_of_none (fin _ rfl)
    | str y =>
      rw [show v = V.str y from hv] at ru
      obtain ⟨t, rfl⟩ := ru
      have hx : (if (reprText y).length ≤ sizeLine then some (V.str (reprText y)) else none) = some (V.str x) := hx
      by_cases hz : (reprText y).length ≤ sizeLine
      · rw [if_pos hz] at hx
        cases hx
        exact PySem.P.repr_of_str (fin _ rfl) hz
      · rw [if_neg hz] at hx; cases hx
    | _ => cases hx
  obtain ⟨v, r, rfl, hv, e2⟩ := p
  rw [show r = [] from e2] at rx
  cases rx with
  | cons ru rn =>
    rename_i u us'
    cases rn
    obtain ⟨as, hrd⟩ := Dp.reads I pd v u (Rp.dp d0 v pd (Rp.mono s1 d0 v hv) h1) ru
    have hu : ∃ a, u = .ref a := by
      rcases hk with ⟨xs, rfl⟩ | ⟨xs, rfl⟩
      · obtain ⟨a, _, rfl, _⟩ := hv
        exact ⟨a, ru⟩
      · obtain ⟨a, _, rfl, _⟩ := hv
        exact ⟨a, ru⟩
    obtain ⟨a, rfl⟩ := hu
    have hd : pd.depth ≤ 64 := SeqAt.depth_of_shaped h3
    have hun := hr.un
    refine repr_of_reads' hrd h2 (PyData.noDict_hsm (PyData.hasDict_of_canLay pd (SeqAt.canLay_of_shaped h3))) hgd (by omega) (fun _ _ e => e) (fun h' t tk hk => ?_) h4
    exact ⟨.str pd.shown, H, I.kept hk, ⟨_, rfl⟩, q.val s1 rfl⟩
end
end Z

namespace Z
open PySem PySem.Spec L2
/-! ## the law's end -/
theorem hasScript {ds : List D} {vs : List V} : True := trivial
theorem D.ofInts : ∀ ns : List Int, RpA K F (ns.map D.int) (ns.map V.int)
  | [] => rfl
  | n :: ns => ⟨.int n, _, rfl, rfl, D.ofInts ns⟩
section
open PyProof.Rows
/-- the law's call, its def's promise at the caller's own place -/
theorem law_callG {P : Program} {w : World} {K : PySem.W.Frag} {mg mb : Str → Option Value} {k : Nat} {fa a : Addr} {fd : FuncData} {x : Str} {sp : Sp} {s1 : Shared} {vs : List Value} {ns : List Int}
    (KX : K.In s1.heap) (hns : s1.heap.Ns mainGlobals mg) (hb : s1.heap.Ns builtinsNs mb) (hbb : ∀ x : Str, x ≠ "__name__" → mb x = bootBuiltins x) (hlim : s1.heap.NoLimit) (hg : s1.gens = #[])
    (ha : s1.heap.get? a = some { cls := .type "list", data := .seq vs.toArray }) (hi : IntsAre vs ns) (hl : ns.length ≤ sizeLine) (hr : Room k callerA)
    (FF : ∀ base : Heap, K.In base → base.Ns mainGlobals mg → FnG P w K mg base k fa fd [x] sp) (hbind : ∀ (s : Shared) (u : Value), BindsTo s fd ⟨[u], []⟩ [(x, u)])
    (hsp : ∀ H : Hp, Only H → SqL K H a (ns.map V.int) → sp [.ref a] H (fun v _ => v = .bl true) fun _ _ _ => False) :
    codeAny (model P w) callerA (.call (.ref fa) ⟨[.ref a], []⟩) (fun r s' => r = .ok (.ret (.bool true)) ∧ OldK s1.heap s'.heap ∧ s'.os = s1.os ∧ AllBare s'.gens) s1 := by
  have rv := vals_ints hi
  have lenV := hi.length
  -- H tracks at most the script
  have main : ∀ H : Hp, Only H → SqL K H a (ns.map V.int) → HOk P w H s1.heap → (∀ b, H b ≠ none → b = a ∧ K.lookup a = none) →
      codeAny (model P w) callerA (.call (.ref fa) ⟨[.ref a], []⟩) (fun r s' => r = .ok (.ret (.bool true)) ∧ OldK s1.heap s'.heap ∧ s'.os = s1.os ∧ AllBare s'.gens) s1 := by
    intro H hO hS hok hA
    have free : ∀ {b : Addr} {o : Obj}, s1.heap.get? b = some o → ((∃ es ep, o.data = .dict es ep) ∨ K.lookup b = some o) → H b = none := fun {b o} e d => by
      cases q : H b with
      | none => rfl
      | some u =>
        obtain ⟨e', hk⟩ := hA b (by rw [q]; exact fun z => by cases z)
        subst e'
        rcases d with ⟨es, ep, d⟩ | d
        · rw [ha] at e
          cases e
          have d' : Data.seq vs.toArray _ = Data.dict es ep := d
          cases d'
        · rw [hk] at d; cases d
    have stay : ∀ {b : Addr} {o : Obj}, s1.heap.get? b = some o → H b = none → (hidT s1.heap H).get? b = some o := fun e n => hidT_get e n
    have nsK : ∀ {b : Addr} {m : Str → Option Value}, s1.heap.Ns b m → (hidT s1.heap H).Ns b m := fun {b m} ⟨o, es, ep, e, d, r⟩ => ⟨o, es, ep, stay e (free e (.inl ⟨es, ep, d⟩)), d, r⟩
    have kB : K.In (hidT s1.heap H) := fun b o e => stay (KX b o e) (free (KX b o e) (.inr e))
    have hM : Mod K mg (hidT s1.heap H) := ⟨kB, nsK hns, ⟨mb, nsK hb, hbb⟩, let ⟨mc, h1, h2⟩ := hlim; ⟨mc, nsK h1, h2⟩⟩
    have e0 : Env0 P w K mg (hidT s1.heap H) callerA [] s1 H := ⟨rfl, hM, fun b o e => of_hidT e, Nat.le_of_eq (hidT_size _ _), trivial, fun b hb => absurd (show b ∈ ([] : List Addr) from hb) (by simp), hok, .of_eq hg⟩
    refine codeAny_mono ((FF _ kB (nsK hns)).run callerA [] s1 H ⟨[.ref a], []⟩ [.ref a] [.ref a] _ _ hr rfl e0 (hbind s1 (.ref a)) (.cons rfl .nil) (hsp H hO hS)) fun r s' h => ?_
    cases r with
    | error e =>
      obtain ⟨_, _, _, _, _, _, _, _, _, _, _, _, z⟩ := h
      exact z.elim
    | ok fl =>
      cases fl with
      | next => exact False.elim h
      | brk => exact False.elim h
      | cont => exact False.elim h
      | ret u =>
        obtain ⟨v, H', os, bare, un, hok', r', rfl⟩ := h
        obtain rfl : u = Value.bool true := r'
        refine ⟨rfl, OldK.of_keep fun b o e => ?_, os, bare⟩
        rcases hO b with z | ⟨ob, xs, z⟩
        · exact un.keep b o e z (by intro z; exact absurd (show b ∈ ([] : List Addr) from z) (by simp)) (by simp)
        · obtain ⟨e1, _⟩ := hok b _ z
          obtain ⟨e2, _⟩ := hok' b _ (un.frzs b ob _ z)
          rw [e] at e1
          cases e1
          exact e2
  cases hk : K.lookup a with
  | some o =>
    have e := KX a o hk
    rw [ha] at e
    cases e
    exact main (fun _ => none) (fun _ => .inl rfl) (.inr ⟨_, vs.toArray, _, hk, rfl, rfl, rfl, by rw [List.size_toArray, lenV]; exact hl, by simpa using rv⟩) (fun b u z => by have z' : (none : Option HO) = some u := z; cases z') fun b z => absurd rfl z
  | none =>
    obtain ⟨H0, at1, at0⟩ : ∃ H0 : Hp, H0 a = some (.frz { cls := .type "list", data := .seq vs.toArray } (.lst (ns.map V.int))) ∧ ∀ b, b ≠ a → H0 b = none :=
      ⟨fun b => if b = a then some (.frz { cls := .type "list", data := .seq vs.toArray } (.lst (ns.map V.int))) else none, if_pos rfl, fun b h => if_neg h⟩
    refine main H0 (fun b => ?_) (.inl (.inr ⟨_, at1⟩)) (fun b u z => ?_) fun b z => ⟨?_, hk⟩
    · by_cases q : b = a
      · exact .inr ⟨_, _, by rw [q]; exact at1⟩
      · exact .inl (at0 b q)
    · by_cases q : b = a
      · subst q
        rw [at1] at z
        cases z
        exact ⟨ha, by rw [List.length_map]; exact hl, vs, _, rv, ha⟩
      · rw [at0 b q] at z; cases z
    · by_cases q : b = a
      · exact q
      · exact absurd (at0 b q) z
end
/-- what k_head leaves, from the law's run -/
theorem walk_ofG {l : PySem.W.OpenLaw} {n k : Nat} {q : Program} {loose : List Str} {XP : (Str → Option Value) → Heap → Prop} {YP : World → Heap → Prop} {d : PySem.DefRec} {K : PySem.Params → PySem.W.Frag} {x : Str} {f : List O → FR}
    (hn : l.most = some n) (hn2 : n ≤ sizeLine) (hdf : d.params.defaults = []) (hr : Room k callerA)
    (hY : ∀ (w : World) (h : Heap), YP w h → (K w.params).In h)
    (FF : ∀ (w : World) (mg : Str → Option Value) (fa : Addr) (h : Heap), (K w.params).In h → h.Ns mainGlobals mg → mg d.name = some (.ref fa) →
      ∃ fd : FuncData, (∀ (s : Shared) (u : Value), BindsTo s fd ⟨[u], []⟩ [(x, u)]) ∧
        ∀ base : Heap, (K w.params).In base → base.Ns mainGlobals mg → FnG l.prog w (K w.params) mg base k fa fd [x] (spF (K w.params) 1 f))
    (hlaw : ∀ ns : List Int, ns.length ≤ n → (∀ z ∈ ns, Builtin.Int.intBits z ≤ 1048576) → ∃ fs, f [.frz (.lst (ns.map .int))] = .ok (.frz (.bl true)) fs) :
    PySem.W.WalkO q loose XP YP l.row.toRowW d [] (fun f vs => PySem.call f vs) := by
  refine Att.attach_callB hn hdf fun w s0 s1 mg mb fa o pm cd doc a vs ns G Y ho hd hcd hmg hobj hints hlen hbits hg => ?_
  have KX := hY w _ Y
  obtain ⟨fd, hb, hF⟩ := FF w mg fa _ KX G.T.g hmg
  refine law_callG KX G.T.g G.T.b G.T.builtins G.T.nolimit hg hobj hints (Nat.le_trans hlen hn2) hr hF hb fun H hO hS => ⟨rfl, H, [], [.frz (.lst (ns.map .int))], ⟨Same.refl H, (fun b hb => by cases hb), List.nodup_nil, ⟨[], [], .ref a, [], rfl, rfl, ⟨rfl, a, _, rfl, hS, D.ofInts ns⟩, rfl, rfl⟩⟩, ?_⟩
  obtain ⟨fs, e⟩ := hlaw ns hlen hbits
  rw [e]
  intro F' H' fp' v r t
  obtain ⟨f1, f2, v', s', _, e2, h1, _⟩ := r.sl
  injection e2 with e2 e3
  injection e2 with e2
  rw [e2]
  exact h1.2
/-! ## short names of runs -/
def mtest (m : M D) : M Bool := mbind m fun d => mopt (mtru d)
def mnotB (m : M Bool) : M Bool := mbind m fun c => mret (!c)
def mnotV (m : M D) : M D := mbind m fun d => mbind (mopt (mtru d)) fun k => mret (.bl (!k))
def mtup (m : M (List D)) : M D := mbind m fun ds => mopt (fit ds.length (.tup ds))
def mlst (m : M (List D)) : M D := mbind m fun ds => mopt (fit ds.length (.lst ds))
def mlstO (m : M (List D)) : M O := mbind m fun ds => mopt (fit ds.length (.lst (ds.map .frz)))
def mfz (m : M O) : M D := mbind m fun o => mret o.toD
def mpartS (m : M D) : M (Option Int) := mbind m fun d => mbind (mopt (mpart d)) fun i => mret (some i)
def mrng1 (m : M (List D)) : M (List D) := mbind m fun ds => mopt (mrange1 ds)
def mrng2 (m : M (List D)) : M (List D) := mbind m fun ds => mopt (mrange2 ds)
def mseq (m : M D) : M (List D) := mbind m fun d => mopt (mitems d)
def mcallK0 (n k : Nat) (perm : List Nat) (f : List O → FR) (m : M (List (Sum D Nat))) : M O := mbind m fun l => if l.length = n then mcallN k f (mret (pick perm l)) else fun _ => .bad
def sbrk : SM := fun ρ => .brk ρ
def scnt : SM := fun ρ => .cnt ρ
def sbad : SM := fun _ => .bad
def sretN : SM := fun ρ => .ret (.frz .non) ρ
theorem unit65 {k : Nat} {A : Around} (hr : Room k A) : A.units + 65 < cLine := by
  have := hr.un
  omega
end Z

/-! ## how runs reckon -/
namespace Z
open PySem PySem.Spec L2
section
variable {α β : Type} (ρ : Env)
@[simp] theorem mbind_ap (m : M α) (f : α → M β) : mbind m f ρ = match m ρ with
  | .ok a ρ' => f a ρ'
  | .exn c ρ' => .exn c ρ'
  | .bad => .bad := rfl
@[simp] theorem mret_ap (a : α) : mret a ρ = .ok a ρ := rfl
@[simp] theorem mopt_some (a : α) : mopt (some a) ρ = .ok a ρ := rfl
@[simp] theorem mopt_none : (mopt (none : Option α)) ρ = .bad := rfl
@[simp] theorem mvar_ap (i : Nat) : mvar i ρ = match ρ[i]? with
  | some (some (.frz d)) => .ok d ρ
  | some (some o) => .ok o.toD (ρ.set i (some (.frz o.toD)))
  | _ => .bad := rfl
@[simp] theorem mtake_ap (i : Nat) : mtake i ρ = match ρ[i]? with
  | some (some o) => .ok o (ρ.set i none)
  | _ => .bad := rfl
@[simp] theorem slift_ap (m : M α) (k : α → SM) : slift m k ρ = match m ρ with
  | .ok a ρ' => k a ρ'
  | .exn c ρ' => .exn c ρ'
  | .bad => .bad := rfl
@[simp] theorem sseq_ap (a b : SM) : sseq a b ρ = match a ρ with
  | .nxt ρ' => b ρ'
  | .ret o ρ' => .ret o ρ'
  | .brk ρ' => .brk ρ'
  | .cnt ρ' => .cnt ρ'
  | .exn c ρ' => .exn c ρ'
  | .bad => .bad := rfl
@[simp] theorem snxt_ap : snxt ρ = .nxt ρ := rfl
@[simp] theorem sbrk_ap : sbrk ρ = .brk ρ := rfl
@[simp] theorem scnt_ap : scnt ρ = .cnt ρ := rfl
@[simp] theorem sbad_ap : sbad ρ = .bad := rfl
@[simp] theorem sretN_ap : sretN ρ = .ret (.frz .non) ρ := rfl
@[simp] theorem sretO_eq (m : M O) : sretO m = slift m fun o ρ => .ret o ρ := rfl
@[simp] theorem sretD_eq (m : M D) : sretD m = slift m fun d ρ => .ret (.frz d) ρ := rfl
@[simp] theorem sexpr_eq (m : M D) : sexpr m = slift m fun _ ρ => .nxt ρ := rfl
@[simp] theorem ksetO_ap (i : Nat) (o : O) : ksetO i o ρ = if i < ρ.length then .nxt (ρ.set i (some o)) else .bad := rfl
@[simp] theorem ssetD_eq (i : Nat) (m : M D) : ssetD i m = slift m fun d => ksetO i (.frz d) := rfl
@[simp] theorem ssetO_eq (i : Nat) (m : M O) : ssetO i m = slift m fun o => ksetO i o := rfl
@[simp] theorem sif_eq (c : M Bool) (a b : SM) : sif c a b = slift c fun k => if k then a else b := rfl
@[simp] theorem sfor_eq (m : M (List D)) (tg : D → Env → Option Env) (body : SM) : sfor m tg body = slift m fun ds => sloop body tg ds := rfl
@[simp] theorem spar_eq (i j : Nat) (a b : M D) : spar i j a b = slift a fun x => slift b fun y ρ => if i < ρ.length ∧ j < ρ.length then .nxt ((ρ.set i (some (.frz x))).set j (some (.frz y))) else .bad := rfl
@[simp] theorem sasg_eq (m : M D) (g : D → Env → Option Env) : sasg m g = slift m fun d ρ => match g d ρ with
  | some ρ' => .nxt ρ'
  | none => .bad := rfl
@[simp] theorem mif_eq {α : Type} (c : M Bool) (a b : M α) : mif c a b = mbind c fun k => if k then a else b := rfl
@[simp] theorem mop_eq (g : D → D → Option D) (a b : M D) : mop g a b = mbind a fun x => mbind b fun y => mopt (g x y) := rfl
@[simp] theorem mun_eq (g : D → Option D) (a : M D) : mun g a = mbind a fun x => mopt (g x) := rfl
@[simp] theorem mtest_eq (m : M D) : mtest m = mbind m fun d => mopt (mtru d) := rfl
@[simp] theorem mnotB_eq (m : M Bool) : mnotB m = mbind m fun c => mret (!c) := rfl
@[simp] theorem mnotV_eq (m : M D) : mnotV m = mbind m fun d => mbind (mopt (mtru d)) fun k => mret (.bl (!k)) := rfl
@[simp] theorem mand_eq (m n : M D) : mand m n = mbind m fun d => mbind (mopt (mtru d)) fun k => if k then n else mret (.bl false) := rfl
@[simp] theorem mor_eq (m n : M D) : mor m n = mbind m fun d => mbind (mopt (mtru d)) fun k => if k then mret (.bl true) else n := rfl
@[simp] theorem mtru_bl (b : Bool) : mtru (.bl b) = some b := rfl
@[simp] theorem mchain_eq (g g' : D → D → Option D) (a b c : M D) : mchain g g' a b c = mbind a fun x => mbind b fun y => mbind (mopt (g x y)) fun k => mbind (mopt (mtru k)) fun k => if k then mbind c fun z => mopt (g' y z) else mret (.bl false) := rfl
@[simp] theorem mcons_eq (a : M D) (b : M (List D)) : mcons a b = mbind a fun x => mbind b fun xs => mret (x :: xs) := rfl
@[simp] theorem mcb_eq (g : List D → Option D) (ms : M (List D)) : mcb g ms = mbind ms fun ds => mopt (g ds) := rfl
@[simp] theorem mtup_eq (m : M (List D)) : mtup m = mbind m fun ds => mopt (fit ds.length (.tup ds)) := rfl
@[simp] theorem mlst_eq (m : M (List D)) : mlst m = mbind m fun ds => mopt (fit ds.length (.lst ds)) := rfl
@[simp] theorem mlstO_eq (m : M (List D)) : mlstO m = mbind m fun ds => mopt (fit ds.length (.lst (ds.map .frz))) := rfl
@[simp] theorem mfz_eq (m : M O) : mfz m = mbind m fun o => mret o.toD := rfl
@[simp] theorem mpartS_eq (m : M D) : mpartS m = mbind m fun d => mbind (mopt (mpart d)) fun i => mret (some i) := rfl
@[simp] theorem mslice_eq (m : M D) (l h : M (Option Int)) : mslice m l h = mbind m fun d => mbind l fun lo => mbind h fun hi => mopt (gsl d lo hi) := rfl
@[simp] theorem mrng1_eq (m : M (List D)) : mrng1 m = mbind m fun ds => mopt (mrange1 ds) := rfl
@[simp] theorem mrng2_eq (m : M (List D)) : mrng2 m = mbind m fun ds => mopt (mrange2 ds) := rfl
@[simp] theorem mseq_eq (m : M D) : mseq m = mbind m fun d => mopt (mitems d) := rfl
@[simp] theorem maE_eq (m : M D) (r : M (List (Sum D Nat))) : maE m r = mbind m fun d => mbind r fun as => mret (.inl d :: as) := rfl
def kmaI (i : Nat) (as : List (Sum D Nat)) : M (List (Sum D Nat)) := fun ρ' => .ok (.inr i :: as) ρ'
@[simp] theorem kmaI_ap (i : Nat) (as : List (Sum D Nat)) : kmaI i as ρ = .ok (.inr i :: as) ρ := rfl
@[simp] theorem maI_ap (i : Nat) (r : M (List (Sum D Nat))) : maI i r ρ = match ρ[i]? with
  | some (some _) => mbind r (kmaI i) ρ
  | _ => .bad := by
  unfold maI
  cases ρ[i]? with
  | none => rfl
  | some o => cases o with
    | none => rfl
    | some o => rfl
@[simp] theorem mcallN_eq (n : Nat) (f : List O → FR) (as : M (List (Sum D Nat))) : mcallN n f as = mbind as fun l ρ => if l.length = n then (match grab l ρ with
  | none => .bad
  | some (os, ρ1) => match f os with
    | .ok o fs => match give l fs ρ1 with
      | some ρ2 => .ok o ρ2
      | none => .bad
    | .exn c fs => match give l fs ρ1 with
      | some ρ2 => .exn c ρ2
      | none => .bad
    | .bad => .bad) else .bad := rfl


end
end Z
namespace Z
open PySem PySem.Spec L2
section
variable (ρ : Env)
@[simp] theorem mcallK0_eq (n k : Nat) (perm : List Nat) (f : List O → FR) (m : M (List (Sum D Nat))) : mcallK0 n k perm f m = mbind m fun l => if l.length = n then mcallN k f (mret (pick perm l)) else fun _ => .bad := rfl
@[simp] theorem grab_nil : grab [] ρ = some ([], ρ) := rfl
@[simp] theorem grab_inl (d : D) (l : List (Sum D Nat)) : grab (.inl d :: l) ρ = (grab l ρ).map fun p => (.frz d :: p.1, p.2) := rfl
@[simp] theorem grab_inr (i : Nat) (l : List (Sum D Nat)) : grab (.inr i :: l) ρ = match ρ[i]? with
    | some (some o) => (grab l (ρ.set i none)).map fun p => (o :: p.1, p.2)
    | _ => none := rfl
@[simp] theorem give_nil : give [] [] ρ = some ρ := rfl
@[simp] theorem give_inl (d : D) (l : List (Sum D Nat)) (o : O) (fs : List O) : give (.inl d :: l) (o :: fs) ρ = give l fs ρ := rfl
@[simp] theorem give_inr (i : Nat) (l : List (Sum D Nat)) (o : O) (fs : List O) : give (.inr i :: l) (o :: fs) ρ = if i < ρ.length then give l fs (ρ.set i (some o)) else none := rfl
@[simp] theorem toD_frz (d : D) : (O.frz d).toD = d := rfl
@[simp] theorem toD_lst (xs : List O) : (O.lst xs).toD = .lst (O.toDs xs) := rfl
@[simp] theorem toDs_nil : O.toDs [] = [] := rfl
@[simp] theorem toDs_cons (x : O) (xs : List O) : O.toDs (x :: xs) = x.toD :: O.toDs xs := rfl
@[simp] theorem toDs_frzs (ds : List D) : O.toDs (ds.map O.frz) = ds := toDs_frz ds
end
end Z
namespace Z
open PySem PySem.Spec L2
section
variable (ρ : Env)
@[simp] theorem frzOk_nil : frzOk [] [] = true := rfl
@[simp] theorem frzOk_t (ms : List Bool) (o : O) (os : List O) : frzOk (true :: ms) (o :: os) = frzOk ms os := rfl
@[simp] theorem frzOk_f (ms : List Bool) (d : D) (os : List O) : frzOk (false :: ms) (.frz d :: os) = frzOk ms os := rfl
@[simp] theorem finals_nil : finals [] [] ρ = some [] := rfl
@[simp] theorem finals_t (ms : List Bool) (o o' : O) (os : List O) : finals (true :: ms) (o :: os) (some o' :: ρ) = (finals ms os ρ).map (o' :: ·) := rfl
@[simp] theorem finals_f (ms : List Bool) (o : O) (os : List O) (x : Option O) : finals (false :: ms) (o :: os) (x :: ρ) = (finals ms os ρ).map (o :: ·) := rfl
@[simp] theorem slotOf_cons0 (o : O) : slotOf (some o :: ρ) 0 = some o := rfl
@[simp] theorem slotOf_consS (x : Option O) (i : Nat) : slotOf (x :: ρ) (i + 1) = slotOf ρ i := by simp [slotOf]
@[simp] theorem mcbo_ap (g : List D → Option D) (i : Nat) : mcbo g i ρ = match slotOf ρ i with
  | some o => (match g [o.toD] with
    | some d => if flat d = true then .ok d ρ else .bad
    | none => .bad)
  | none => .bad := rfl
@[simp] theorem mopo_ap (g : D → D → Option D) (a : M D) (i : Nat) : mopo g a i ρ = match a ρ with
  | .ok d ρ' => (match slotOf ρ' i with
    | some o => (match g d o.toD with
      | some z => if flat z = true then .ok z ρ' else .bad
      | none => .bad)
    | none => .bad)
  | .exn c ρ' => .exn c ρ'
  | .bad => .bad := by
  unfold mopo mbind
  cases a ρ <;> rfl
def kixo (i : Nat) (k : D) : M D := fun ρ => match slotOf ρ i with
      | some o => (match gixo o k with
        | some d => .ok d ρ
        | none => .bad)
      | none => .bad
@[simp] theorem kixo_ap (i : Nat) (k : D) : kixo i k ρ = match slotOf ρ i with
      | some o => (match gixo o k with
        | some d => .ok d ρ
        | none => .bad)
      | none => .bad := rfl
@[simp] theorem mixo_ap (i : Nat) (m : M D) : mixo i m ρ = match slotOf ρ i with
  | some _ => (match m ρ with
    | .ok k ρ' => kixo i k ρ'
    | .exn c ρ' => .exn c ρ'
    | .bad => .bad)
  | none => .bad := by
  unfold mixo mbind
  cases slotOf ρ i with
  | none => rfl
  | some o =>
    cases e : m ρ <;> simp only [e] <;> rfl
def ksapp (i : Nat) (d : D) : SM := fun ρ1 => match slotOf ρ1 i with
    | some (.lst os) => if os.length < sizeLine then .nxt (ρ1.set i (some (.lst (os ++ [.frz d])))) else .bad
    | _ => .bad
@[simp] theorem ksapp_ap (i : Nat) (d : D) : ksapp i d ρ = match slotOf ρ i with
    | some (.lst os) => if os.length < sizeLine then .nxt (ρ.set i (some (.lst (os ++ [.frz d])))) else .bad
    | _ => .bad := rfl
@[simp] theorem sapp_ap (i : Nat) (m : M D) : sapp i m ρ = match slotOf ρ i with
  | some (.lst _) => slift m (ksapp i) ρ
  | _ => .bad := rfl
def ksput (i : Nat) (d j : D) : SM := fun ρ1 => match slotOf ρ1 i, j with
    | some (.lst os), .int j => (match ixN os.length j with
      | some n => .nxt (ρ1.set i (some (.lst (os.set n (.frz d)))))
      | none => .bad)
    | _, _ => .bad
@[simp] theorem ksput_ap (i : Nat) (d : D) (j : Int) : ksput i d (.int j) ρ = match slotOf ρ i with
    | some (.lst os) => (match ixN os.length j with
      | some n => .nxt (ρ.set i (some (.lst (os.set n (.frz d)))))
      | none => .bad)
    | _ => .bad := by
  unfold ksput
  cases slotOf ρ i with
  | none => rfl
  | some o => cases o <;> rfl
def ksput1 (i : Nat) (k : M D) (d : D) : SM := fun ρ => match slotOf ρ i with
  | some _ => slift k (ksput i d) ρ
  | none => .bad
@[simp] theorem ksput1_ap (i : Nat) (k : M D) (d : D) : ksput1 i k d ρ = match slotOf ρ i with
  | some _ => slift k (ksput i d) ρ
  | none => .bad := rfl
@[simp] theorem sput_ap (i : Nat) (m k : M D) : sput i m k ρ = slift m (ksput1 i k) ρ := rfl
@[simp] theorem gset_ap (i : Nat) (d : D) : gset i d ρ = if i < ρ.length then some (ρ.set i (some (.frz d))) else none := rfl
@[simp] theorem gsnil_ap : gsnil [] ρ = some ρ := rfl
@[simp] theorem gscons_ap (g : D → Env → Option Env) (gs : List D → Env → Option Env) (d : D) (ds : List D) : gscons g gs (d :: ds) ρ = (g d ρ).bind (gs ds) := rfl
@[simp] theorem gtup_ap (n : Nat) (gs : List D → Env → Option Env) (ds : List D) : gtup n gs (.tup ds) ρ = if ds.length = n then gs ds ρ else none := rfl
@[simp] theorem sloop_nil (body : SM) (tg : D → Env → Option Env) : sloop body tg [] ρ = .nxt ρ := rfl
theorem sloop_cons (body : SM) (tg : D → Env → Option Env) (d : D) (ds : List D) : sloop body tg (d :: ds) ρ = match tg d ρ with
    | none => .bad
    | some ρ1 => match body ρ1 with
      | .nxt ρ2 => sloop body tg ds ρ2
      | .cnt ρ2 => sloop body tg ds ρ2
      | .brk ρ2 => .nxt ρ2
      | .ret o ρ2 => .ret o ρ2
      | .exn c ρ2 => .exn c ρ2
      | .bad => .bad := rfl
theorem sloop_app (body : SM) (tg : D → Env → Option Env) : ∀ (ds es : List D) (ρ ρ' : Env), sloop body tg ds ρ = .nxt ρ' → (∀ ρ1 d ρ2, d ∈ ds → tg d ρ1 = some ρ2 → ∀ ρ3, body ρ2 ≠ .brk ρ3) → sloop body tg (ds ++ es) ρ = sloop body tg es ρ'
  | [], es, ρ, ρ', h, _ => by
    cases h; rfl
  | d :: ds, es, ρ, ρ', h, nb => by
    show sloop body tg (d :: (ds ++ es)) ρ = _
    rw [sloop_cons] at h ⊢
    cases e : tg d ρ with
    | none => rw [e] at h; cases h
    | some ρ1 =>
      rw [e] at h
      have nb' : ∀ ρ1 d ρ2, d ∈ ds → tg d ρ1 = some ρ2 → ∀ ρ3, body ρ2 ≠ .brk ρ3 := fun a b c hb => nb a b c (List.mem_cons_of_mem _ hb)
      cases e2 : body ρ1 with
      | nxt ρ2 => simp only [e2] at h ⊢; exact sloop_app body tg ds es ρ2 ρ' h nb'
      | cnt ρ2 => simp only [e2] at h ⊢; exact sloop_app body tg ds es ρ2 ρ' h nb'
      | brk ρ2 => exact absurd e2 (nb ρ d ρ1 List.mem_cons_self e ρ2)
      | ret o ρ2 => simp only [e2] at h; cases h
      | exn c ρ2 => simp only [e2] at h; cases h
      | bad => simp only [e2] at h; cases h
@[simp] theorem gadd_int (a b : Int) : gadd (.int a) (.int b) = some (.int (a + b)) := rfl
@[simp] theorem gsub_int (a b : Int) : gsub (.int a) (.int b) = some (.int (a - b)) := rfl
@[simp] theorem glt_int (a b : Int) : glt (.int a) (.int b) = some (.bl (decide (a < b))) := rfl
@[simp] theorem gle_int (a b : Int) : gle (.int a) (.int b) = some (.bl (decide (a ≤ b))) := rfl
@[simp] theorem ggt_int (a b : Int) : ggt (.int a) (.int b) = some (.bl (decide (b < a))) := rfl
@[simp] theorem gge_int (a b : Int) : gge (.int a) (.int b) = some (.bl (decide (b ≤ a))) := rfl
@[simp] theorem gmod_int (a b : Int) : gmod (.int a) (.int b) = if 0 < b then some (.int (a % b)) else none := rfl
@[simp] theorem gdiv_int (a b : Int) : gdiv (.int a) (.int b) = if 0 < b ∧ b.natAbs.log2 < 9000 then some (.int (a / b)) else none := rfl
@[simp] theorem gmul_int (a b : Int) : gmul (.int a) (.int b) = if a.natAbs.log2 + b.natAbs.log2 < 1000000 then some (.int (a * b)) else none := rfl
@[simp] theorem gpow_int (a b : Int) : gpow (.int a) (.int b) = if 0 ≤ b ∧ b ≤ 1000000 ∧ a.natAbs < 2 ^ 64 then some (.int (a ^ b.toNat)) else none := rfl
@[simp] theorem geq_int (a b : Int) : geq (.int a) (.int b) = some (.bl (decide (a = b))) := rfl
@[simp] theorem gne_int (a b : Int) : gne (.int a) (.int b) = some (.bl (!decide (a = b))) := rfl
@[simp] theorem geq_str (a b : Str) : geq (.str a) (.str b) = some (.bl (decide (a = b))) := rfl
@[simp] theorem gne_str (a b : Str) : gne (.str a) (.str b) = some (.bl (!decide (a = b))) := rfl
@[simp] theorem geq_int_non (a : Int) : geq (.int a) .non = some (.bl false) := rfl
@[simp] theorem gne_int_non (a : Int) : gne (.int a) .non = some (.bl true) := rfl
@[simp] theorem glen_lst (ds : List D) : glen [.lst ds] = some (.int ds.length) := rfl
@[simp] theorem glen_tup (ds : List D) : glen [.tup ds] = some (.int ds.length) := rfl
@[simp] theorem gint_int (a : Int) : gint [.int a] = some (.int a) := rfl
@[simp] theorem gmin_int (a b : Int) : gmin2 [.int a, .int b] = some (.int (if b < a then b else a)) := rfl
@[simp] theorem gmax_int (a b : Int) : gmax2 [.int a, .int b] = some (.int (if b > a then b else a)) := rfl
@[simp] theorem gtuple_lst (ds : List D) : gtuple [.lst ds] = some (.tup ds) := rfl
@[simp] theorem gtuple_tup (ds : List D) : gtuple [.tup ds] = some (.tup ds) := rfl
@[simp] theorem glist_lst (ds : List D) : glist [.lst ds] = some (.lst ds) := rfl
@[simp] theorem glist_tup (ds : List D) : glist [.tup ds] = some (.lst ds) := rfl
@[simp] theorem gsum_lst (ds : List D) : gsum [.lst ds] = (D.ints ds).map fun ns => .int ns.sum := rfl
@[simp] theorem gsum_tup (ds : List D) : gsum [.tup ds] = (D.ints ds).map fun ns => .int ns.sum := rfl
@[simp] theorem ints_map : ∀ ns : List Int, D.ints (ns.map .int) = some ns
  | [] => rfl
  | n :: ns => by
    show (D.ints (ns.map .int)).map (n :: ·) = some (n :: ns)
    rw [ints_map ns]
    rfl
@[simp] theorem mitems_lst (ds : List D) : mitems (.lst ds) = some ds := rfl
@[simp] theorem mitems_tup (ds : List D) : mitems (.tup ds) = some ds := rfl
@[simp] theorem gis_bl (a b : Bool) : gis (.bl a) (.bl b) = some (.bl (decide (a = b))) := rfl
@[simp] theorem gisn_bl (a b : Bool) : gisn (.bl a) (.bl b) = some (.bl (!decide (a = b))) := rfl
@[simp] theorem gisn_non : gisn .non .non = some (.bl false) := rfl
@[simp] theorem gisn_int (a : Int) : gisn (.int a) .non = some (.bl true) := rfl
@[simp] theorem gis_non : gis .non .non = some (.bl true) := rfl
@[simp] theorem gis_int (a : Int) : gis (.int a) .non = some (.bl false) := rfl
@[simp] theorem flat_int (a : Int) : flat (.int a) = true := rfl
@[simp] theorem flat_bl (a : Bool) : flat (.bl a) = true := rfl
@[simp] theorem flat_str (a : Str) : flat (.str a) = true := rfl
@[simp] theorem gadd_lst (a b : List D) : gadd (.lst a) (.lst b) = fit (a.length + b.length) (.lst (a ++ b)) := rfl
@[simp] theorem gadd_tup (a b : List D) : gadd (.tup a) (.tup b) = fit (a.length + b.length) (.tup (a ++ b)) := rfl
theorem fit_ok {α : Type} {n : Nat} {a : α} (h : n ≤ sizeLine) : fit n a = some a := if_pos h
theorem fit_small {α : Type} {n : Nat} {a : α} (h : n ≤ 1000) : fit n a = some a := if_pos (by rw [sizeLine_eq]; omega)
/-! kinds -/
@[simp] theorem isi_int_int (a : Int) : gisi [.int a, .opq (.ty "int")] = some (.bl true) := by
  show (kitB "int" "int").map D.bl = _
  rw [show kitB "int" "int" = some true by decide +kernel]; rfl
@[simp] theorem isi_int_bool (a : Int) : gisi [.int a, .opq (.ty "bool")] = some (.bl false) := by
  show (kitB "int" "bool").map D.bl = _
  rw [show kitB "int" "bool" = some false by decide +kernel]; rfl
@[simp] theorem isi_bool_int (a : Bool) : gisi [.bl a, .opq (.ty "int")] = some (.bl true) := by
  show (kitB "bool" "int").map D.bl = _
  rw [show kitB "bool" "int" = some true by decide +kernel]; rfl
@[simp] theorem isi_bool_bool (a : Bool) : gisi [.bl a, .opq (.ty "bool")] = some (.bl true) := by
  show (kitB "bool" "bool").map D.bl = _
  rw [show kitB "bool" "bool" = some true by decide +kernel]; rfl
@[simp] theorem isi_tup_tuple (a : List D) : gisi [.tup a, .opq (.ty "tuple")] = some (.bl true) := by
  show (kitB "tuple" "tuple").map D.bl = _
  rw [show kitB "tuple" "tuple" = some true by decide +kernel]; rfl
@[simp] theorem isi_lst_list (a : List D) : gisi [.lst a, .opq (.ty "list")] = some (.bl true) := by
  show (kitB "list" "list").map D.bl = _
  rw [show kitB "list" "list" = some true by decide +kernel]; rfl
@[simp] theorem isi_str_str (a : Str) : gisi [.str a, .opq (.ty "str")] = some (.bl true) := by
  show (kitB "str" "str").map D.bl = _
  rw [show kitB "str" "str" = some true by decide +kernel]; rfl
end
/-! subscripts by written places -/
@[simp] theorem gix_tup0 (a : D) (r : List D) : gix (.tup (a :: r)) (.int 0) = some a := by
  show atI (a :: r) 0 = some a
  exact atI_nat (j := 0) rfl
@[simp] theorem gix_tup1 (a b : D) (r : List D) : gix (.tup (a :: b :: r)) (.int 1) = some b := by
  show atI (a :: b :: r) 1 = some b
  exact atI_nat (j := 1) rfl
@[simp] theorem gix_tup2 (a b c : D) (r : List D) : gix (.tup (a :: b :: c :: r)) (.int 2) = some c := by
  show atI (a :: b :: c :: r) 2 = some c
  exact atI_nat (j := 2) rfl
@[simp] theorem gix_tup3 (a b c d : D) (r : List D) : gix (.tup (a :: b :: c :: d :: r)) (.int 3) = some d := by
  show atI (a :: b :: c :: d :: r) 3 = some d
  exact atI_nat (j := 3) rfl
theorem atI_lt {α : Type} {l : List α} {i : Int} (h0 : 0 ≤ i) (h : i < l.length) : atI l i = some (l[i.toNat]'(by omega)) := by
  unfold atI ixN
  rw [if_pos h0, if_pos h]
  show l[i.toNat]? = _
  exact List.getElem?_eq_getElem _
theorem gix_lst_lt {l : List D} {i : Int} (h0 : 0 ≤ i) (h : i < l.length) : gix (.lst l) (.int i) = some (l[i.toNat]'(by omega)) := atI_lt h0 h
theorem gix_tup_lt {l : List D} {i : Int} (h0 : 0 ≤ i) (h : i < l.length) : gix (.tup l) (.int i) = some (l[i.toNat]'(by omega)) := atI_lt h0 h
end Z

namespace Z
open PySem PySem.Spec L2
/-! ## sums of bits -/
def Lg (k : Nat) (a : Int) : Prop := a.natAbs < 2 ^ k
def LL (a : Int) : Prop := a.natAbs.log2 < 400000
theorem Lg.add {j k : Nat} {a b : Int} (h : Lg j a) (h2 : Lg k b) : Lg (j + k + 1) (a + b) := by
  unfold Lg at *
  have h3 : (a + b).natAbs ≤ a.natAbs + b.natAbs := Int.natAbs_add_le a b
  have h4 : 2 ^ j ≤ 2 ^ (j + k) := Nat.pow_le_pow_right (by omega) (by omega)
  have h5 : 2 ^ k ≤ 2 ^ (j + k) := Nat.pow_le_pow_right (by omega) (by omega)
  have h6 : 2 ^ (j + k + 1) = 2 ^ (j + k) * 2 := Nat.pow_succ 2 (j + k)
  omega
theorem Lg.sub {j k : Nat} {a b : Int} (h : Lg j a) (h2 : Lg k b) : Lg (j + k + 1) (a - b) := by
  have : Lg k (-b) := by unfold Lg at *; omega
  exact Lg.add h this
theorem Lg.mul {j k : Nat} {a b : Int} (h : Lg j a) (h2 : Lg k b) : Lg (j + k) (a * b) := by
  unfold Lg at *
  rw [Int.natAbs_mul, Nat.pow_add]
  exact Nat.mul_lt_mul'' h h2
theorem Lg.mod {k : Nat} {a b : Int} (h0 : 0 < b) (h : Lg k b) : Lg k (a % b) := by
  unfold Lg at *
  have h1 := Int.emod_nonneg a (show b ≠ 0 by omega)
  have h2 := Int.emod_lt_of_pos a h0
  omega
theorem Lg.div {j : Nat} {a b : Int} (h : Lg j a) : Lg j (a / b) := by
  unfold Lg at *
  exact Nat.lt_of_le_of_lt (Int.natAbs_ediv_le_natAbs a b) h
theorem Lg.LL {k : Nat} {a : Int} (h : Lg k a) (hk : k < 400000 := by decide) : LL a := by
  unfold Lg at h
  unfold Z.LL
  by_cases h0 : a.natAbs = 0
  · rw [h0]; decide
  · exact Nat.lt_of_lt_of_le ((Nat.log2_lt h0).2 h) (by omega)
theorem gmul_LL {a b : Int} (h : LL a) (h2 : LL b) : gmul (.int a) (.int b) = some (.int (a * b)) := by
  rw [gmul_int, if_pos]
  unfold LL at *
  omega
theorem gdiv_Lg {a b : Int} (h : 0 < b) (h2 : b < 2 ^ 64) : gdiv (.int a) (.int b) = some (.int (a / b)) := by
  rw [gdiv_int, if_pos]
  refine ⟨h, ?_⟩
  have : b.natAbs < 2 ^ 64 := by omega
  have := (Nat.log2_lt (by omega)).2 this
  omega
theorem gmod_pos {a b : Int} (h : 0 < b) : gmod (.int a) (.int b) = some (.int (a % b)) := by
  rw [gmod_int, if_pos h]
/-! ## subscripts of owned lists -/
@[simp] theorem gixo_frz (d k : D) : gixo (.frz d) k = gix d k := rfl
@[simp] theorem gixo_0 (a : D) (r : List O) : gixo (.lst (.frz a :: r)) (.int 0) = some a := by
  show (match atI (O.frz a :: r) 0 with | some (.frz d) => some d | _ => none) = _
  rw [show atI (O.frz a :: r) 0 = some (O.frz a) from atI_nat (j := 0) rfl]
@[simp] theorem gixo_1 (a : D) (x : O) (r : List O) : gixo (.lst (x :: .frz a :: r)) (.int 1) = some a := by
  show (match atI (x :: O.frz a :: r) 1 with | some (.frz d) => some d | _ => none) = _
  rw [show atI (x :: O.frz a :: r) 1 = some (O.frz a) from atI_nat (j := 1) rfl]
@[simp] theorem gixo_2 (a : D) (x y : O) (r : List O) : gixo (.lst (x :: y :: .frz a :: r)) (.int 2) = some a := by
  show (match atI (x :: y :: O.frz a :: r) 2 with | some (.frz d) => some d | _ => none) = _
  rw [show atI (x :: y :: O.frz a :: r) 2 = some (O.frz a) from atI_nat (j := 2) rfl]
@[simp] theorem ixN_30 : ixN 3 0 = some 0 := by decide
@[simp] theorem ixN_31 : ixN 3 1 = some 1 := by decide
@[simp] theorem ixN_32 : ixN 3 2 = some 2 := by decide
/-! ## loops that keep a law -/
def stepOk (body : SM) (tg : D → Env → Option Env) (I : Env → Prop) (d : D) (ρ : Env) : Prop := match tg d ρ with
  | none => False
  | some ρ1 => match body ρ1 with
    | .nxt ρ2 => I ρ2
    | .cnt ρ2 => I ρ2
    | _ => False
theorem sloop_inv {body : SM} {tg : D → Env → Option Env} : ∀ (ds : List D) (I : Nat → Env → Prop), (∀ (j : Nat) (d : D) (ρ : Env), ds[j]? = some d → I j ρ → stepOk body tg (I (j + 1)) d ρ) → ∀ ρ, I 0 ρ → ∃ ρ', sloop body tg ds ρ = .nxt ρ' ∧ I ds.length ρ'
  | [], I, _, ρ, h => ⟨ρ, rfl, h⟩
  | d :: ds, I, hs, ρ, h => by
    have h1 := hs 0 d ρ rfl h
    unfold stepOk at h1
    rw [sloop_cons]
    cases e : tg d ρ with
    | none => rw [e] at h1; exact h1.elim
    | some ρ1 =>
      rw [e] at h1
      have go : ∀ ρ2, I 1 ρ2 → ∃ ρ', sloop body tg ds ρ2 = .nxt ρ' ∧ I (d :: ds).length ρ' := fun ρ2 h2 =>
        sloop_inv ds (fun j => I (j + 1)) (fun j d' ρ' hj => hs (j + 1) d' ρ' (by simpa using hj)) ρ2 h2
      cases e2 : body ρ1 with
      | nxt ρ2 => simp only [e2] at h1 ⊢; exact go ρ2 h1
      | cnt ρ2 => simp only [e2] at h1 ⊢; exact go ρ2 h1
      | brk ρ2 => simp only [e2] at h1
      | ret o ρ2 => simp only [e2] at h1
      | exn c ρ2 => simp only [e2] at h1
      | bad => simp only [e2] at h1
/-! ## comprehensions that map -/
def lcOk (vs : List Nat) (g : D → Env → Option Env) (mt : M Bool) (me : M D) (t : D → Bool) (f : D → D) (ρ : Env) (d : D) : Prop := match g d ρ with
  | none => False
  | some ρ1 => match mt ρ1 with
    | .ok b ρ2 => b = t d ∧ (if t d = true then (match me ρ2 with
      | .ok x ρ3 => x = f d ∧ wipeE ρ3 vs = ρ
      | _ => False) else wipeE ρ2 vs = ρ)
    | _ => False
theorem lcloop_map {vs : List Nat} {g : D → Env → Option Env} {mt : M Bool} {me : M D} {t : D → Bool} {f : D → D} {ρ : Env} : ∀ (ds acc : List D), (∀ d ∈ ds, lcOk vs g mt me t f ρ d) → acc.length + ds.length ≤ sizeLine → lcloop vs g mt me ds acc ρ = .ok (acc ++ (ds.filter t).map f) ρ
  | [], acc, _, _ => by simp [lcloop]
  | d :: ds, acc, h, hl => by
    have h1 := h d List.mem_cons_self
    have hl' : acc.length + ds.length + 1 ≤ sizeLine := by simpa [Nat.add_assoc] using hl
    have h2 : ∀ d ∈ ds, lcOk vs g mt me t f ρ d := fun x hx => h x (List.mem_cons_of_mem _ hx)
    unfold lcOk at h1
    unfold lcloop
    cases e : g d ρ with
    | none => rw [e] at h1; exact h1.elim
    | some ρ1 =>
      rw [e] at h1
      simp only at h1 ⊢
      cases e2 : mt ρ1 with
      | ok b ρ2 =>
        rw [e2] at h1
        simp only at h1 ⊢
        obtain ⟨rfl, h1⟩ := h1
        by_cases ht : t d = true
        · rw [if_pos ht] at h1 ⊢
          cases e3 : me ρ2 with
          | ok x ρ3 =>
            rw [e3] at h1
            obtain ⟨rfl, h3⟩ := h1
            simp only
            rw [if_pos (by omega), h3, lcloop_map ds _ h2 (by simp; omega)]
            simp [ht]
          | exn c ρ3 => rw [e3] at h1; exact h1.elim
          | bad => rw [e3] at h1; exact h1.elim
        · rw [if_neg ht] at h1 ⊢
          rw [h1, lcloop_map ds _ h2 (by omega)]
          simp [ht]
      | exn c ρ2 => rw [e2] at h1; exact h1.elim
      | bad => rw [e2] at h1; exact h1.elim
theorem rangeD_len (lo : Int) (n : Nat) : (rangeD lo n).length = n := by simp [rangeD]
theorem rangeD_get {lo : Int} {n j : Nat} {d : D} (h : (rangeD lo n)[j]? = some d) : j < n ∧ d = .int (lo + j) := by
  have hj : j < n := by rw [← rangeD_len lo n]; exact (List.getElem?_eq_some_iff.1 h).1
  refine ⟨hj, ?_⟩
  unfold rangeD at h
  rw [List.getElem?_map, List.getElem?_range hj] at h
  exact (Option.some.inj h).symm
theorem mem_rangeD {lo : Int} {n : Nat} {d : D} (h : d ∈ rangeD lo n) : ∃ j : Nat, j < n ∧ d = .int (lo + j) := by
  unfold rangeD at h
  obtain ⟨j, hj, rfl⟩ := List.mem_map.1 h
  exact ⟨j, List.mem_range.1 hj, rfl⟩
theorem mrange1_ok {j : Int} (h : 0 ≤ j) (h2 : j < 2 ^ 62) : mrange1 [.int j] = some (rangeD 0 j.toNat) := if_pos (i62_iff.2 ⟨by omega, h2⟩)
theorem map_get_int {ns : List Int} {j : Nat} {d : D} (h : (ns.map D.int)[j]? = some d) : ∃ n, d = .int n ∧ ns[j]? = some n := by
  rw [List.getElem?_map] at h
  cases e : ns[j]? with
  | none => rw [e] at h; cases h
  | some n => rw [e] at h; exact ⟨n, (Option.some.inj h).symm, rfl⟩
/-! ## the drawing of numbers -/
def Pot (k : Nat) (p : O) : Prop := ∃ a b s : Int, p = .lst [.frz (.int a), .frz (.int b), .frz (.int s)] ∧ 0 ≤ a ∧ 0 ≤ b ∧ b < 2 ^ 40 ∧ 0 ≤ s ∧ s ≤ k
theorem Pot.mono {j k : Nat} {p : O} (h : Pot j p) (hk : j ≤ k) : Pot k p := by
  obtain ⟨a, b, s, h1, h2, h3, h4, h5, h6⟩ := h
  exact ⟨a, b, s, h1, h2, h3, h4, h5, by omega⟩
/-- a def that draws a number under n and leaves the pot a pot -/
def Draws (f : List O → FR) : Prop := ∀ (k : Nat) (p : O) (n : Int), Pot k p → k ≤ 1000000 → 0 < n → n < 2 ^ 64 → ∃ r p', f [p, .frz (.int n)] = .ok (.frz (.int r)) [p', .frz (.int n)] ∧ 0 ≤ r ∧ r < n ∧ Pot (k + 1) p'
end Z

namespace Z
open PySem PySem.Spec L2
structure OkS (cs : List Int) (ps es : Int) (t : D) (ld : Int) : Prop where
  l1 : 1 ≤ cs.length
  l4 : cs.length ≤ 4
  c1 : ∀ c ∈ cs, 1 ≤ c
  c10 : ∀ c ∈ cs, c ≤ 10
  s : cs.sum ≤ 32
  p2 : 2 ≤ ps
  p4 : ps ≤ 4
  e1 : 1 ≤ es
  e8 : es ≤ 8
  m : ps * es ≤ cs.sum
  d0 : 0 ≤ ld
  dp : ld ≤ ps - 1
  t : t = .non ∨ ∃ k : Int, t = .int k ∧ 0 ≤ k ∧ k ≤ cs.length - 1
def sud (cs : List Int) (ps es : Int) (t : D) (rf hd : Bool) (ld : Int) : D := .tup [.tup (cs.map .int), .int ps, .int es, t, .bl rf, .bl hd, .int ld]
theorem mul_LL_of {a b : Int} (h : Lg 64 a) (h2 : Lg 64 b) : gmul (.int a) (.int b) = some (.int (a * b)) := gmul_LL h.LL h2.LL
@[simp] theorem gix_tup6 (a b c d e f g : D) (r : List D) : gix (.tup (a :: b :: c :: d :: e :: f :: g :: r)) (.int 6) = some g := by
  show atI (a :: b :: c :: d :: e :: f :: g :: r) 6 = some g
  exact atI_nat (j := 6) rfl
@[simp] theorem gix_tup4 (a b c d e : D) (r : List D) : gix (.tup (a :: b :: c :: d :: e :: r)) (.int 4) = some e := by
  show atI (a :: b :: c :: d :: e :: r) 4 = some e
  exact atI_nat (j := 4) rfl
@[simp] theorem gix_tup5 (a b c d e f : D) (r : List D) : gix (.tup (a :: b :: c :: d :: e :: f :: r)) (.int 5) = some f := by
  show atI (a :: b :: c :: d :: e :: f :: r) 5 = some f
  exact atI_nat (j := 5) rfl
theorem gix_ints {cs : List Int} {i : Int} (h0 : 0 ≤ i) (h : i < cs.length) : gix (.tup (cs.map .int)) (.int i) = some (.int (cs[i.toNat]'(by omega))) := by
  rw [gix_tup_lt h0 (by simpa using h)]
  simp
theorem gix_lints {cs : List Int} {i : Int} (h0 : 0 ≤ i) (h : i < cs.length) : gix (.lst (cs.map .int)) (.int i) = some (.int (cs[i.toNat]'(by omega))) := by
  rw [gix_lst_lt h0 (by simpa using h)]
  simp
def card (s r : Int) : D := .tup [.int s, .int r]
/-- a card of a deck -/
def OkC (cs : List Int) (s r : Int) : Prop := 0 ≤ s ∧ s ≤ cs.length - 1 ∧ ∃ h : s.toNat < cs.length, 0 ≤ r ∧ r ≤ cs[s.toNat] - 1
def teq (t : D) (a : Int) : Bool := match t with
  | .int k => decide (a = k)
  | _ => false
theorem geq_t {cs : List Int} {ps es ld : Int} {t : D} (h : OkS cs ps es t ld) (a : Int) : geq (.int a) t = some (.bl (teq t a)) := by
  rcases h.t with rfl | ⟨k, rfl, _⟩
  · exact geq_int_non a
  · exact geq_int a k
theorem gne_t {cs : List Int} {ps es ld : Int} {t : D} (h : OkS cs ps es t ld) (a : Int) : gne (.int a) t = some (.bl (!teq t a)) := by
  rcases h.t with rfl | ⟨k, rfl, _⟩
  · exact gne_int_non a
  · exact gne_int a k
end Z

namespace Z
open PySem PySem.Spec L2 PyProof.Rows
/-! ## enumerate, of a list or a tuple -/
/-- the tuple at a, each item behind its place in a pair of its own -/
def ItEt (K : PySem.W.Frag) (a : Addr) : It :=
  ⟨fun n G => ∃ (ys : List V) (y : V), SqT K G a ys ∧ ys[n]? = some y,
   fun n G v G' => ∃ T y, v = .ref T ∧ G T = none ∧ G' = upd G T (.tup [.int (n : Nat), y]) ∧ ∀ ys, SqT K G a ys → ys[n]? = some y,
   fun n G => ∃ ys : List V, SqT K G a ys ∧ ys.length ≤ n⟩
def EnSt (e it a : Addr) (items : Array Value) (n : Nat) (g : Heap) : Prop := (∃ old, IsEnum g e it ((n : Nat) : Int) old) ∧ (g.IsTupleIter it a n ∧ g.IsTuple a items) ∧ e ≠ it ∧ e ≠ a ∧ it ≠ a
theorem turn_enT {P : Program} {w : World} {K : PySem.W.Frag} {elts : List Expr} {kk : Nat} {tpos : Pos} (a e it : Addr) (xs : List V) :
    Turn P w K (.Tuple elts kk tpos) (ItEt K a) [e, it] e (fun n g => (∃ old, IsEnum g e it ((n : Nat) : Int) old) ∧ g.IsTupleIter it a n ∧ e ≠ it) where
  mem := List.mem_cons_self
  obj := fun n g st c hc => by
    obtain ⟨⟨old, he⟩, ⟨o, ho, hcl, hd⟩, _⟩ := st
    rcases List.mem_cons.mp hc with z | z
    · subst z
      exact ⟨_, he, fun v q => nomatch q⟩
    · rw [List.mem_singleton.mp z]
      exact ⟨o, ho, fun v q => by rw [hd] at q; cases q⟩
  keep := fun n g g' st kp => ⟨⟨st.1.choose, kp e List.mem_cons_self _ st.1.choose_spec⟩, st.2.1.at fun o q => kp it (by simp) o q, st.2.2⟩
  item := by
    intro X hP hw hK hc n pins s σ G E I hf st hg
    subst hP hw hK
    obtain ⟨⟨old, he⟩, hit, hne⟩ := st
    obtain ⟨ys, y, hq, hy⟩ := hg
    obtain ⟨its, rv, p, hz⟩ := I.tuple hq
    have p : s.heap.IsTuple a its.toArray := p
    obtain ⟨u, hu, ru⟩ := rv.get hy
    have l1 : e < s.heap.objs.size := Heap.lt_size he
    have l2 : it < s.heap.objs.size := let ⟨_, q, _⟩ := hit; Heap.lt_size q
    have ha : G a ≠ none ∨ X.K.lookup a ≠ none := by
      rcases hq with (h | ⟨o, h⟩) | ⟨o, _, _, h, _⟩
      · exact .inl (by rw [h]; exact fun z => nomatch z)
      · exact .inl (by rw [h]; exact fun z => nomatch z)
      · exact .inr (by rw [h]; exact fun z => nomatch z)
    have hai : a ≠ it := fun z => by
      obtain ⟨o, ho, hcl, _⟩ := hit
      obtain ⟨o', ho', hc', _⟩ := p
      rw [z, ho] at ho'
      cases ho'
      exact absurd (Value.type.inj (hcl.symm.trans hc')) (by decide)
    have hae : e ≠ a := fun z => by
      obtain ⟨o', ho', hc', _⟩ := p
      have he' : s.heap.get? e = some _ := he
      rw [z, ho'] at he'
      cases he'
      exact absurd (Value.type.inj hc') (by decide)
    have hlt : n < its.toArray.size := by
      have := rv.length
      have : n < ys.length := (List.getElem?_eq_some_iff.mp hy).1
      rw [List.size_toArray]; omega
    refine wpAny_pyNext_enum_itemC (Draws.tuple (show X.A.in1.handled = none from I.ok.hd hc) it a hai its.toArray) he ⟨hit, p⟩ hlt hne (fun z => by
      rcases List.mem_cons.mp z with q | q
      · exact hne q
      · exact hae (List.mem_singleton.mp q)) fun x g' tk hx ho hst hT hsz hk => ?_
    have hx' : x = u := by
      rw [List.getElem?_toArray] at hx
      exact Option.some.inj (hx.symm.trans hu)
    subst hx'
    refine ⟨_, rfl, wpAny_letOwnedTupleGo_enum (s := { s with heap := g', toks := tk + 1 }) ho fun g2 he' sb => ?_⟩
    have hT2 : g2.get? s.heap.objs.size = some { cls := .type "tuple", data := .seq #[.int ((n : Nat) : Int) tk, x] } := (sb.2 _ (Nat.ne_of_gt l1)).trans hT
    have new : ObjOk X.prog X.w (upd G s.heap.objs.size (.tup [.int (n : Nat), y])) g2 s.heap.objs.size (.tup [.int (n : Nat), y]) :=
      ⟨by show 2 ≤ sizeLine; decide, [.int n tk, x], .cons ⟨_, rfl⟩ (.cons ru .nil), ⟨_, hT2, rfl, _, rfl⟩⟩
    have I1 : Inv X pins σ (upd G s.heap.objs.size (.tup [.int (n : Nat), y])) { s with heap := g2, toks := tk + 1 } :=
      I.turnedNew (ch := [e, it]) (fun c ob hc q => (sb.2 c fun z => hc (by simp [z])).trans (hk c ob (fun z => hc (by simp [z])) (fun z => hc (by simp [z])) q)) hf (Nat.le_refl _) new
    refine ⟨.ref s.heap.objs.size, _, I1, rfl, ⟨_, y, rfl, I.hok.fresh (Nat.le_refl _), rfl, fun zs hzs => by rw [I.tuple_inj hzs hq]; exact hy⟩, ⟨⟨x, ?_⟩, hst.1.at fun o q => (sb.2 it (Ne.symm hne)).trans q, hne⟩, fun c hc => ?_⟩
    · rw [show ((n + 1 : Nat) : Int) = (n : Int) + 1 by omega]; exact he'
    · have lc : c < s.heap.objs.size := by
        rcases List.mem_cons.mp hc with z | z
        · rw [z]; exact l1
        · rw [List.mem_singleton.mp z]; exact l2
      rw [upd_ne (Nat.ne_of_lt lc)]
      exact (hf c hc).1
  done := by
    intro X hP hw hK hc n pins s σ G E I hf st hg
    subst hP hw hK
    obtain ⟨⟨old, he⟩, hit, hne⟩ := st
    obtain ⟨ys, hq, hy⟩ := hg
    obtain ⟨its, rv, p, hz⟩ := I.tuple hq
    have p : s.heap.IsTuple a its.toArray := p
    obtain ⟨f0, f1, f2, f3, f4, f5⟩ := hf it (by simp)
    have hl := rv.length
    have ty : s.TypeIs (.ref e) "enumerate" := ⟨_, he, rfl⟩
    unfold pyNext
    refine wpAny_bind (wpAny_attempt (wpAny_callSpecial?_slot (name := Str.ofString "__next__") ty F.slot_enumerate_next (wpAny_call_entry F.slot_enumerate_next ty F.entry_enumerate_next ?_ (F.args_enumerate_next_1 _))))
    refine wpAny_bind (m := field (.ref e) 2) (wpAny_field he rfl (x := .ref it) rfl (wpAny_bind (wpAny_nextOf_tuple_end (show X.A.in1.handled = none from I.ok.hd hc) hit p (by simp; omega) fun g2 c k1 ⟨o, k2, k3⟩ => wpAny_bind (wpAny_isInstance (T := "StopIteration") (b := true) ⟨o, k2, k3⟩ isSubtype_stop (wpAny_pure ?_)))))
    exact ⟨rfl, I.turned (t' := s.toks) (fun c o hc q => k1 c o hc q) f0 f1 f3 f4 f5⟩
  self := fun A n s Q E st h => wpAny_pyIter_enum st.1.choose_spec h
set_option maxHeartbeats 1000000 in
theorem meets_enNew {v : Value} {o : Obj} {Hh : Heap → Prop} (B : Begins v o Hh) :
    Meets (Builtin.«enumerate.__new__» ⟨[.type "enumerate", v], []⟩) (fun _ R s => Hh s.heap ∧ R (.ok (.ret (.ref (s.heap.push o).objs.size))) { s with heap := (s.heap.push o).push { cls := .type "enumerate", data := .fields #[.none, .bool false, .ref s.heap.objs.size, rawInt 0, .none, .none] } }) :=
  .of_wp fun prog w A R s hs => by
    obtain ⟨hp, g, d, tk, os⟩ := s
    obtain ⟨h1, h2⟩ := hs
    have hsub := sub_enumerate
    have q1 : ∀ {A' : Around} {E : Value → Shared → Prop} {Q : Value → Shared → Prop}, Q (.ref hp.objs.size) ⟨hp.push o, g, d, tk, os⟩ → wpAny (model prog w) A' (pyIter v) Q E ⟨hp, g, d, tk, os⟩ := fun q => B.iter prog w _ _ ⟨hp, g, d, tk, os⟩ _ h1 q
    wp_walk using q1
    refine wpAny_stack_any fun st => wpAny_pure ?_
    split
    · rename_i c _ _ _ _ _
      cases (c == Value.type "enumerate") <;> (wp_walk using q1; exact ⟨_, rfl, h2⟩)
    · wp_walk using q1
      exact ⟨_, rfl, h2⟩
theorem call_en1 {prog : Program} {w : World} {A : Around} {E : Value → Shared → Prop} {s : Shared} {v : Value} {o : Obj} {Hh : Heap → Prop} {Q : Value → Shared → Prop} (B : Begins v o Hh) (h1 : Hh s.heap)
    (h : ∀ g, IsEnum g (s.heap.objs.size + 1) s.heap.objs.size 0 .none → g.get? s.heap.objs.size = some o → g.objs.size = s.heap.objs.size + 2 → (∀ b u, s.heap.get? b = some u → g.get? b = some u) → Q (.ref (s.heap.objs.size + 1)) { s with heap := g }) :
    wpAny (model prog w) A (call (.type "enumerate") [v]) Q E s := by
  refine callType_new F.called_enumerate (by decide) (F.typeCall_enumerate_1 _) (F.newCall_enumerate_1 _) (fun x => F.args_object_init_2 x _) F.entry_enumerate_new (meets_enNew B) ⟨h1, ?_⟩
  have hz : (s.heap.push o).objs.size = s.heap.objs.size + 1 := Heap.size_push ..
  show _ ∧ _
  rw [hz]
  have he : IsEnum ((s.heap.push o).push { cls := .type "enumerate", data := .fields #[.none, .bool false, .ref s.heap.objs.size, rawInt 0, .none, .none] }) (s.heap.objs.size + 1) s.heap.objs.size 0 .none := by
    have z := Heap.get?_push_size (s.heap.push o) (o := { cls := .type "enumerate", data := .fields #[.none, .bool false, .ref s.heap.objs.size, rawInt 0, .none, .none] }) rfl
    rw [hz] at z
    exact z
  exact ⟨⟨_, he, rfl⟩, h _ he (Heap.get?_push_of_some _ (Heap.get?_push_size _ B.free)) (by rw [Heap.size_push, hz]) fun b u x => Heap.get?_push_of_some _ (Heap.get?_push_of_some _ x)⟩
def iEn (K : PySem.W.Frag) (ta : TA) : TI := fun σ H R => ta σ H fun vs H1 => ∃ a, vs = [.ref a] ∧ ((∃ xs, SqL K H1 a xs) ∧ R (Ite K a) H1 ∨ (∃ xs, SqT K H1 a xs) ∧ R (ItEt K a) H1)
theorem pi_en {X : Cx} {e : Expr} {ta : TA} {p pos tpos : Pos} {elts : List Expr} {kk : Nat} (hg : Gl X "enumerate") (hm : X.mg "enumerate" = none) (ha : PA X [e] ta) (hs : starEach [e] X.env = [(false, eval e X.env)] := by rfl) :
    PI X (.Tuple elts kk tpos) (.Call (.Name "enumerate" p) [e] [] pos) (iEn X.K ta) := by
  refine ⟨fun pins s σ H R I h => Call_ (ld_blt I hg hm boot_enumerate (callWith_type1 (thn (ha.run pos pins s σ H _ I h) fun us s1 ⟨vs, H1, I1, r1, q1⟩ => ?_) hs rfl))⟩
  obtain ⟨a, rfl, q⟩ := q1
  cases r1 with
  | cons r rr =>
    cases rr
    cases r
    have fpk : ∀ {g : Heap}, ∀ b ∈ [s1.heap.objs.size + 1, s1.heap.objs.size], FpOk X pins H1 b := fun {g} b hb => by
      have hle : s1.heap.objs.size ≤ b := by
        rcases List.mem_cons.mp hb with z | z
        · rw [z]; exact Nat.le_succ _
        · rw [List.mem_singleton.mp z]; exact Nat.le_refl _
      exact I1.fpOk hle (I1.hok.fresh hle)
    rcases q with ⟨⟨xs, hq⟩, q⟩ | ⟨⟨xs, hq⟩, q⟩
    · obtain ⟨its, rv, p', hz⟩ := I1.list hq
      exact call_enumerate_list p'.isList fun g he hit hsz hk => wpAny_pyIter_enum he ⟨s1.heap.objs.size + 1, [s1.heap.objs.size + 1, s1.heap.objs.size], _, _, H1, rfl, I1.kept (t' := s1.toks) hk, turn_enum a (s1.heap.objs.size + 1) s1.heap.objs.size, ⟨⟨.none, he⟩, hit, Nat.succ_ne_self _⟩, fpk (g := g), q⟩
    · obtain ⟨its, rv, p', hz⟩ := I1.tuple hq
      exact call_en1 (begins_tuple a its.toArray) (show s1.heap.IsTuple a its.toArray from p') fun g he ho hsz hk => wpAny_pyIter_enum he ⟨s1.heap.objs.size + 1, [s1.heap.objs.size + 1, s1.heap.objs.size], _, _, H1, rfl, I1.kept (t' := s1.toks) hk, turn_enT a (s1.heap.objs.size + 1) s1.heap.objs.size [], ⟨⟨.none, he⟩, ⟨_, ho, rfl, rfl⟩, Nat.succ_ne_self _⟩, fpk (g := g), q⟩
/-- the pairs -/
def enumD (i : Nat) : List D → List D
  | [] => []
  | d :: r => .tup [.int (i : Int), d] :: enumD (i + 1) r
theorem enumD_len : ∀ (i : Nat) (ds : List D), (enumD i ds).length = ds.length
  | _, [] => rfl
  | i, d :: r => by show (enumD (i + 1) r).length + 1 = _; rw [enumD_len]; rfl
theorem enumD_get : ∀ (k i : Nat) (ds : List D) (z : D), (enumD k ds)[i]? = some z → ∃ d, ds[i]? = some d ∧ z = .tup [.int ((k + i : Nat) : Int), d]
  | _, _, [], _, h => by cases h
  | k, 0, d :: r, z, h => ⟨d, rfl, by cases h; rfl⟩
  | k, i + 1, d :: r, z, h => by
    obtain ⟨d', h1, h2⟩ := enumD_get (k + 1) i r z h
    exact ⟨d', h1, by rw [h2]; congr 3; omega⟩
theorem Wk.enumL {K : PySem.W.Frag} {F H : Hp} {a : Addr} {xs : List V} {ds : List D} (h1 : SqL K F a xs) (h2 : RpA K F ds xs) : Wk K (Ite K a) F H (enumD 0 ds) where
  go := fun i F' H' d s1 s2 e => by
    obtain ⟨d', e0, rfl⟩ := enumD_get 0 i ds d e
    obtain ⟨v, e1, e2⟩ := h2.get e0
    refine ⟨⟨xs, v, Same.sql (s1.trans s2) h1, e1⟩, fun v' H2 hy => ?_⟩
    obtain ⟨T, x, rfl, hT, rfl, hx⟩ := hy
    have hx := hx xs (Same.sql (s1.trans s2) h1)
    rw [e1] at hx
    cases hx
    exact ⟨_, Ext.one s2 hT, Rp.tup_new s2 ⟨_, _, rfl, by rw [Nat.zero_add]; rfl, _, _, rfl, Rp.mono s1 d' v e2, rfl⟩ hT⟩
  stop := fun F' H' s1 s2 => ⟨xs, Same.sql (s1.trans s2) h1, by rw [enumD_len, RpA.length h2]; exact Nat.le_refl _⟩
theorem Wk.enumT {K : PySem.W.Frag} {F H : Hp} {a : Addr} {xs : List V} {ds : List D} (h1 : SqT K F a xs) (h2 : RpA K F ds xs) : Wk K (ItEt K a) F H (enumD 0 ds) where
  go := fun i F' H' d s1 s2 e => by
    obtain ⟨d', e0, rfl⟩ := enumD_get 0 i ds d e
    obtain ⟨v, e1, e2⟩ := h2.get e0
    refine ⟨⟨xs, v, Same.sqt (s1.trans s2) h1, e1⟩, fun v' H2 hy => ?_⟩
    obtain ⟨T, x, rfl, hT, rfl, hx⟩ := hy
    have hx := hx xs (Same.sqt (s1.trans s2) h1)
    rw [e1] at hx
    cases hx
    exact ⟨_, Ext.one s2 hT, Rp.tup_new s2 ⟨_, _, rfl, by rw [Nat.zero_add]; rfl, _, _, rfl, Rp.mono s1 d' v e2, rfl⟩ hT⟩
  stop := fun F' H' s1 s2 => ⟨xs, Same.sqt (s1.trans s2) h1, by rw [enumD_len, RpA.length h2]; exact Nat.le_refl _⟩
def menum : List D → Option (List D)
  | [.lst ds] => some (enumD 0 ds)
  | [.tup ds] => some (enumD 0 ds)
  | _ => none
def menumM (m : M (List D)) : M (List D) := mbind m fun ds => mopt (menum ds)
theorem iv_enum {X : Cx} {W : WX} {e : Expr} {ms : M (List D)} {p pos tpos : Pos} {elts : List Expr} {kk : Nat} (hg : Gl X "enumerate") (hm : X.mg "enumerate" = none) (ha : EA X W [e] ms) (hs : starEach [e] X.env = [(false, eval e X.env)] := by rfl) : IV X W (.Tuple elts kk tpos) (.Call (.Name "enumerate" p) [e] [] pos) (menumM ms) := by
  refine piW (pi_en hg hm ha hs) fun σ H Q ⟨F, fp, ρ, r, o⟩ => ⟨F, fp, ρ, r, Out.bind o fun ds ρ1 F1 H1 fp1 x _ r1 s1 p1 o1 => ?_⟩
  unfold menum at o1
  split at o1
  · obtain ⟨v, vs, rfl, ⟨a, xs, rfl, h1, h2⟩, e2⟩ := p1
    rw [show vs = [] from e2]
    exact ⟨a, rfl, .inl ⟨⟨xs, Same.sql r1.sub h1⟩, o1 F1 H1 fp1 _ r1 Stp.refl (Wk.enumL h1 h2)⟩⟩
  · obtain ⟨v, vs, rfl, ⟨a, xs, rfl, h1, h2⟩, e2⟩ := p1
    rw [show vs = [] from e2]
    exact ⟨a, rfl, .inr ⟨⟨xs, Same.sqt r1.sub h1⟩, o1 F1 H1 fp1 _ r1 Stp.refl (Wk.enumT h1 h2)⟩⟩
  · exact o1.elim
@[simp] theorem menumM_eq (m : M (List D)) : menumM m = mbind m fun ds => mopt (menum ds) := rfl
@[simp] theorem menum_lst (ds : List D) : menum [.lst ds] = some (enumD 0 ds) := rfl
@[simp] theorem menum_tup (ds : List D) : menum [.tup ds] = some (enumD 0 ds) := rfl
end Z

namespace Z
open PySem PySem.Spec L2
/-! ## two fors in a comprehension -/
section
variable {K : PySem.W.Frag} {F2 H2 F4 H4 : Hp} {σ σ2 σt : St} {ρ' ρ4 : Env} {L0 : Addr} {vs : List Nat}
theorem lc_split {fp2 : List Addr} {acc : List D} (r : Rel K F2 H2 fp2 (some (.ref L0) :: σ) (some (.lst (acc.map .frz)) :: ρ')) (wp : ∀ (j : Nat) t, ρ'[j]? = some (some t) → j ∉ vs) :
    ∃ xs f2, fp2 = [L0] ++ f2 ∧ H2 L0 = some (.lst xs) ∧ RpA K F2 acc xs ∧ L0 ∉ f2 ∧ F2 L0 = none ∧ Rel K F2 H2 f2 (wipe σ vs) ρ' := by
  obtain ⟨f1, f2, v', s', efp, e1, hL, hS⟩ := r.sl
  injection e1 with e1 e2
  injection e1 with e1
  subst e1 e2
  obtain ⟨a', xs, fr, e3, rfl, hHD, hA⟩ := hL
  injection e3 with e3
  subst e3
  obtain ⟨er, hB⟩ := ROA.frzs hA
  subst er
  subst efp
  have nd := List.nodup_append.mp r.nd
  exact ⟨xs, f2, rfl, hHD, hB, fun z => nd.2.2 L0 List.mem_cons_self L0 z rfl, r.fre L0 (List.mem_append_left _ List.mem_cons_self),
    ⟨r.sub, fun b hb => r.fre b (List.mem_append_right _ hb), nd.2.1, Slots.other ρ' f2 σ (wipe σ vs) hS (wipe_length σ vs) fun j t e => wipe_other (wp j t e)⟩⟩
theorem lc_join {f2 fp4 : List Addr} {xs zs : List V} {ys : List D} (hH : H2 L0 = some (.lst xs)) (nD : L0 ∉ f2) (fD : F2 L0 = none) (r4 : Rel K F4 H4 fp4 σ2 ρ4) (t4 : Stp F2 H2 f2 F4 H4 fp4) (hl : σ2.length = σt.length) (ha : ∀ j, j ∉ vs → σ2[j]? = σt[j]?) (hys : RpA K F4 ys zs) :
    ∃ f5, Rel K F4 (upd H4 L0 (.lst zs)) (L0 :: f5) (some (.ref L0) :: σt) (some (.lst (ys.map .frz)) :: wipeE ρ4 vs) ∧ Stp F2 H2 ([L0] ++ f2) F4 (upd H4 L0 (.lst zs)) (L0 :: f5) ∧ H4 L0 = some (.lst xs) := by
  have hD4 : H4 L0 = some (.lst xs) := t4.keep L0 _ hH nD
  have fD4 : F4 L0 = none := by
    cases q : F4 L0 with
    | none => rfl
    | some u =>
      rcases t4.new L0 (by rw [q]; intro z; cases z) with z | z | z
      · exact absurd fD z
      · rw [hH] at z; cases z
      · exact absurd z nD
  have nD4 : L0 ∉ fp4 := fun z => by
    rcases t4.own L0 z with q | q
    · exact nD q
    · rw [hH] at q; cases q
  obtain ⟨f5, sb, sl5⟩ := Slots.wipe r4.sl vs
  have sl6 : Slots K F4 H4 (wipeE ρ4 vs) f5 σt := Slots.other _ f5 σ2 σt sl5 hl.symm fun j t e => (ha j (wipeE_some e).2).symm
  have nD5 : L0 ∉ f5 := fun z => nD4 (sb.subset z)
  have k : ∀ b ∈ f5, ∀ u, H4 b = some u → upd H4 L0 (.lst zs) b = some u := fun b hb u e => by rw [upd_ne fun z => nD5 (by rw [← z]; exact hb)]; exact e
  refine ⟨f5, ⟨fun b u e => ?_, fun b hb => ?_, List.nodup_cons.mpr ⟨nD5, r4.nd.sublist sb⟩, ⟨[L0], f5, .ref L0, σt, rfl, rfl, ⟨L0, zs, [], rfl, rfl, upd_same, ROA.of_data ys zs hys⟩, Slots.mono (Same.refl F4) _ f5 σt k sl6⟩⟩, ⟨t4.sub, fun b u e n => ?_, fun b e => ?_, fun b hb => ?_⟩, hD4⟩
  · rw [upd_ne fun z => by rw [z, fD4] at e; cases e]; exact r4.sub b u e
  · rcases List.mem_cons.mp hb with z | z
    · rw [z]; exact fD4
    · exact r4.fre b (sb.subset z)
  · rw [upd_ne fun z => n (by rw [z]; exact List.mem_append_left _ List.mem_cons_self)]
    exact t4.keep b u e fun z => n (List.mem_append_right _ z)
  · rcases t4.new b e with z | z | z
    · exact .inl z
    · exact .inr (.inl z)
    · exact .inr (.inr (List.mem_append_right _ z))
  · rcases List.mem_cons.mp hb with z | z
    · rw [z]; exact .inl (List.mem_append_left _ List.mem_cons_self)
    · rcases t4.own b (sb.subset z) with q | q
      · exact .inl (List.mem_append_right _ q)
      · exact .inr q
theorem upd_eq {H : Hp} {a : Addr} {o : HO} (h : H a = some o) : upd H a o = H := by
  funext b
  by_cases hb : b = a
  · rw [hb, upd_same, h]
  · rw [upd_ne hb]
/-- what is asked of a loop's end, the list at L0 -/
def CC (K : PySem.W.Frag) (L0 : Addr) (σ : St) (F H : Hp) (fp : List Addr) (N : Hp → Prop) : R (List D) → Prop
  | .ok acc ρ' => ∀ F' H' fp', Rel K F' H' fp' (some (.ref L0) :: σ) (some (.lst (acc.map .frz)) :: ρ') → Stp F H fp F' H' fp' → N H'
  | _ => False
theorem CC.shift {F H F1 H1 : Hp} {fp fp1 : List Addr} {N : Hp → Prop} {r : R (List D)} (s : Stp F H fp F1 H1 fp1) (h : CC K L0 σ F H fp N r) : CC K L0 σ F1 H1 fp1 N r := by
  cases r with
  | ok a ρ' => exact fun F' H' fp' b t => h F' H' fp' b (s.trans t)
  | exn c ρ' => exact h
  | bad => exact h
/-- the loop over one source -/
theorem lc_in {ts : List Nat} {g : D → Env → Option Env} {mt : M Bool} {me : M D} {N : Hp → Prop} (hs : ∀ i ∈ ts, i ∈ vs) {J : It} {F1 H1 : Hp} {ds : List D} (w : Wk K J F1 H1 ds) {fp1 : List Addr} {ρ1 : Env} {a0 : List D}
    (r1 : Rel K F1 H1 fp1 (some (.ref L0) :: σ) (some (.lst (a0.map .frz)) :: ρ1)) (wp1 : ∀ (j : Nat) t, ρ1[j]? = some (some t) → j ∉ vs) (o : CC K L0 σ F1 H1 fp1 N (lcloop vs g mt me ds a0 ρ1)) :
    ∃ Wf : Nat → Nat → Hp → Prop, (∃ m, Wf 0 m H1) ∧ ∀ i m H, Wf i m H → (J.stop i H ∧ N H) ∨ (J.go i H ∧ ∃ Nx : Hp → Prop, (∀ H', Nx H' → ∃ m', m' < m ∧ Wf (i + 1) m' H') ∧
      ∀ x H', J.yld i H x H' → TGd K ts g x (wipe σ vs) H' fun σ2 H2 => wipe σ2 vs = wipe σ vs ∧ TB K W0 mt σ2 H2 fun b H3 => if b = true then TM K W0 me σ2 H3 fun y H4 => ∃ acc, H4 L0 = some (.lst acc) ∧ acc.length < sizeLine ∧ Nx (upd H4 L0 (.lst (acc ++ [y]))) else Nx H3) := by
  refine ⟨fun i m H' => ∃ F' fp' ρ' acc, Rel K F' H' fp' (some (.ref L0) :: σ) (some (.lst (acc.map .frz)) :: ρ') ∧ Same F1 F' ∧ (∀ (j : Nat) t, ρ'[j]? = some (some t) → j ∉ vs) ∧ i + m = ds.length ∧
      CC K L0 σ F' H' fp' N (lcloop vs g mt me (ds.drop i) acc ρ'), ⟨ds.length, F1, fp1, ρ1, a0, r1, Same.refl _, wp1, Nat.zero_add _, by rw [List.drop_zero]; exact o⟩, fun i m H' hW => ?_⟩
  obtain ⟨F', fp', ρ', acc, r', sF, wp, em, o'⟩ := hW
  by_cases hlt : i < ds.length
  · have hd : ds[i]? = some ds[i] := List.getElem?_eq_getElem hlt
    rw [List.drop_eq_getElem_cons hlt] at o'
    obtain ⟨hgo, hy⟩ := w.go i F' H' _ sF r'.sub hd
    refine .inr ⟨hgo, fun H2 => ∃ F2 fp2 ρ2 acc2, Rel K F2 H2 fp2 (some (.ref L0) :: σ) (some (.lst (acc2.map .frz)) :: ρ2) ∧ Same F1 F2 ∧ (∀ (j : Nat) t, ρ2[j]? = some (some t) → j ∉ vs) ∧ CC K L0 σ F2 H2 fp2 N (lcloop vs g mt me (ds.drop (i + 1)) acc2 ρ2),
      fun H2 ⟨F2, fp2, ρ2, acc2, q1, q2, q3, q4⟩ => ⟨m - 1, by omega, F2, fp2, ρ2, acc2, q1, q2, q3, by omega, q4⟩, fun v H2 hv => ?_⟩
    obtain ⟨F2, x2, p2⟩ := hy v H2 hv
    obtain ⟨r2, t2⟩ := r'.ext x2
    have o2 := o'.shift t2
    obtain ⟨xs, f2, efp, hHD, hB, nD, fD, rw1⟩ := lc_split r2 wp
    subst efp
    unfold lcloop at o2
    cases e : g ds[i] ρ' with
    | none => simp only [e] at o2; exact o2.elim
    | some ρ3 =>
      simp only [e] at o2
      refine ⟨F2, f2, ρ', ds[i], ρ3, rw1, p2, e, fun fp3 σ3 r3 m3 t3 => ⟨wipe_eq t3 hs, F2, fp3, ρ3, r3, ?_⟩⟩
      have st3 : Stp F2 H2 f2 F2 H2 fp3 := Stp.less m3
      have hl3 : σ3.length = σ.length := by rw [t3.1, wipe_length]
      have ha3 : ∀ j, j ∉ vs → σ3[j]? = σ[j]? := fun j nv => by rw [t3.2 j fun z => nv (hs j z), wipe_other nv]
      cases e2 : mt ρ3 with
      | exn c ρ4 => simp only [e2] at o2; exact o2.elim
      | bad => simp only [e2] at o2; exact o2.elim
      | ok b ρ4 =>
        simp only [e2] at o2
        intro F4 H4 fp4 b' r4 s4 eb
        have eb : b' = b := eb
        subst eb
        cases b' with
        | true =>
          rw [if_pos rfl] at o2 ⊢
          refine ⟨F4, fp4, ρ4, r4, ?_⟩
          cases e3 : me ρ4 with
          | exn c ρ5 => simp only [e3] at o2; exact o2.elim
          | bad => simp only [e3] at o2; exact o2.elim
          | ok x ρ5 =>
            simp only [e3] at o2
            intro F5 H5 fp5 v5 r5 s5 p5
            by_cases hlen : acc.length < sizeLine
            · rw [if_pos hlen] at o2
              have st5 : Stp F2 H2 f2 F5 H5 fp5 := (st3.trans s4).trans s5
              have hA5 : RpA K F5 (acc ++ [x]) (xs ++ [v5]) := (RpA.mono st5.sub acc xs hB).append ⟨v5, [], rfl, p5, rfl⟩
              obtain ⟨f6, r6, t6, hD6⟩ := lc_join hHD nD fD r5 st5 hl3 ha3 hA5
              exact ⟨xs, hD6, by rw [← RpA.length hB]; exact hlen, F5, L0 :: f6, wipeE ρ5 vs, acc ++ [x], r6, (sF.trans t2.sub).trans st5.sub, fun j t e => (wipeE_some e).2, CC.shift t6 o2⟩
            · rw [if_neg hlen] at o2; exact o2.elim
        | false =>
          rw [if_neg Bool.false_ne_true] at o2 ⊢
          have st5 : Stp F2 H2 f2 F4 H4 fp4 := st3.trans s4
          obtain ⟨f6, r6, t6, hD6⟩ := lc_join hHD nD fD r4 st5 hl3 ha3 (RpA.mono st5.sub acc xs hB)
          rw [upd_eq hD6] at r6 t6
          exact ⟨F4, L0 :: f6, wipeE ρ4 vs, acc, r6, (sF.trans t2.sub).trans st5.sub, fun j t e => (wipeE_some e).2, CC.shift t6 o2⟩
  · have e : i = ds.length := by omega
    subst e
    rw [List.drop_length] at o'
    exact .inl ⟨w.stop F' H' sF r'.sub, o' F' H' fp' r' Stp.refl⟩
end
def lcloop2 (vs vs1 : List Nat) (g : D → Env → Option Env) (mt : M Bool) (im1 : M (List D)) (g1 : D → Env → Option Env) (mt1 : M Bool) (me : M D) : List D → List D → M (List D)
  | [], acc, ρ => .ok acc ρ
  | d :: ds, acc, ρ => match g d ρ with
    | none => .bad
    | some ρ1 => match mt ρ1 with
      | .ok b ρ2 => if b = true then (match im1 ρ2 with
        | .ok es ρ3 => match lcloop vs1 g1 mt1 me es acc (wipeE ρ3 vs1) with
          | .ok acc2 ρ4 => lcloop2 vs vs1 g mt im1 g1 mt1 me ds acc2 (wipeE ρ4 vs)
          | _ => .bad
        | _ => .bad) else lcloop2 vs vs1 g mt im1 g1 mt1 me ds acc (wipeE ρ2 vs)
      | _ => .bad
def mlc2 (vs vs1 : List Nat) (im : M (List D)) (g : D → Env → Option Env) (mt : M Bool) (im1 : M (List D)) (g1 : D → Env → Option Env) (mt1 : M Bool) (me : M D) : M O := mbind im fun ds ρ => mbind (lcloop2 vs vs1 g mt im1 g1 mt1 me ds []) (fun acc => mret (.lst (acc.map .frz))) (wipeE ρ vs)
section
variable {K : PySem.W.Frag} {W : WX}
theorem TLC2 {vs vs1 ts ts1 : List Nat} {im im1 : M (List D)} {g g1 : D → Env → Option Env} {mt mt1 : M Bool} {me : M D} (hs : ∀ i ∈ ts, i ∈ vs) (hs1 : ∀ i ∈ ts1, i ∈ vs1) (hv : ∀ i ∈ vs1, i ∈ vs) :
    ∀ σ H Q, TOw K W (mlc2 vs vs1 im g mt im1 g1 mt1 me) σ H Q → tLc2 (TIt K W im) (TGd K ts g) (TB K W0 mt) (TIt K W0 im1) (TGd K ts1 g1) (TB K W0 mt1) (TM K W0 me) vs vs1 σ H Q := by
  intro σ H Q ⟨F, fp, ρ, r, o⟩
  refine ⟨F, fp, ρ, r, Out.bindO o fun ds ρ1 F1 H1 fp1 J _ r1 s1 w o1 L0 hD => ?_⟩
  obtain ⟨fw, sbw, slw⟩ := Slots.wipe r1.sl vs
  have rw0 : Rel K F1 H1 fw σ (wipeE ρ1 vs) := ⟨r1.sub, fun b hb => r1.fre b (sbw.subset hb), r1.nd.sublist sbw, slw⟩
  obtain ⟨r2, s2⟩ := rw0.newL (ds := []) (vs := []) rfl hD
  have c1 : CC K L0 σ F1 H1 fp1 (fun H' => Q (.ref L0) H') (lcloop2 vs vs1 g mt im1 g1 mt1 me ds [] (wipeE ρ1 vs)) := by
    have o1 : OutO K W σ F1 H1 fp1 Q (mbind (lcloop2 vs vs1 g mt im1 g1 mt1 me ds []) (fun acc => mret (.lst (acc.map .frz))) (wipeE ρ1 vs)) := o1
    unfold mbind at o1
    cases e : lcloop2 vs vs1 g mt im1 g1 mt1 me ds [] (wipeE ρ1 vs) with
    | ok acc ρ' => rw [e] at o1; exact fun F' H' fp' r t => o1 F' H' fp' (.ref L0) r t
    | exn c ρ' =>
      exfalso
      have no : ∀ (ds acc : List D) (ρ : Env) (c : Value) (ρ' : Env), lcloop2 vs vs1 g mt im1 g1 mt1 me ds acc ρ ≠ .exn c ρ' := by
        intro ds
        induction ds with
        | nil => intro acc ρ c ρ' h; cases h
        | cons d ds ih =>
          intro acc ρ c ρ' h
          unfold lcloop2 at h
          split at h
          · cases h
          · split at h
            · split at h
              · split at h
                · split at h
                  · exact ih _ _ _ _ h
                  · cases h
                · cases h
              · exact ih _ _ _ _ h
            · cases h
      exact no _ _ _ _ _ e
    | bad => rw [e] at o1; exact o1
  refine ⟨fun i m H' => ∃ F' fp' ρ' acc, Rel K F' H' fp' (some (.ref L0) :: σ) (some (.lst (acc.map .frz)) :: ρ') ∧ Same F1 F' ∧ (∀ (j : Nat) t, ρ'[j]? = some (some t) → j ∉ vs) ∧ i + m = ds.length ∧
      CC K L0 σ F' H' fp' (fun H' => Q (.ref L0) H') (lcloop2 vs vs1 g mt im1 g1 mt1 me (ds.drop i) acc ρ'),
    ⟨ds.length, F1, L0 :: fw, wipeE ρ1 vs, [], r2, Same.refl _, fun j t e => (wipeE_some e).2, Nat.zero_add _, by rw [List.drop_zero]; exact c1.shift ((Stp.less fun b hb => sbw.subset hb).trans s2)⟩, fun i m H' hW => ?_⟩
  obtain ⟨F', fp', ρ', acc, r', sF, wp, em, o'⟩ := hW
  by_cases hlt : i < ds.length
  · have hd : ds[i]? = some ds[i] := List.getElem?_eq_getElem hlt
    rw [List.drop_eq_getElem_cons hlt] at o'
    obtain ⟨hgo, hy⟩ := w.go i F' H' _ sF r'.sub hd
    refine .inr ⟨hgo, fun H2 => ∃ F2 fp2 ρ2 acc2, Rel K F2 H2 fp2 (some (.ref L0) :: σ) (some (.lst (acc2.map .frz)) :: ρ2) ∧ Same F1 F2 ∧ (∀ (j : Nat) t, ρ2[j]? = some (some t) → j ∉ vs) ∧ CC K L0 σ F2 H2 fp2 (fun H' => Q (.ref L0) H') (lcloop2 vs vs1 g mt im1 g1 mt1 me (ds.drop (i + 1)) acc2 ρ2),
      fun H2 ⟨F2, fp2, ρ2, acc2, q1, q2, q3, q4⟩ => ⟨m - 1, by omega, F2, fp2, ρ2, acc2, q1, q2, q3, by omega, q4⟩, fun v H2 hvv => ?_⟩
    obtain ⟨F2, x2, p2⟩ := hy v H2 hvv
    obtain ⟨r2, t2⟩ := r'.ext x2
    have o2 := o'.shift t2
    obtain ⟨xs, f2, efp, hHD, hB, nD, fD, rw1⟩ := lc_split r2 wp
    subst efp
    unfold lcloop2 at o2
    cases e : g ds[i] ρ' with
    | none => simp only [e] at o2; exact o2.elim
    | some ρ3 =>
      simp only [e] at o2
      refine ⟨F2, f2, ρ', ds[i], ρ3, rw1, p2, e, fun fp3 σ3 r3 m3 t3 => ⟨wipe_eq t3 hs, F2, fp3, ρ3, r3, ?_⟩⟩
      have st3 : Stp F2 H2 f2 F2 H2 fp3 := Stp.less m3
      have hl3 : σ3.length = σ.length := by rw [t3.1, wipe_length]
      have ha3 : ∀ j, j ∉ vs → σ3[j]? = σ[j]? := fun j nv => by rw [t3.2 j fun z => nv (hs j z), wipe_other nv]
      cases e2 : mt ρ3 with
      | exn c ρ4 => simp only [e2] at o2; exact o2.elim
      | bad => simp only [e2] at o2; exact o2.elim
      | ok b ρ4 =>
        simp only [e2] at o2
        intro F4 H4 fp4 b' r4 s4 eb
        have eb : b' = b := eb
        subst eb
        cases b' with
        | true =>
          rw [if_pos rfl] at o2 ⊢
          refine ⟨F4, fp4, ρ4, r4, ?_⟩
          cases e3 : im1 ρ4 with
          | exn c ρ5 => simp only [e3] at o2; exact o2.elim
          | bad => simp only [e3] at o2; exact o2.elim
          | ok es ρ5 =>
            simp only [e3] at o2
            intro F5 H5 fp5 J1 r5 s5 w5
            have st5 : Stp F2 H2 f2 F5 H5 fp5 := (st3.trans s4).trans s5
            -- the list goes ahead of the slots again
            obtain ⟨f6, r6, t6, hD6⟩ := lc_join (vs := vs1) hHD nD fD r5 st5 rfl (fun _ _ => rfl) (RpA.mono st5.sub acc xs hB)
            rw [upd_eq hD6] at r6 t6
            refine lc_in hs1 w5 r6 (fun j t e => (wipeE_some e).2) ?_
            cases e4 : lcloop vs1 g1 mt1 me es acc (wipeE ρ5 vs1) with
            | exn c ρ6 => simp only [e4] at o2; exact o2.elim
            | bad => simp only [e4] at o2; exact o2.elim
            | ok acc2 ρ6 =>
              simp only [e4] at o2
              intro F7 H7 fp7 r7 t7
              -- the second target's slots are forgotten
              obtain ⟨g1', g2', v', s', efp, e1, hL, hS⟩ := r7.sl
              injection e1 with e1 e1'
              injection e1 with e1
              subst e1 e1'
              obtain ⟨f8, sb8, sl8⟩ := Slots.wipe hS vs
              have sl9 : Slots K F7 H7 (wipeE ρ6 vs) f8 σ := Slots.other _ f8 σ3 σ sl8 hl3.symm fun j t e => (ha3 j (wipeE_some e).2).symm
              have nd := r7.nd
              rw [efp] at nd
              have sbs : (g1' ++ f8).Sublist (g1' ++ g2') := List.Sublist.append (List.Sublist.refl _) sb8
              have r8 : Rel K F7 H7 (g1' ++ f8) (some (.ref L0) :: σ) (some (.lst (acc2.map .frz)) :: wipeE ρ6 vs) := ⟨r7.sub, fun b hb => r7.fre b (by rw [efp]; exact sbs.subset hb), nd.sublist sbs, ⟨g1', f8, .ref L0, σ, rfl, rfl, hL, sl9⟩⟩
              have st8 : Stp F2 H2 ([L0] ++ f2) F7 H7 (g1' ++ f8) := (t6.trans t7).trans (Stp.less fun b hb => by rw [efp]; exact sbs.subset hb)
              exact ⟨F7, g1' ++ f8, wipeE ρ6 vs, acc2, r8, (sF.trans t2.sub).trans st8.sub, fun j t e => (wipeE_some e).2, CC.shift st8 o2⟩
        | false =>
          rw [if_neg Bool.false_ne_true] at o2 ⊢
          have st5 : Stp F2 H2 f2 F4 H4 fp4 := st3.trans s4
          obtain ⟨f6, r6, t6, hD6⟩ := lc_join hHD nD fD r4 st5 hl3 ha3 (RpA.mono st5.sub acc xs hB)
          rw [upd_eq hD6] at r6 t6
          exact ⟨F4, L0 :: f6, wipeE ρ4 vs, acc, r6, (sF.trans t2.sub).trans st5.sub, fun j t e => (wipeE_some e).2, CC.shift t6 o2⟩
  · have e : i = ds.length := by omega
    subst e
    rw [List.drop_length] at o'
    exact .inl ⟨w.stop F' H' sF r'.sub, o' F' H' fp' r' Stp.refl⟩
end
section
variable {X : Cx} {W : WX} {pr : List Nat}
theorem eo_lc2 {elt tg iter tg1 iter1 : Expr} {ifs ifs1 : List Expr} {scope : Scope} {own : List (Str × Nat)} {vs1 : List Nat} {pos : Pos} {im im1 : M (List D)} {g g1 : D → Env → Option Env} {mt mt1 : M Bool} {me : M D} {ts ts1 : List Nat} (hc : X.calm = true) (hN : X.N.Nodup) (hv : ∀ i ∈ vs1, i ∈ own.map (·.2)) (hts1 : ∀ i ∈ ts1, i ∈ vs1) (hi : IV X W tg iter im) (ok : BlkOk X.N X.env.scope scope own)
    (hg : ∀ (s : Shared) (H : Hp) (C : Addr) (cl : List (Str × Addr)) (fp : List Addr), GV (X.blk s H scope (compEnvC scope cl C X.env) fp) ts tg g) (ht : ∀ (s : Shared) (H : Hp) (C : Addr) (cl : List (Str × Addr)) (fp : List Addr), PTV (X.blk s H scope (compEnvC scope cl C X.env) fp) ifs mt)
    (hi1 : ∀ (s : Shared) (H : Hp) (C : Addr) (cl : List (Str × Addr)) (fp : List Addr), IV (X.blk s H scope (compEnvC scope cl C X.env) fp) W0 tg1 iter1 im1)
    (hg1 : ∀ (s : Shared) (H : Hp) (C : Addr) (cl : List (Str × Addr)) (fp : List Addr), GV (X.blk s H scope (compEnvC scope cl C X.env) fp) ts1 tg1 g1) (ht1 : ∀ (s : Shared) (H : Hp) (C : Addr) (cl : List (Str × Addr)) (fp : List Addr), PTV (X.blk s H scope (compEnvC scope cl C X.env) fp) ifs1 mt1)
    (he : ∀ (s : Shared) (H : Hp) (C : Addr) (cl : List (Str × Addr)) (fp : List Addr), EV (X.blk s H scope (compEnvC scope cl C X.env) fp) W0 elt me) (hts : ∀ i ∈ ts, i ∈ own.map (·.2) := by decide) (hs : ∀ x, foldedSetIterable iter X.env x = pure x := by intro _; rfl) (hs1 : ∀ env x, foldedSetIterable iter1 env x = pure x := by intro _ _; rfl) :
    EO X W (.ListComp elt [⟨tg, iter, ifs, 0⟩, ⟨tg1, iter1, ifs1, 0⟩] scope pos) (mlc2 (own.map (·.2)) vs1 im g mt im1 g1 mt1 me) :=
  peW (pe_lc2 (g := TGd X.K ts g) (tt := TB X.K W0 mt) (g1 := TGd X.K ts1 g1) (tt1 := TB X.K W0 mt1) (te := TM X.K W0 me) hc hN hi ok hv hg ht hi1 hg1 ht1 he hs hs1) (TLC2 hts hts1 hv)
end
end Z

namespace Z
open PySem PySem.Spec L2
/-! ## own exceptions as data; written lists, many times -/
structure ExcN (K : PySem.W.Frag) (mg : Str → Option Value) (x : Str) : Prop where
  ex : ∃ C, PySem.W.excIn K C [.type "ValueError", .type "Exception", .type "BaseException", .type "object"] "ValueError.__new__" = true ∧ mg x = some (.ref C) ∧ PySem.W.keepIn K (.ref C) = true ∧ ExcT K C
theorem excKi {K : PySem.W.Frag} {C : Addr} (h1 : PySem.W.subIn K (.ref C) (.type "int") = some false) (h2 : PySem.W.subIn K (.ref C) (.type "bool") = some false) (h3 : PySem.W.subIn K (.ref C) (.type "str") = some false) (h4 : PySem.W.subIn K (.ref C) (.type "tuple") = some false)
    (h5 : PySem.W.subIn K (.ref C) (.type "list") = some false) (h6 : PySem.W.subIn K (.ref C) (.type "dict") = some false) : ∀ n ∈ excNo, PySem.W.subIn K (.ref C) (.type n) = some false := by
  intro n hn
  simp only [excNo, List.mem_cons, List.not_mem_nil, or_false] at hn
  rcases hn with rfl | rfl | rfl | rfl | rfl | rfl <;> assumption
section
variable {X : Cx} {W : WX}
def mexc (m : M D) : M D := mbind m fun _ => mret .exc
theorem ev_exc {x : Str} {e : Expr} {m : M D} {p pos : Pos} (N : ExcN X.K X.mg x) (hg : Gl X x) (h : EV X W e m) (hs : starEach [e] X.env = (false, eval e X.env) :: starEach [] X.env := by rfl) (hdb : (x == ("__debug__" : Str)) = false := by decide) : EV X W (.Call (.Name x p) [e] [] pos) (mexc m) := by
  obtain ⟨C, q, gC, kC, T⟩ := N.ex
  refine peW (pe_exc1 PySem.F.excBase_ValueError q gC kC hg h hs hdb) fun σ H Q ⟨F, fp, ρ, r, o⟩ => ⟨F, fp, ρ, r, Out.bind o fun d ρ1 F1 H1 fp1 x _ r1 s1 p1 o1 => fun a ha => ?_⟩
  obtain ⟨r2, s2⟩ := r1.ext (Ext.one (o := ExO (.ref C) a) r1.sub ha)
  exact o1 _ _ fp1 (.ref a) r2 s2 ⟨a, C, rfl, upd_same, T⟩
def mrep (k : Int) (ms : M (List D)) : M D := mbind ms fun ds => mopt (if ds.length ≤ sizeLine ∧ 0 ≤ k ∧ k < 2 ^ 62 ∧ ds.length * k.toNat ≤ sizeLine then some (.lst (List.replicate k.toNat ds).flatten) else none)
theorem RpA.rep {K : PySem.W.Frag} {F : Hp} {ds : List D} {vs : List V} (h : RpA K F ds vs) : ∀ n : Nat, RpA K F (List.replicate n ds).flatten (List.replicate n vs).flatten
  | 0 => rfl
  | n + 1 => by
    rw [List.replicate_succ, List.replicate_succ, List.flatten_cons, List.flatten_cons]
    exact h.append (RpA.rep h n)
theorem ev_repL {es : List Expr} {k : Int} {j : Nat} {pos p2 p3 : Pos} {ms : M (List D)} (h : EA X W es ms) : EV X W (.BinOp (.List es pos) .Mult (.Constant (.int k) j p2) p3) (mrep k ms) := by
  refine peW (pe_op op_rep (pe_lst h) pe_int) fun σ H Q ⟨F, fp, ρ, r, o⟩ => ⟨F, fp, ρ, r, Out.bind o fun ds ρ1 F1 H1 fp1 vs _ r1 s1 p o1 => ?_⟩
  by_cases hl : ds.length ≤ sizeLine ∧ 0 ≤ k ∧ k < 2 ^ 62 ∧ ds.length * k.toNat ≤ sizeLine
  · rw [if_pos hl] at o1
    have hlen := RpA.length p
    refine ⟨by rw [← hlen]; exact hl.1, fun a ha => ?_⟩
    refine ⟨a, k, vs, rfl, rfl, upd_same, by omega, by omega, by rw [← hlen]; exact hl.2.2.2, fun b hb => ?_⟩
    have x1 := Ext.one (o := .lst vs) r1.sub ha
    have x2 := x1.trans (Ext.one (o := .lst (List.replicate k.toNat vs).flatten) x1.inn hb)
    obtain ⟨r2, s2⟩ := r1.ext x2
    exact o1 _ _ fp1 (.ref b) r2 s2 ⟨b, _, rfl, .inl (.inl upd_same), RpA.rep (RpA.mono s2.sub ds vs p) k.toNat⟩
  · rw [if_neg hl] at o1; exact o1.elim
end
@[simp] theorem mexc_eq (m : M D) : mexc m = mbind m fun _ => mret .exc := rfl
@[simp] theorem mrep_eq (k : Int) (ms : M (List D)) : mrep k ms = mbind ms fun ds => mopt (if ds.length ≤ sizeLine ∧ 0 ≤ k ∧ k < 2 ^ 62 ∧ ds.length * k.toNat ≤ sizeLine then some (.lst (List.replicate k.toNat ds).flatten) else none) := rfl
end Z

namespace Z
open PySem PySem.Spec L2
/-! ## kinds, all of them -/
theorem isiK {d : D} {t n : String} {b : Bool} (h : d.kind = some t) (e : kitB t n = some b) (hx : d ≠ .exc) : gisi [d, .opq (.ty n)] = some (.bl b) := by
  cases d <;> first | exact absurd rfl hx | (cases h; done) | (cases h; show (kitB _ n).map D.bl = _; rw [e]; rfl)
@[simp] theorem isi_non_int : gisi [.non, .opq (.ty "int")] = some (.bl false) := isiK rfl (by decide +kernel) (fun z => nomatch z)
@[simp] theorem isi_non_bool : gisi [.non, .opq (.ty "bool")] = some (.bl false) := isiK rfl (by decide +kernel) (fun z => nomatch z)
@[simp] theorem isi_non_tuple : gisi [.non, .opq (.ty "tuple")] = some (.bl false) := isiK rfl (by decide +kernel) (fun z => nomatch z)
@[simp] theorem isi_bl_tuple (a : Bool) : gisi [.bl a, .opq (.ty "tuple")] = some (.bl false) := isiK rfl (by decide +kernel) (fun z => nomatch z)
@[simp] theorem isi_int_tuple (a : Int) : gisi [.int a, .opq (.ty "tuple")] = some (.bl false) := isiK rfl (by decide +kernel) (fun z => nomatch z)
@[simp] theorem isi_str_int (a : Str) : gisi [.str a, .opq (.ty "int")] = some (.bl false) := isiK rfl (by decide +kernel) (fun z => nomatch z)
@[simp] theorem isi_str_bool (a : Str) : gisi [.str a, .opq (.ty "bool")] = some (.bl false) := isiK rfl (by decide +kernel) (fun z => nomatch z)
@[simp] theorem isi_str_tuple (a : Str) : gisi [.str a, .opq (.ty "tuple")] = some (.bl false) := isiK rfl (by decide +kernel) (fun z => nomatch z)
@[simp] theorem isi_lst_int (a : List D) : gisi [.lst a, .opq (.ty "int")] = some (.bl false) := isiK rfl (by decide +kernel) (fun z => nomatch z)
@[simp] theorem isi_lst_bool (a : List D) : gisi [.lst a, .opq (.ty "bool")] = some (.bl false) := isiK rfl (by decide +kernel) (fun z => nomatch z)
@[simp] theorem isi_lst_tuple (a : List D) : gisi [.lst a, .opq (.ty "tuple")] = some (.bl false) := isiK rfl (by decide +kernel) (fun z => nomatch z)
@[simp] theorem isi_tup_int (a : List D) : gisi [.tup a, .opq (.ty "int")] = some (.bl false) := isiK rfl (by decide +kernel) (fun z => nomatch z)
@[simp] theorem isi_tup_bool (a : List D) : gisi [.tup a, .opq (.ty "bool")] = some (.bl false) := isiK rfl (by decide +kernel) (fun z => nomatch z)
@[simp] theorem isi_exc_int : gisi [.exc, .opq (.ty "int")] = some (.bl false) := by
  show (if "int" ∈ excNo then some (D.bl false) else none) = _
  rw [if_pos (by decide)]
@[simp] theorem isi_exc_bool : gisi [.exc, .opq (.ty "bool")] = some (.bl false) := by
  show (if "bool" ∈ excNo then some (D.bl false) else none) = _
  rw [if_pos (by decide)]
@[simp] theorem isi_exc_tuple : gisi [.exc, .opq (.ty "tuple")] = some (.bl false) := by
  show (if "tuple" ∈ excNo then some (D.bl false) else none) = _
  rw [if_pos (by decide)]
@[simp] theorem isi_exc_str : gisi [.exc, .opq (.ty "str")] = some (.bl false) := by
  show (if "str" ∈ excNo then some (D.bl false) else none) = _
  rw [if_pos (by decide)]
@[simp] theorem isi_exc_list : gisi [.exc, .opq (.ty "list")] = some (.bl false) := by
  show (if "list" ∈ excNo then some (D.bl false) else none) = _
  rw [if_pos (by decide)]
/-- data whose kind isinstance tells -/
def Told : D → Bool
  | .dct _ => false
  | .opq _ => false
  | _ => true
/-! ## data that repr and == read -/
structure Gd (n k : Nat) (d : D) (p : PyData) : Prop where
  py : d.py = some p
  sh : p.showable = true
  cl : p.canLay0 = true
  dp : p.depth ≤ n
  wt : p.weight ≤ k
  sm : p.intsShort 13 = true
theorem Gd.lay {n k : Nat} {d : D} {p : PyData} (h : Gd n k d p) (hn : n ≤ 64) (hk : k ≤ 1048576) : p.layable0 = true := by
  show (p.canLay0 && decide (p.depth ≤ 64) && decide (p.weight ≤ 2 ^ 20)) = true
  have h1 := h.dp
  have h2 := h.wt
  simp only [Bool.and_eq_true, decide_eq_true_eq]
  exact ⟨⟨h.cl, by omega⟩, by omega⟩
theorem Gd.shaped {n k : Nat} {d : D} {p : PyData} (h : Gd n k d p) (hn : n ≤ 64) : SeqAt.shaped p = true := by
  unfold SeqAt.shaped
  have h1 := h.dp
  simp only [Bool.and_eq_true, decide_eq_true_eq]
  exact ⟨h.cl, by omega⟩
theorem Gd.pyOk {n k : Nat} {d : D} {p : PyData} (h : Gd n k d p) (hn : n ≤ 64) : Z.pyOk d = some p := by
  unfold Z.pyOk
  rw [h.py]
  exact if_pos (h.shaped hn)
theorem Gd.len {n k : Nat} {d : D} {p : PyData} (h : Gd n k d p) (hn : n ≤ 64) (hk : k ≤ 1048576) : p.shown.length ≤ sizeLine := by
  have h1 := PyProof.Rows.shown_le13 (h.lay hn hk) h.sm
  rw [sizeLine_eq]
  omega
theorem Gd.reprL {n k : Nat} {ds : List D} {p : PyData} (h : Gd n k (.lst ds) p) (hn : n ≤ 64) (hk : k ≤ 1048576) : grepr [.lst ds] = some (.str p.shown) := by
  show ((D.lst ds).py.bind fun p => if p.showable = true ∧ SeqAt.shaped p = true ∧ p.shown.length ≤ sizeLine then some (D.str p.shown) else none) = _
  rw [h.py]
  exact if_pos ⟨h.sh, h.shaped hn, h.len hn hk⟩
theorem Gd.reprT {n k : Nat} {ds : List D} {p : PyData} (h : Gd n k (.tup ds) p) (hn : n ≤ 64) (hk : k ≤ 1048576) : grepr [.tup ds] = some (.str p.shown) := by
  show ((D.tup ds).py.bind fun p => if p.showable = true ∧ SeqAt.shaped p = true ∧ p.shown.length ≤ sizeLine then some (D.str p.shown) else none) = _
  rw [h.py]
  exact if_pos ⟨h.sh, h.shaped hn, h.len hn hk⟩
structure GdA (n k : Nat) (ds : List D) (ps : List PyData) : Prop where
  py : D.pys ds = some ps
  sh : PyData.showableAll ps = true
  cl : PyData.canLayAll0 ps = true
  dp : PyData.depthAll ps ≤ n
  wt : PyData.weightAll ps ≤ k
  sm : PyData.intsShortAll 13 ps = true
theorem GdA.nil {n k : Nat} : GdA n k [] [] := ⟨rfl, rfl, rfl, Nat.zero_le _, Nat.zero_le _, rfl⟩
theorem GdA.cons {n k k2 : Nat} {d : D} {p : PyData} {ds : List D} {ps : List PyData} (h : Gd n k d p) (t : GdA n k2 ds ps) : GdA n (k + 1 + k2) (d :: ds) (p :: ps) := by
  refine ⟨?_, ?_, ?_, ?_, ?_, ?_⟩
  · show (d.py.bind fun p => (D.pys ds).map (p :: ·)) = _
    rw [h.py, t.py]; rfl
  · show (p.showable && PyData.showableAll ps) = true
    rw [h.sh, t.sh]; rfl
  · show (p.canLay0 && PyData.canLayAll0 ps) = true
    rw [h.cl, t.cl]; rfl
  · show max p.depth (PyData.depthAll ps) ≤ n
    have h1 := h.dp
    have h2 := t.dp
    omega
  · show p.weight + 1 + PyData.weightAll ps ≤ _
    have h1 := h.wt
    have h2 := t.wt
    omega
  · show (p.intsShort 13 && PyData.intsShortAll 13 ps) = true
    rw [h.sm, t.sm]; rfl
theorem GdA.mono {n k k2 : Nat} {ds : List D} {ps : List PyData} (h : GdA n k ds ps) (hk : k ≤ k2) : GdA n k2 ds ps := ⟨h.py, h.sh, h.cl, h.dp, Nat.le_trans h.wt hk, h.sm⟩
theorem GdA.lst {n k : Nat} {ds : List D} {ps : List PyData} (h : GdA n k ds ps) : Gd (n + 1) k (.lst ds) (.list ps) := by
  refine ⟨?_, h.sh, h.cl, Nat.succ_le_succ h.dp, h.wt, h.sm⟩
  show (D.pys ds).map PyData.list = _
  rw [h.py]; rfl
theorem GdA.tup {n k : Nat} {ds : List D} {ps : List PyData} (h : GdA n k ds ps) : Gd (n + 1) k (.tup ds) (.tuple ps) := by
  refine ⟨?_, h.sh, h.cl, Nat.succ_le_succ h.dp, h.wt, h.sm⟩
  show (D.pys ds).map PyData.tuple = _
  rw [h.py]; rfl
theorem GdA.map {n k : Nat} {α : Type} {f : α → D} {g : α → PyData} : ∀ {l : List α}, (∀ z ∈ l, Gd n k (f z) (g z)) → GdA n (l.length * (k + 1)) (l.map f) (l.map g)
  | [], _ => GdA.nil
  | z :: l, h => by
    have := GdA.cons (h z List.mem_cons_self) (GdA.map (l := l) fun y hy => h y (List.mem_cons_of_mem _ hy))
    exact this.mono (by rw [List.length_cons, Nat.add_mul, Nat.one_mul]; omega)
theorem Gd.bl (n : Nat) (b : Bool) : Gd n 0 (.bl b) (.bool b) := ⟨rfl, rfl, rfl, Nat.zero_le _, Nat.zero_le _, rfl⟩
theorem Gd.int (n : Nat) {i : Int} (h0 : -1 ≤ i) (h : i ≤ 60) : Gd n 8 (.int i) (.int i) := by
  have key : ∀ j : Fin 62, (PyData.int ((j.val : Int) - 1)).showable = true ∧ (PyData.int ((j.val : Int) - 1)).weight ≤ 8 ∧ (PyData.int ((j.val : Int) - 1)).intsShort 13 = true := by decide +kernel
  have e : i = (((⟨(i + 1).toNat, by omega⟩ : Fin 62).val : Nat) : Int) - 1 := by
    show i = (((i + 1).toNat : Nat) : Int) - 1
    omega
  have k := key ⟨(i + 1).toNat, by omega⟩
  rw [← e] at k
  exact ⟨rfl, k.1, rfl, Nat.zero_le _, k.2.1, k.2.2⟩
/-- a list of two truths -/
theorem repr_bb (a b : Bool) : ∃ x, grepr [.lst [.bl a, .bl b]] = some (.str x) := ⟨_, ((GdA.cons (Gd.bl 0 a) (GdA.cons (Gd.bl 0 b) (GdA.nil (k := 0)))).lst).reprL (by decide) (by decide)⟩
/-! ## all cards of a deck -/
def allN : Nat → List Int → List (Int × Int)
  | _, [] => []
  | i, c :: cs => ((List.range c.toNat).map fun (r : Nat) => ((i : Int), (0 : Int) + (r : Int))) ++ allN (i + 1) cs
def cardD (z : Int × Int) : D := card z.1 z.2
def cardP (z : Int × Int) : PyData := .tuple [.int z.1, .int z.2]
def allC (i : Nat) (cs : List Int) : List D := (allN i cs).map cardD
theorem allC_cons (i : Nat) (c : Int) (cs : List Int) : allC i (c :: cs) = ((rangeD 0 c.toNat).map fun d => .tup [.int i, d]) ++ allC (i + 1) cs := by
  show (((List.range c.toNat).map fun (r : Nat) => ((i : Int), (0 : Int) + (r : Int))) ++ allN (i + 1) cs).map cardD = _
  unfold rangeD
  rw [List.map_append, List.map_map, List.map_map]
  rfl
theorem allC_app : ∀ (i : Nat) (cs : List Int) (c : Int), allC i (cs ++ [c]) = allC i cs ++ (rangeD 0 c.toNat).map fun d => .tup [.int (i + cs.length : Nat), d]
  | i, [], c => by
    rw [List.nil_append, allC_cons]
    show _ ++ [] = [] ++ _
    rw [List.append_nil, List.nil_append]
    rfl
  | i, x :: cs, c => by
    rw [List.cons_append, allC_cons, allC_cons, allC_app (i + 1) cs c, List.append_assoc, List.length_cons]
    rw [show i + 1 + cs.length = i + (cs.length + 1) by omega]
theorem mem_allN : ∀ (i : Nat) (cs : List Int) (a b : Int), (a, b) ∈ allN i cs ↔ ∃ j : Nat, ∃ h : j < cs.length, a = ((i + j : Nat) : Int) ∧ 0 ≤ b ∧ b < cs[j]
  | i, [], a, b => by
    constructor
    · intro h; cases h
    · rintro ⟨j, h, _⟩; exact absurd h (Nat.not_lt_zero _)
  | i, c :: cs, a, b => by
    unfold allN
    rw [List.mem_append, mem_allN (i + 1) cs a b]
    constructor
    · rintro (h | ⟨j, hj, h1, h2, h3⟩)
      · obtain ⟨r, hr, e⟩ := List.mem_map.1 h
        have hr := List.mem_range.1 hr
        cases e
        exact ⟨0, by simp, by simp, by omega, by simp only [List.getElem_cons_zero]; omega⟩
      · exact ⟨j + 1, by simpa using hj, by rw [h1]; congr 1; omega, h2, by simpa using h3⟩
    · rintro ⟨j, hj, h1, h2, h3⟩
      cases j with
      | zero =>
        simp only [List.getElem_cons_zero] at h3
        refine .inl (List.mem_map.2 ⟨b.toNat, List.mem_range.2 (by omega), ?_⟩)
        rw [h1, Nat.add_zero]
        congr 1
        omega
      | succ j =>
        simp only [List.getElem_cons_succ] at h3
        exact .inr ⟨j, by simpa using hj, by rw [h1]; congr 1; omega, h2, h3⟩
def fitsB (cs : List Int) (a b : Int) : Bool := decide ((a, b) ∈ allN 0 cs)
theorem fitsB_iff {cs : List Int} {a b : Int} (h0 : 0 ≤ a) (h1 : a < cs.length) : fitsB cs a b = (decide (0 ≤ b) && decide (b ≤ cs[a.toNat]'(by omega) - 1)) := by
  unfold fitsB
  rw [← Bool.decide_and]
  apply decide_eq_decide.2
  rw [mem_allN]
  constructor
  · rintro ⟨j, hj, e, h2, h3⟩
    have : a.toNat = j := by omega
    subst this
    exact ⟨h2, by omega⟩
  · rintro ⟨h2, h3⟩
    exact ⟨a.toNat, by omega, by omega, h2, by omega⟩
theorem fitsB_out {cs : List Int} {a b : Int} (h : ¬(0 ≤ a ∧ a < cs.length)) : fitsB cs a b = false := by
  unfold fitsB
  apply decide_eq_false
  rw [mem_allN]
  rintro ⟨j, hj, e, h2, h3⟩
  omega
theorem allN_len : ∀ (i : Nat) (cs : List Int), (∀ c ∈ cs, 0 ≤ c) → ((allN i cs).length : Int) = cs.sum
  | _, [], _ => rfl
  | i, c :: cs, h => by
    unfold allN
    rw [List.length_append, List.length_map, List.length_range, List.sum_cons]
    have h1 := allN_len (i + 1) cs fun x hx => h x (List.mem_cons_of_mem _ hx)
    have h2 := h c List.mem_cons_self
    omega
theorem Gd.card {s r : Int} (h1 : -1 ≤ s) (h2 : s ≤ 60) (h3 : -1 ≤ r) (h4 : r ≤ 60) (n : Nat) : Gd (n + 1) 18 (Z.card s r) (cardP (s, r)) :=
  ((GdA.cons (Gd.int n h1 h2) (GdA.cons (Gd.int n h3 h4) (GdA.nil (k := 0)))).tup)
theorem eqv_card (a b c d : Int) : PyData.eqv (cardP (a, b)) (cardP (c, d)) = (decide (a = c) && decide (b = d)) := by
  show (PyData.eqv (.int a) (.int c) && (PyData.eqv (.int b) (.int d) && true)) = _
  rw [Bool.and_true]
  show ((a == c) && (b == d)) = _
  rfl
end Z

namespace Z
open PySem PySem.Spec L2
theorem allN_bound {cs : List Int} {ps es : Int} {t : D} {ld : Int} (h : OkS cs ps es t ld) {z : Int × Int} (hz : z ∈ allN 0 cs) : 0 ≤ z.1 ∧ z.1 < 4 ∧ 0 ≤ z.2 ∧ z.2 < 10 := by
  obtain ⟨a, b⟩ := z
  obtain ⟨j, hj, e, h2, h3⟩ := (mem_allN 0 cs a b).1 hz
  have h4 := h.l4
  have h5 := h.c10 _ (List.getElem_mem hj)
  have e : a = _ := e
  refine ⟨by show 0 ≤ a; omega, by show a < 4; omega, h2, by show b < 10; omega⟩
theorem allN_all {cs : List Int} {ps es : Int} {t : D} {ld : Int} (h : OkS cs ps es t ld) {P : Int × Int → Prop} (k : ∀ s : Fin 4, ∀ r : Fin 10, P ((s.val : Int), (r.val : Int))) : ∀ z ∈ allN 0 cs, P z := by
  intro z hz
  obtain ⟨h1, h2, h3, h4⟩ := allN_bound h hz
  obtain ⟨a, b⟩ := z
  have := k ⟨a.toNat, by have : a < 4 := h2; omega⟩ ⟨b.toNat, by have : b < 10 := h4; omega⟩
  have e1 : ((a.toNat : Nat) : Int) = a := Int.toNat_of_nonneg h1
  have e2 : ((b.toNat : Nat) : Int) = b := Int.toNat_of_nonneg h3
  simp only [e1, e2] at this
  exact this
theorem allN_le {cs : List Int} {ps es : Int} {t : D} {ld : Int} (h : OkS cs ps es t ld) : (allN 0 cs).length ≤ 32 := by
  have := allN_len 0 cs fun c hc => by have := h.c1 c hc; omega
  have h2 := h.s
  omega
theorem Gd.allC {cs : List Int} {ps es : Int} {t : D} {ld : Int} (h : OkS cs ps es t ld) : GdA 1 (32 * 19) (Z.allC 0 cs) ((allN 0 cs).map cardP) := by
  have := GdA.map (n := 1) (k := 18) (f := cardD) (g := cardP) (l := allN 0 cs) fun z hz => by
    obtain ⟨h1, h2, h3, h4⟩ := allN_bound h hz
    exact Gd.card (s := z.1) (r := z.2) (by omega) (by omega) (by omega) (by omega) 0
  exact this.mono (by have := allN_le h; omega)
theorem any_fits (cs : List Int) (a b : Int) : ((allN 0 cs).map cardP).any (fun z => PyData.eqv z (cardP (a, b))) = fitsB cs a b := by
  unfold fitsB
  rw [List.any_map, Bool.eq_iff_iff, List.any_eq_true, decide_eq_true_eq]
  constructor
  · rintro ⟨z, hz, e⟩
    have e : PyData.eqv (cardP z) (cardP (a, b)) = true := e
    obtain ⟨c, d⟩ := z
    rw [eqv_card] at e
    simp at e
    obtain ⟨rfl, rfl⟩ := e
    exact hz
  · intro hz
    refine ⟨(a, b), hz, ?_⟩
    show PyData.eqv (cardP (a, b)) (cardP (a, b)) = true
    rw [eqv_card]
    simp
theorem gin_cards {cs : List Int} {ps es : Int} {t : D} {ld : Int} (h : OkS cs ps es t ld) {a b : Int} (h1 : -1 ≤ a) (h2 : a ≤ 60) (h3 : -1 ≤ b) (h4 : b ≤ 60) : gin (card a b) (.lst (allC 0 cs)) = some (.bl (fitsB cs a b)) := by
  unfold gin
  rw [(Gd.card h1 h2 h3 h4 0).pyOk (by decide), ((Gd.allC h).lst).pyOk (by decide)]
  show some (D.bl _) = _
  rw [any_fits]
def shw (z : Int × Int) : Str := (cardP z).shown
theorem shw_gd {cs : List Int} {ps es : Int} {t : D} {ld : Int} (h : OkS cs ps es t ld) : ∀ z ∈ allN 0 cs, Gd 0 20 (.str (shw z)) (.str (shw z)) :=
  allN_all h (P := fun z => Gd 0 20 (.str (shw z)) (.str (shw z))) fun s r => by
    have key : ∀ s : Fin 4, ∀ r : Fin 10, PyData.strOk (shw ((s.val : Int), (r.val : Int))) = true ∧ (shw ((s.val : Int), (r.val : Int))).cps.size ≤ 20 := by decide +kernel
    exact ⟨rfl, rfl, (key s r).1, Nat.le_refl _, (key s r).2, rfl⟩
theorem gin_strs {cs : List Int} {ps es : Int} {t : D} {ld : Int} (h : OkS cs ps es t ld) (y : Str) (hy : PyData.strOk y = true) : gin (.str y) (.lst ((allN 0 cs).map fun z => .str (shw z))) = some (.bl ((allN 0 cs).any fun z => shw z == y)) := by
  have g1 : Gd 0 y.cps.size (.str y) (.str y) := ⟨rfl, rfl, hy, Nat.le_refl _, Nat.le_refl _, rfl⟩
  have g2 := GdA.map (n := 0) (k := 20) (f := fun z => D.str (shw z)) (g := fun z => PyData.str (shw z)) (l := allN 0 cs) (shw_gd h)
  unfold gin
  rw [g1.pyOk (by decide), g2.lst.pyOk (by decide)]
  show some (D.bl _) = _
  rw [List.any_map]
  rfl
theorem any_none {cs : List Int} {ps es : Int} {t : D} {ld : Int} (h : OkS cs ps es t ld) {y : Str} (k : ∀ s : Fin 4, ∀ r : Fin 10, (shw ((s.val : Int), (r.val : Int)) == y) = false) : ((allN 0 cs).any fun z => shw z == y) = false := by
  rw [List.any_eq_false]
  intro z hz
  have := allN_all h (P := fun z => (shw z == y) = false) k z hz
  rw [this]
  exact Bool.false_ne_true
theorem any_zero {cs : List Int} {ps es : Int} {t : D} {ld : Int} (h : OkS cs ps es t ld) : ((allN 0 cs).any fun z => shw z == shw (0, 0)) = true := by
  rw [List.any_eq_true]
  refine ⟨(0, 0), (mem_allN 0 cs 0 0).2 ⟨0, by have := h.l1; omega, rfl, Int.le_refl _, ?_⟩, by simp⟩
  have := h.c1 _ (List.getElem_mem (l := cs) (n := 0) (by have := h.l1; omega))
  omega
/-- whole_between's answer -/
def wbD (x : D) (a b : Int) : Bool := match x with
  | .int i => decide (a ≤ i) && decide (i ≤ b)
  | _ => false
@[simp] theorem wbD_int (i a b : Int) : wbD (.int i) a b = (decide (a ≤ i) && decide (i ≤ b)) := rfl
@[simp] theorem wbD_non (a b : Int) : wbD .non a b = false := rfl
@[simp] theorem wbD_bl (x : Bool) (a b : Int) : wbD (.bl x) a b = false := rfl
@[simp] theorem wbD_str (x : Str) (a b : Int) : wbD (.str x) a b = false := rfl
@[simp] theorem wbD_lst (x : List D) (a b : Int) : wbD (.lst x) a b = false := rfl
@[simp] theorem wbD_tup (x : List D) (a b : Int) : wbD (.tup x) a b = false := rfl
@[simp] theorem wbD_exc (a b : Int) : wbD .exc a b = false := rfl
end Z

namespace Z
open PySem PySem.Spec L2 PyProof.Rows
/-! ## t[::-1] of a tuple -/
theorem rev_places (n : Nat) : Builtin.Slice.slicePlaces ((n : Int) - 1) (-1) (-1) = n := by
  unfold Builtin.Slice.slicePlaces
  rw [if_neg (by decide)]
  split
  · rw [show ((n : Int) - 1 - -1 - 1) / (- -1) + 1 = (n : Int) by rw [show (- -1 : Int) = 1 by decide, Int.ediv_one]; omega]
    exact Int.toNat_natCast n
  · have : n = 0 := by omega
    subst this
    rfl
theorem rev_pick (xs : Array Value) : ((List.range xs.size).filterMap fun (m : Nat) => xs[(((xs.size : Int) - 1) + (m : Int) * (-1)).toNat]?).toArray = xs.toList.reverse.toArray := by
  congr 1
  have e : (fun (m : Nat) => xs[(((xs.size : Int) - 1) + (m : Int) * (-1)).toNat]?) = (fun j => xs[j]?) ∘ fun k => xs.size - 1 - k := by
    funext m
    show xs[(((xs.size : Int) - 1) + (m : Int) * (-1)).toNat]? = xs[xs.size - 1 - m]?
    rw [show (((xs.size : Int) - 1) + (m : Int) * (-1)).toNat = xs.size - 1 - m by omega]
  rw [e, ← List.filterMap_map, PySem.W.krv_range, List.filterMap_reverse, PySem.W.krv_all]
section
variable {prog : Program} {w : World} {A : Around} {E : Value → Shared → Prop} {s : Shared}
theorem applied_rev {sl : Addr} {vl vu vs : Value} {n : Nat} {Q : Int × Int × Nat → Shared → Prop} (hs : s.heap.IsSliceOf sl vl vu vs) (pl : IsPart vl none) (pu : IsPart vu none) (ps : IsPart vs (some (-1))) (h : Q ((n : Int) - 1, -1, n) s) : wpAny (model prog w) A (Builtin.Slice.sliceApplied (.ref sl) (pure (n : Int))) Q E s := by
  obtain ⟨o, ho, hc, hd⟩ := id hs
  unfold Builtin.Slice.sliceApplied Builtin.Slice.sliceFields
  refine wpAny_bind (wpAny_bind (wpAny_field ho hd (x := vl) rfl (wpAny_bind (wpAny_field ho hd (x := vu) rfl (wpAny_bind (wpAny_field ho hd (x := vs) rfl (wpAny_pure ?_)))))))
  refine wpAny_bind (HT.slicePart_ ps ?_)
  show wpAny _ _ (if ((-1 : Int) == 0) = true then _ else _) _ _ s
  rw [if_neg (by decide)]
  refine wpAny_bind (HT.slicePart_ pl (wpAny_bind (HT.slicePart_ pu (wpAny_bind (wpAny_pure ?_)))))
  show wpAny _ _ (pure ((n : Int) - 1, (-1 : Int), Builtin.Slice.slicePlaces ((n : Int) - 1) (-1) (-1))) _ _ s
  rw [rev_places]
  exact wpAny_pure h
theorem item_rev {t sl : Addr} {items : Array Value} {vl vu vs : Value} {Q : Value → Shared → Prop} (ht : IsTup s.heap t items) (hs : s.heap.IsSliceOf sl vl vu vs) (pl : IsPart vl none) (pu : IsPart vu none) (ps : IsPart vs (some (-1)))
    (h : Q (.ref s.heap.objs.size) { s with heap := s.heap.push { cls := .type "tuple", data := .seq items.toList.reverse.toArray } }) (hsz : items.size ≤ sizeLine) : wpAny (model prog w) A (getItem (.ref t) (.ref sl)) Q E s := by
  have fit : sizeOk (.seq items.toList.reverse.toArray) := by
    show items.toList.reverse.toArray.size ≤ sizeLine
    rw [List.size_toArray, List.length_reverse, Array.length_toList]
    exact hsz
  have ty : s.TypeIs (.ref sl) "slice" := let ⟨o, ho, hc, _⟩ := hs; ⟨o, ho, hc⟩
  unfold getItem
  try with_reducible refine wpAny_holding ?_
  first | refine wpAny_bind (wpAny_pure ?_) | skip
  refine wpAny_bind (wpAny_sequenceKey ht.typeIs (by decide) (wpAny_bind (wpAny_callSpecial?_slot (name := Str.ofString "__getitem__") ht.typeIs slot_tuple_getitem (wpAny_call_entry slot_tuple_getitem ht.typeIs PyProof.Rows.entry_tuple_getitem ?_ (PyProof.Rows.args_tuple_getitem _ _)))))
  refine wpAny_bind (m := Builtin.Tuple.tupleItemsOf (.ref t)) (PyProof.Rows.tupleItemsOf_ ht (wpAny_bind (wpAny_typeOf ty ?_)))
  rw [if_pos (by decide)]
  refine wpAny_bind (applied_rev hs pl pu ps ?_)
  show wpAny _ _ (if (((items.size : Int) - 1) == 0 && (-1 : Int) == 1 && items.size == items.size) = true then _ else _) _ _ s
  rw [if_neg (by simp), rev_pick]
  first
    | exact wpAny_bind (m := Builtin.Tuple.tupleExact _) (wpAny_newObj_type (wpAny_pure ⟨_, rfl, wpAny_pure h⟩) fit)
    | exact wpAny_bind (m := Builtin.Tuple.tupleExact _) (wpAny_newObj_type (wpAny_bind (wpAny_pure (wpAny_pure ⟨_, rfl, wpAny_pure h⟩))) fit)
    | exact wpAny_bind (wpAny_bind (m := Builtin.Tuple.tupleExact _) (wpAny_newObj_type (wpAny_pure (wpAny_pure ⟨_, rfl, wpAny_pure h⟩)) fit))
    | exact wpAny_bind (wpAny_bind (m := Builtin.Tuple.tupleExact _) (wpAny_newObj_type (wpAny_pure ⟨_, rfl, wpAny_pure h⟩) fit))
end
section
variable {X : Cx} {W : WX}
def tRvT (K : PySem.W.Frag) (te : TE) : TE := fun σ H Q => te σ H fun x H1 => ∃ a xs, x = .ref a ∧ SqT K H1 a xs ∧ ∀ p, H1 p = none → Q (.ref p) (upd H1 p (.tup xs.reverse))
theorem pe_rvT {e : Expr} {te : TE} {k : Nat} {p1 p2 p3 pos : Pos} (he : PE X e te) : PE X (.Subscript e (.Slice none none (some (.UnaryOp .USub (.Constant (.int 1) k p1) p2)) p3) pos) (tRvT X.K te) := by
  refine ⟨fun pins s σ H Q I h => Subscript_ (thn (he.run pins s σ H _ I h) fun v s1 ⟨x, H1, I1, r1, a, xs, ex, hx, q⟩ => ?_)⟩
  subst ex
  cases r1
  have st : PO X (some (.UnaryOp .USub (.Constant (.int 1) k p1) p2)) (tPart (tUn (rU fun i => .int (-i)) (tC (.int 1)))) := po_some (pe_un un_neg pe_int)
  refine wpAny_Slice (thn (po_none.run pins s1 σ H1 (fun o G => o = none ∧ G = H1) I1 ⟨rfl, rfl⟩) fun vl s2 ⟨l, H2, I2, pl, el, e2⟩ => ?_)
  subst el e2
  refine thn (po_none.run pins s2 σ H2 (fun o G => o = none ∧ G = H2) I2 ⟨rfl, rfl⟩) fun vu s3 ⟨u, H3, I3, pu, eu, e3⟩ => ?_
  subst eu e3
  refine thn (st.run pins s3 σ H3 (fun o G => o = some (-1) ∧ G = H3) I3 ⟨1, rfl, -1, rfl, rfl, rfl⟩) fun vs s4 ⟨o, H4, I4, ps, eo, e4⟩ => ?_
  subst eo e4
  have I5 : Inv X pins σ H4 { s4 with heap := s4.heap.push { cls := .type "slice", data := .fields #[vl, vu, vs] } } := I4.kept (t' := s4.toks) fun b ob q => Heap.get?_push_of_some _ q
  obtain ⟨its, r, ht, hz⟩ := I5.tuple hx
  have hlen := r.length
  show wpAny (model X.prog X.w) X.A (subscriptTail e (.Slice none none (some (.UnaryOp .USub (.Constant (.int 1) k p1) p2)) p3) (.ref a) (.ref s4.heap.objs.size)) (EP X pins σ Q) X.xe { s4 with heap := s4.heap.push { cls := .type "slice", data := .fields #[vl, vu, vs] } }
  refine tail_any (ops := [.ref a, .ref s4.heap.objs.size]) ht.typeIs (slot_tuple_getitem.lookup) ?_ (by with_unfolding_all rfl)
  refine item_rev ht (Heap.IsSliceOf.new _ vl vu vs) pl pu ps ?_ (by rw [List.size_toArray]; omega)
  exact ⟨.ref _, _, I5.laid (t' := s4.toks) (o := .tup xs.reverse) (fun b ob q => Heap.get?_push_of_some _ q) (Nat.le_refl _) ⟨by rw [List.length_reverse]; exact hz, _, r.reverse, IsTup.new _ _⟩, rfl, q _ (I5.hok.fresh (Nat.le_refl _))⟩
theorem RpA.rev {K : PySem.W.Frag} {F : Hp} : ∀ {ds : List D} {vs : List V}, RpA K F ds vs → RpA K F ds.reverse vs.reverse
  | [], _, h => by rw [show _ = [] from h]; rfl
  | d :: ds, _, h => by
    obtain ⟨x, r, rfl, h1, h2⟩ := h
    rw [List.reverse_cons, List.reverse_cons]
    exact (RpA.rev h2).append ⟨x, [], rfl, h1, rfl⟩
def grev : D → Option D
  | .tup ds => some (.tup ds.reverse)
  | _ => none
theorem ev_revT {e : Expr} {m : M D} {k : Nat} {p1 p2 p3 pos : Pos} (h : EV X W e m) : EV X W (.Subscript e (.Slice none none (some (.UnaryOp .USub (.Constant (.int 1) k p1) p2)) p3) pos) (mun grev m) := by
  refine peW (pe_rvT h) fun σ H Q ⟨F, fp, ρ, r, o⟩ => ⟨F, fp, ρ, r, Out.bind o fun d ρ1 F1 H1 fp1 x _ r1 s1 p1 o1 => ?_⟩
  cases d with
  | tup ds =>
    obtain ⟨a, xs, rfl, h1, h2⟩ := p1
    refine ⟨a, xs, rfl, Same.sqt r1.sub h1, fun b hb => ?_⟩
    obtain ⟨r2, s2⟩ := r1.ext (Ext.one (o := .tup xs.reverse) r1.sub hb)
    exact o1 _ _ fp1 (.ref b) r2 s2 ⟨b, _, rfl, .inl (.inl upd_same), RpA.rev (RpA.mono s2.sub ds xs h2)⟩
  | _ => exact o1.elim
end
/-! ## written tuples, many times -/
def rRepB (K : PySem.W.Frag) : R2 := fun x y H Q => ∃ l m ys, x = .ref l ∧ y = .int m ∧ SqT K H l ys ∧ ys ≠ [] ∧ 2 ≤ m ∧ m ≤ 10000 ∧ ys.length ≤ 100 ∧ ∀ p, H p = none → Q (.ref p) (upd H p (.tup (List.replicate m.toNat ys).flatten))
theorem op_repB {X : Cx} : OpR X (binaryOp .Mult) (rRepB X.K) := by
  intro pins s σ H x y v w Q I rx ry ⟨l, m, ys, ex, ey, hT, hne, h1, h2, hz, q⟩
  subst ex ey
  cases rx
  obtain ⟨tk, rfl⟩ := ry
  obtain ⟨us, r, ⟨⟨cl, dd, data, sl⟩, ho, hcl, n, hdt⟩, hsz⟩ := I.tuple hT
  simp only at hcl hdt
  subst hcl hdt
  have e1 : us.length = ys.length := r.length.symm
  have e2 : us.toArray.size = ys.length := by rw [List.size_toArray, e1]
  have e3 : us.toArray.isEmpty = false := by
    cases us with
    | nil => exact absurd (List.eq_nil_of_length_eq_zero e1.symm) hne
    | cons a b => rfl
  have e4 : m.toNat * ys.length ≤ 10000 * 100 := Nat.mul_le_mul (by omega) hz
  have e5 : ((us.toArray.size : Nat) : Int) * m ≤ 1000000 := by
    rw [e2, Int.mul_comm]
    have : ((m.toNat * ys.length : Nat) : Int) ≤ 1000000 := by omega
    rw [Int.natCast_mul, Int.toNat_of_nonneg (by omega)] at this
    exact this
  have e6 : (List.replicate m.toNat us).flatten.length ≤ sizeLine := by
    rw [PyProof.Rows.lm_len_rep_flat, e1, sizeLine_eq]
    omega
  have b0 : (decide (m < -(2 ^ 63)) || decide (m ≥ 2 ^ 63)) = false := by
    rw [Bool.or_eq_false_iff]
    exact ⟨decide_eq_false (by omega), decide_eq_false (by omega)⟩
  have b1 : (us.toArray.isEmpty || m == 1) = false := by
    rw [Bool.or_eq_false_iff]
    exact ⟨e3, beq_eq_false_iff_ne.mpr (by omega)⟩
  have b2 : (decide (m ≤ 0) || us.toArray.isEmpty) = false := by
    rw [Bool.or_eq_false_iff]
    exact ⟨decide_eq_false (by omega), e3⟩
  have b4 : Builtin.Tuple.tupleTooMany (((us.toArray.size : Nat) : Int) * m) = false := decide_eq_false (by rw [sizeLine_eq]; omega)
  refine wpAny_binaryOp_repeat_ref (T := "tuple") (U := "int") (by decide) ⟨_, ho, rfl⟩ (fun s' => typeIs_int s' m tk) noFill_tuple_mul F.fills_int_mul F.slot_int_rmul repeat_tuple F.slot_int_index.lookup (call_meets F.slot_int_rmul (typeIs_int s m tk) F.entry_int_rmul (F.args_int_rmul_2 _ _) (int_rmul_tuple m tk l us.toArray n dd sl) ⟨ho, rfl, ⟨_, ho, rfl⟩, call_meets F.slot_tuple_mul ⟨_, ho, rfl⟩ F.entry_tuple_mul (F.args_tuple_mul_2 _ _) (tuple_mulW l us.toArray n dd sl m tk b0 b1 b2 (by omega) b4 (by rw [size_rep, List.size_toArray]; exact e6)) ⟨ho, ?_⟩⟩)
  rw [size_rep]
  exact ⟨.ref s.heap.objs.size, _, I.laid (t' := s.toks) (o := .tup (List.replicate m.toNat ys).flatten) (fun b ob q => Heap.get?_push_of_some _ q) (Nat.le_refl _) ⟨by rw [PyProof.Rows.lm_len_rep_flat, sizeLine_eq]; omega, _, r.rep m.toNat, IsTup.new _ _⟩, rfl, q _ (I.hok.fresh (Nat.le_refl _))⟩
def mrepT (k : Int) (ms : M (List D)) : M D := mbind ms fun ds => mopt (if ds ≠ [] ∧ ds.length ≤ 100 ∧ 2 ≤ k ∧ k ≤ 10000 then some (.tup (List.replicate k.toNat ds).flatten) else none)
theorem ev_repT {X : Cx} {W : WX} {es : List Expr} {k : Int} {i j : Nat} {pos p2 p3 : Pos} {ms : M (List D)} (h : EA X W es ms) : EV X W (.BinOp (.Tuple es i pos) .Mult (.Constant (.int k) j p2) p3) (mrepT k ms) := by
  refine peW (pe_op op_repB (pe_tup h) pe_int) fun σ H Q ⟨F, fp, ρ, r, o⟩ => ⟨F, fp, ρ, r, Out.bind o fun ds ρ1 F1 H1 fp1 vs _ r1 s1 p o1 => ?_⟩
  by_cases hl : ds ≠ [] ∧ ds.length ≤ 100 ∧ 2 ≤ k ∧ k ≤ 10000
  · rw [if_pos hl] at o1
    have hlen := RpA.length p
    refine ⟨by rw [← hlen, sizeLine_eq]; have := hl.2.1; omega, fun a ha => ?_⟩
    refine ⟨a, k, vs, rfl, rfl, .inl (.inl upd_same), fun z => hl.1 (List.eq_nil_of_length_eq_zero (by rw [hlen, z]; rfl)), hl.2.2.1, hl.2.2.2, by rw [← hlen]; exact hl.2.1, fun b hb => ?_⟩
    have x1 := Ext.one (o := .tup vs) r1.sub ha
    have x2 := x1.trans (Ext.one (o := .tup (List.replicate k.toNat vs).flatten) x1.inn hb)
    obtain ⟨r2, s2⟩ := r1.ext x2
    exact o1 _ _ fp1 (.ref b) r2 s2 ⟨b, _, rfl, .inl (.inl upd_same), RpA.rep (RpA.mono s2.sub ds vs p) k.toNat⟩
  · rw [if_neg hl] at o1; exact o1.elim
@[simp] theorem mrepT_eq (k : Int) (ms : M (List D)) : mrepT k ms = mbind ms fun ds => mopt (if ds ≠ [] ∧ ds.length ≤ 100 ∧ 2 ≤ k ∧ k ≤ 10000 then some (.tup (List.replicate k.toNat ds).flatten) else none) := rfl
@[simp] theorem grev_tup (ds : List D) : grev (.tup ds) = some (.tup ds.reverse) := rfl
end Z

namespace Z
open PySem PySem.Spec L2
section
variable {X : Cx} {W : WX}
/-- f() -/
theorem eo_call0 {k : Nat} {x : Str} {st : Stmt} {f : List O → FR} {p pos : Pos} (h : FnS X.prog X.w X.K X.mg X.base k x st [] f) (hr : Room k X.A) (hgd : X.A.guards = some []) (tk : Takes X W) (hg : Gl X x) (hdb : (x == ("__debug__" : Str)) = false := by decide) : EO X W (.Call (.Name x p) [] [] pos) (mcallN 0 f (mret [])) := by
  obtain ⟨a, fd, qual, hm, Fu, hb, F⟩ := h.ex
  refine ⟨fun pins s σ H Q I ⟨FF, fp, ρ, r, o⟩ => ?_⟩
  refine wpAny_Call_Name_kw (ld_glob I hg hm ?_ hdb)
  have hh : Out X.K W σ FF H fp (rrR X.K σ) (fun vs H1 => vs.length = ([] : List Str).length ∧ spF X.K ([] : List Str).length f vs H1 Q (fun c d H => W c d σ H)) ((mret [] : M (List (Sum D Nat))) ρ) := Out.bindO o fun l ρ1 F1 H1 fp1 vs _ r1 s1 p1 o1 => by
    by_cases hl : l.length = 0
    · rw [if_pos hl] at o1
      exact ⟨(ArR.len p1).trans hl, call_sp r1 p1 ((ArR.len p1).trans hl) o1⟩
    · rw [if_neg hl] at o1; exact o1.elim
  have q0 := hh FF H fp [] r Stp.refl rfl
  refine PySem.W.callWith_K0 I.kIn Fu.kp ?_
  have b0 := hb s [] I.kIn rfl
  exact wp_callG F hr hgd tk I b0 .nil q0.2
end
end Z

namespace Z
open PySem PySem.Spec L2
/-! ## x.index(y) of a list of data -/
def fstIx (f : PyData → Bool) : List PyData → Option Nat
  | [] => none
  | p :: ps => if f p = true then some 0 else (fstIx f ps).map (· + 1)
theorem fstIx_spec {f : PyData → Bool} : ∀ {ps : List PyData} {j : Nat}, fstIx f ps = some j → ∃ z, ps[j]? = some z ∧ f z = true ∧ ∀ (m : Nat) (z' : PyData), m < j → ps[m]? = some z' → f z' = false
  | [], _, h => by cases h
  | p :: ps, j, h => by
    unfold fstIx at h
    split at h
    · rename_i hp
      cases h
      exact ⟨p, rfl, hp, fun m z' hm => absurd hm (Nat.not_lt_zero _)⟩
    · rename_i hp
      cases q : fstIx f ps with
      | none => rw [q] at h; cases h
      | some i =>
        rw [q] at h
        cases h
        obtain ⟨z, h1, h2, h3⟩ := fstIx_spec q
        refine ⟨z, by simpa using h1, h2, fun m z' hm e => ?_⟩
        cases m with
        | zero =>
          cases e
          simpa using hp
        | succ m =>
        have hm : m + 1 < i + 1 := hm
        exact h3 m z' (by omega) (by simpa using e)
def gidx : D → List D → Option D
  | .lst ds, [b] => (pyOk (.lst ds)).bind fun p => (pyOk b).bind fun q => match p with
    | .list ps => (fstIx (fun z => PyData.eqv z q) ps).map fun j => .int (j : Nat)
    | _ => none
  | _, _ => none
def midx (m : M D) (ms : M (List D)) : M D := mbind m fun a => match a with
  | .lst ds => mbind ms fun bs => mopt (gidx (.lst ds) bs)
  | _ => fun _ => .bad
section
variable {X : Cx} {W : WX}
theorem ev_index {o e : Expr} {apos cpos : Pos} {m : M D} {ms : M (List D)} (hu : X.A.units + 65 < cLine) (ho : EV X W o m) (he : EA X W [e] ms)
    (hbase : attributeBase o "index" X.env (eval o X.env) = eval o X.env := by rfl)
    (hfew : ((backTo cpos (starEach [e] X.env)).all (fun x => !x.1) && (backToKw cpos (keywordEach [] X.env)).all (fun x => x.1.isSome)
      && decide ([e].length + ([] : List Keyword).length + (if ([] : List Keyword).isEmpty then 0 else 1) < 30)) = true := by rfl)
    (hline : (apos.endLine == cpos.line) = true := by rfl) (hst : starEach [e] X.env = (false, eval e X.env) :: starEach [] X.env := by rfl) (hplain : (backTo cpos (starEach [] X.env)).any (·.1) = false := by rfl) :
    EV X W (.Call (.Attribute o "index" apos) [e] [] cpos) (midx m ms) := by
  refine peW (pe_bm PySem.F.plainAttrs_list PySem.F.slot_list_index PySem.F.type_list_index (mt_indexD hu) ho he hbase hfew hline hst hplain) fun σ H Q ⟨F, fp, ρ, r, o⟩ => ⟨F, fp, ρ, r, Out.bind o fun d ρ1 F1 H1 fp1 x _ r1 s1 p1 o1 => ?_⟩
  cases d with
  | lst ds =>
    have p1' := p1
    obtain ⟨a, xs, rfl, h1, h2⟩ := p1
    refine ⟨.inl ⟨rfl, xs, Same.sql r1.sub h1⟩, F1, fp1, ρ1, r1, Out.bind o1 fun bs ρ2 F2 H2 fp2 vs _ r2 s2 p2 o2 => ?_⟩
    cases bs with
    | nil => exact o2.elim
    | cons b bs =>
      cases bs with
      | cons c bs => exact o2.elim
      | nil =>
        obtain ⟨v, vr, rfl, hv, e2⟩ := p2
        rw [show vr = [] from e2]
        have o2 : Out X.K W σ F2 H2 fp2 (rrD X.K) Q (mopt ((pyOk (.lst ds)).bind fun p => (pyOk b).bind fun q => match p with
          | .list ps => (fstIx (fun z => PyData.eqv z q) ps).map fun j => D.int (j : Nat)
          | _ => none) ρ2) := o2
        cases q1 : pyOk (.lst ds) with
        | none => rw [q1] at o2; exact o2.elim
        | some p =>
          cases q2 : pyOk b with
          | none => rw [q1, q2] at o2; exact o2.elim
          | some q =>
            rw [q1, q2] at o2
            obtain ⟨k1, k2⟩ := pyOk_of q1
            obtain ⟨k3, k4⟩ := pyOk_of q2
            cases p with
            | list ps =>
              have o2 : Out X.K W σ F2 H2 fp2 (rrD X.K) Q (mopt ((fstIx (fun z => PyData.eqv z q) ps).map fun j => D.int (j : Nat)) ρ2) := o2
              cases q3 : fstIx (fun z => PyData.eqv z q) ps with
              | none => rw [q3] at o2; exact o2.elim
              | some j =>
                rw [q3] at o2
                obtain ⟨z, z1, z2, z3⟩ := fstIx_spec q3
                exact ⟨a, v, q, ps, j, z, rfl, rfl, Rp.dp _ _ _ (Rp.mono (s2.sub.trans r2.sub) _ _ p1') k1, Rp.dp _ _ _ (Rp.mono r2.sub _ _ hv) k3, k2, k4, z1, z2, z3, o2 F2 H2 fp2 (.int (j : Nat)) r2 Stp.refl rfl⟩
            | _ => exact o2.elim
  | _ => exact o1.elim
end
/-! ## x.pop(e), x an own list -/
def kpop (i : Nat) (d : D) : M D := fun ρ => match slotOf ρ i, d with
  | some (.lst os), .int j => if 0 ≤ j ∧ j < os.length ∧ os.length < 2 ^ 62 then (match os[j.toNat]? with
    | some (.frz d) => .ok d (ρ.set i (some (.lst (os.eraseIdx j.toNat))))
    | _ => .bad) else .bad
  | _, _ => .bad
def mpop (i : Nat) (m : M D) : M D := fun ρ => match slotOf ρ i with
  | some (.lst _) => mbind m (kpop i) ρ
  | _ => .bad
theorem ROA.erase {K : PySem.W.Frag} {F H : Hp} : ∀ {os : List O} {fp : List Addr} {vs : List V} (n : Nat), ROA K F H os fp vs → ∃ g, g.Sublist fp ∧ ROA K F H (os.eraseIdx n) g (vs.eraseIdx n)
  | [], fp, _, _, h => ⟨fp, List.Sublist.refl _, by rw [h.2]; exact ⟨h.1, rfl⟩⟩
  | o :: os, _, _, 0, h => by
    obtain ⟨f1, f2, x, r, rfl, rfl, h1, h2⟩ := h
    exact ⟨f2, List.sublist_append_right _ _, h2⟩
  | o :: os, _, _, n + 1, h => by
    obtain ⟨f1, f2, x, r, rfl, rfl, h1, h2⟩ := h
    obtain ⟨g, q1, q2⟩ := ROA.erase n h2
    exact ⟨f1 ++ g, List.Sublist.append_left q1 f1, ⟨f1, g, x, _, rfl, rfl, h1, q2⟩⟩
theorem seqIx {j : Int} {n : Nat} (h0 : 0 ≤ j) (h : j < n) : seqIndex? j n = some j.toNat := by
  unfold seqIndex?
  have h1 : ¬ j < 0 := by omega
  simp [h1, h0, h]
section
variable {X : Cx} {W : WX}
theorem ev_pop (i : Nat) {y : Str} {p2 apos cpos : Pos} {e : Expr} {m : M D} (he : EV X W e m) (hN : X.N[i]? = some y) (hvis : Vis X.env.scope y)
    (hd2 : (y == ("__debug__" : Str)) = false := by decide) (hcd : (y == ("__classdict__" : Str)) = false := by decide) (hst : starEach [e] X.env = (false, eval e X.env) :: starEach [] X.env := by rfl)
    (hbase : attributeBase (.Name y p2) "pop" X.env (eval (.Name y p2) X.env) = eval (.Name y p2) X.env := by rfl)
    (hfew : ((backTo cpos (starEach [e] X.env)).all (fun x => !x.1) && (backToKw cpos (keywordEach [] X.env)).all (fun x => x.1.isSome)
      && decide ([e].length + ([] : List Keyword).length + (if ([] : List Keyword).isEmpty then 0 else 1) < 30)) = true := by rfl)
    (hline : (apos.endLine == cpos.line) = true := by rfl) (hplain : (backTo cpos (starEach [] X.env)).any (·.1) = false := by rfl) :
    EV X W (.Call (.Attribute (.Name y p2) "pop" apos) [e] [] cpos) (mpop i m) := by
  refine peW (pe_bm PySem.F.plainAttrs_list PySem.F.slot_list_pop PySem.F.type_list_pop mt_popAt (pe_var hN hvis hd2 hcd) (pa_cons he pa_nil hst) hbase hfew hline hst hplain) fun σ H Q ⟨F, fp, ρ, r, o⟩ => ?_
  unfold mpop at o
  cases e0 : slotOf ρ i with
  | none => simp only [e0] at o; exact o.elim
  | some t =>
    simp only [e0] at o
    cases t with
    | lst os0 =>
      simp only at o
      obtain ⟨v, f1, f2, g1, g2, _, _⟩ := Slots.take ρ fp σ i _ r.sl (slotOf_some e0)
      obtain ⟨a, xs, fr, rfl, rfl, hH, hA⟩ := g2
      refine ⟨.ref a, g1, .inl ⟨rfl, xs, .inl (.inl hH)⟩, F, fp, ρ, r, Out.bind o fun d ρ1 F1 H1 fp1 w _ r1 s1 p1 o1 => ?_⟩
      unfold kpop at o1
      split at o1
      · rename_i os j e1 em
        split at o1
        · rename_i hj
          split at o1
          · rename_i d' hd'
            obtain ⟨a', xs', ea, hH', hl, fp2, r2, s2⟩ := slot_write (f := fun ys => ys.eraseIdx j.toNat) (os' := os.eraseIdx j.toNat) r1 (slotOf_some e1) g1 fun ys fr' hB => ROA.erase j.toNat hB
            cases ea
            obtain ⟨v2, k1, k2, k3, k4, _, _⟩ := Slots.take ρ1 fp1 σ i _ r1.sl (slotOf_some e1)
            rw [g1] at k3
            cases k3
            obtain ⟨b, zs, fr2, eb, _, hH2, hA2⟩ := k4
            cases eb
            rw [hH'] at hH2
            cases hH2
            obtain ⟨w', e3, e4⟩ := ROA.at hA2 hd'
            exact ⟨a, xs', j, j.toNat, w', rfl, by rw [show w = V.int j from p1], hH', by omega, by omega, seqIx hj.1 (by omega), e3, o1 F1 _ fp2 w' r2 s2 e4⟩
          · exact o1.elim
        · exact o1.elim
      · exact o1.elim
    | frz _ => simp only at o; exact o.elim
    | dct _ => simp only at o; exact o.elim
end
end Z

namespace Z
open PySem PySem.Spec L2
/-! ## sorted, of pairs of whole numbers -/
section
variable {α : Type} {lt : α → α → Bool}
def insS (lt : α → α → Bool) (a : α) : List α → List α
  | [] => [a]
  | b :: l => if lt b a = true then b :: insS lt a l else a :: b :: l
def isort (lt : α → α → Bool) : List α → List α
  | [] => []
  | a :: l => insS lt a (isort lt l)
theorem insS_stb (O : SrtO.Swo lt) (a : α) : ∀ l, SrtO.Stb lt (insS lt a l) (a :: l)
  | [] => SrtO.Stb.refl _
  | b :: l => by
    unfold insS
    split
    · rename_i h
      have h1 : SrtO.Stb lt ([b] ++ insS lt a l) ([b] ++ (a :: l)) := SrtO.Stb.app (SrtO.Stb.refl _) (insS_stb O a l)
      have h2 : SrtO.Stb lt (([b] ++ [a]) ++ l) (([a] ++ [b]) ++ l) := SrtO.Stb.app (SrtO.Stb.swap O (A := [b]) (B := [a]) fun x hx y hy => by rw [List.mem_singleton.1 hx, List.mem_singleton.1 hy]; exact h) (SrtO.Stb.refl _)
      exact h1.trans h2
    · exact SrtO.Stb.refl _
theorem isort_stb (O : SrtO.Swo lt) : ∀ l, SrtO.Stb lt (isort lt l) l
  | [] => SrtO.Stb.refl _
  | a :: l => (insS_stb O a (isort lt l)).trans (SrtO.Stb.app (a := [a]) (b := [a]) (SrtO.Stb.refl _) (isort_stb O l))
theorem insS_srtd (O : SrtO.Swo lt) (a : α) : ∀ l, SrtO.Srtd lt l → SrtO.Srtd lt (insS lt a l)
  | [], _ => SrtO.srtd_one a
  | b :: l, h => by
    have ht := (List.pairwise_cons.mp h)
    unfold insS
    split
    · rename_i hb
      refine List.pairwise_cons.mpr ⟨fun y hy => ?_, insS_srtd O a l ht.2⟩
      rcases List.mem_cons.mp ((insS_stb O a l).perm.mem_iff.mp hy) with e | hy
      · rw [e]
        exact O.asym b a hb
      · exact ht.1 y hy
    · rename_i hb
      have hb : lt b a = false := by simpa using hb
      refine List.pairwise_cons.mpr ⟨fun y hy => ?_, h⟩
      exact SrtO.Swo.le_all O h hb y hy
theorem isort_srtd (O : SrtO.Swo lt) : ∀ l, SrtO.Srtd lt (isort lt l)
  | [] => List.Pairwise.nil
  | a :: l => insS_srtd O a _ (isort_srtd O l)
theorem sorted_uniq (O : SrtO.Swo lt) {ys xs : List α} (h : SrtO.Srtd lt ys) (hb : SrtO.Stb lt ys xs) : ys = isort lt xs :=
  SrtO.stb_uniq O h (isort_srtd O xs) ⟨hb.perm.trans (isort_stb O xs).perm.symm, fun x => (hb.cls x).trans ((isort_stb O xs).cls x).symm⟩
end
theorem swo_pairs : SrtO.Swo SrtO.lexB := by
  refine ⟨fun x y h => ?_, fun x y z h1 h2 => ?_⟩
  · have a := SrtO.lexB_iff.mp h
    refine SrtO.lexB_no.mpr ?_
    omega
  · have a := SrtO.lexB_no.mp h1
    have b := SrtO.lexB_no.mp h2
    refine SrtO.lexB_no.mpr ?_
    omega
/-- sorted, the pairs anywhere -/
def rSrtA (K : PySem.W.Frag) : List V → Hp → VK → Prop := fun vs H Q => ∃ (a : Addr) (xs : List V) (k : V → Int × Int), vs = [V.ref a] ∧ SqL K H a xs ∧ (∀ x ∈ xs, ∃ t, x = V.ref t ∧ SqT K H t [.int (k x).1, .int (k x).2]) ∧
  ∀ ys p, SrtO.Srtd (ltP k) ys → SrtO.Stb (ltP k) ys xs → H p = none → Q (.ref p) (upd H p (.lst ys))
theorem cr_srtA {X : Cx} : CallR X (.builtin "sorted") (rSrtA X.K) := by
  intro pins s σ H vs us Q I r ⟨a, xs, k, ev, hs, hx, q⟩
  subst ev
  obtain ⟨its, rv, hl, hz⟩ := I.list hs
  obtain ⟨u, rfl, ru⟩ := vals1 r
  obtain rfl : u = Value.ref a := ru
  obtain ⟨e1, e2⟩ := refs_back rv fun x m => let ⟨t, e, _⟩ := hx x m; ⟨t, e⟩
  refine SrtO.sorted_pairsO (k := fun u => k (backV u)) hl.isList (by rw [← rv.length]; exact hz) (fun v hv => ?_) fun h' d out h1 h2 kp hd hn => ?_
  · obtain ⟨t, rfl⟩ := e2 v hv
    obtain ⟨t', e, ht⟩ := hx (V.ref t) (by rw [e1]; exact List.mem_map.mpr ⟨_, hv, rfl⟩)
    cases e
    obtain ⟨its2, r2, ⟨o, ho, hc, n, hd⟩, _⟩ := I.tuple ht
    obtain ⟨u1, u2, rfl, ⟨t1, rfl⟩, ⟨t2, rfl⟩⟩ := vals2 r2
    exact ⟨t, o, t1, t2, n, rfl, ho, hc, hd⟩
  · have h3 : ∀ u ∈ out, ∃ a, u = Value.ref a := fun u hu => e2 u (h2.perm.mem_iff.mp hu)
    obtain ⟨n, hn⟩ := hn
    have hb : SrtO.Stb (ltP k) (out.map backV) xs := by
      rw [e1]
      exact SrtO.Stb.map (ltP_swo k) backV h2
    exact ⟨.ref d, upd H d (.lst (out.map backV)), I.laid (t' := s.toks) kp hd ⟨by rw [hb.len]; exact hz, out, n, vals_back h3, hn⟩, rfl, q _ d (SrtO.srtd_map h1) hb (I.hok.fresh hd)⟩
def pairsD : List D → Option (List (Int × Int))
  | [] => some []
  | .tup [.int a, .int b] :: r => (pairsD r).map ((a, b) :: ·)
  | _ => none
theorem pairsD_cards : ∀ l : List (Int × Int), pairsD (l.map cardD) = some l
  | [] => rfl
  | z :: l => by
    show (pairsD (l.map cardD)).map ((z.1, z.2) :: ·) = _
    rw [pairsD_cards l]; rfl
def gsorted : List D → Option D
  | [.lst ds] => (pairsD ds).map fun ps => .lst ((isort SrtO.lexB ps).map cardD)
  | _ => none
@[simp] theorem gsorted_cards (l : List (Int × Int)) : gsorted [.lst (l.map cardD)] = some (.lst ((isort SrtO.lexB l).map cardD)) := by
  show (pairsD (l.map cardD)).map _ = _
  rw [pairsD_cards]; rfl
theorem pairsD_inv : ∀ {ds : List D} {ps : List (Int × Int)}, pairsD ds = some ps → ds = ps.map cardD
  | [], _, h => by cases h; rfl
  | d :: r, ps, h => by
    unfold pairsD at h
    split at h
    · rename_i e; cases e
    · rename_i a b r' e
      cases e
      cases q : pairsD r with
      | none => rw [q] at h; cases h
      | some ms =>
        rw [q] at h
        cases h
        rw [pairsD_inv q]
        rfl
    · cases h
theorem RpA.all {K : PySem.W.Frag} {F : Hp} : ∀ {ps : List (Int × Int)} {vs : List V}, RpA K F (ps.map cardD) vs → ∀ x ∈ vs, ∃ z : Int × Int, Rp K F (cardD z) x
  | [], _, h, x, hx => by rw [show _ = [] from h] at hx; cases hx
  | p :: ps, _, h, x, hx => by
    obtain ⟨v, r, rfl, h1, h2⟩ := h
    rcases List.mem_cons.1 hx with rfl | hx
    · exact ⟨p, h1⟩
    · exact RpA.all h2 x hx
theorem Rp.pair {K : PySem.W.Frag} {F : Hp} {z : Int × Int} {x : V} (h : Rp K F (cardD z) x) : ∃ t, x = .ref t ∧ SqT K F t [.int z.1, .int z.2] := by
  obtain ⟨t, xs, rfl, h1, v1, r1, rfl, h2, v2, r2, rfl, h3, h4⟩ := h
  rw [show v1 = V.int z.1 from h2, show v2 = V.int z.2 from h3, show r2 = [] from h4] at h1
  exact ⟨t, rfl, h1⟩
theorem Rp.of_pair {K : PySem.W.Frag} {F : Hp} {z : Int × Int} {t : Addr} (h : SqT K F t [.int z.1, .int z.2]) : Rp K F (cardD z) (.ref t) := ⟨t, _, rfl, h, _, _, rfl, rfl, _, _, rfl, rfl, rfl⟩
open Classical in
noncomputable def pairOf (K : PySem.W.Frag) (F : Hp) (x : V) : Int × Int := if h : ∃ z : Int × Int, Rp K F (cardD z) x then choose h else (0, 0)
theorem pairOf_spec {K : PySem.W.Frag} {F : Hp} {x : V} (h : ∃ z : Int × Int, Rp K F (cardD z) x) : Rp K F (cardD (pairOf K F x)) x := by
  unfold pairOf
  rw [dif_pos h]
  exact Classical.choose_spec h
/-- sorted(xs): a new list of the pairs -/
def rSortN (K : PySem.W.Frag) : List V → Hp → VK → Prop := fun vs H Q => ∃ F es ps, Same F H ∧ RpA K F [.lst es] vs ∧ pairsD es = some ps ∧ ∀ b ys, H b = none → RpA K F ((isort SrtO.lexB ps).map cardD) ys → Q (.ref b) (upd H b (.lst ys))
theorem bi_sortedN {X : Cx} : CallR X (.builtin "sorted") (rSortN X.K) := by
  intro pins s σ H xs us Q I rx ⟨F, es, ps, s1, p, e1, q⟩
  rw [pairsD_inv e1] at p
  obtain ⟨v, r, rfl, ⟨a, vs, rfl, h1, h2⟩, h3⟩ := p
  rw [show r = [] from h3] at rx
  have sp : ∀ x ∈ vs, Rp X.K F (cardD (pairOf X.K F x)) x := fun x hx => pairOf_spec (RpA.all h2 x hx)
  have km : vs.map (pairOf X.K F) = ps := by
    clear rx e1 h3 sp h1 q
    induction ps generalizing vs with
    | nil => rw [show vs = [] from h2]; rfl
    | cons z ps ih =>
      obtain ⟨x, r, rfl, g1, g2⟩ := h2
      rw [List.map_cons, ih r g2]
      obtain ⟨t, e1, t1⟩ := g1.pair
      obtain ⟨t', e2, t2⟩ := (pairOf_spec ⟨z, g1⟩).pair
      subst e1
      cases e2
      have := I.tuple_inj (Same.sqt s1 t2) (Same.sqt s1 t1)
      injection this with k1 k2
      injection k2 with k2
      injection k1 with k1
      injection k2 with k2
      congr 1
      exact Prod.ext k1 k2
  refine cr_srtA pins s σ H _ us Q I rx ⟨a, vs, pairOf X.K F, rfl, Same.sql s1 h1, fun x hx => ?_, fun ys b srt stb hb => ?_⟩
  · obtain ⟨t, e, h⟩ := (sp x hx).pair
    exact ⟨t, e, Same.sqt s1 h⟩
  · have u := sorted_uniq swo_pairs (SrtO.srtd_map (f := pairOf X.K F) srt) (SrtO.Stb.map swo_pairs (pairOf X.K F) stb)
    rw [km] at u
    refine q b ys hb ?_
    rw [← u, List.map_map]
    have all : ∀ y ∈ ys, Rp X.K F (cardD (pairOf X.K F y)) y := fun y hy => sp y (stb.perm.mem_iff.mp hy)
    clear u stb srt hb
    induction ys with
    | nil => rfl
    | cons y ys ih => exact ⟨y, ys, rfl, all y List.mem_cons_self, ih fun z hz => all z (List.mem_cons_of_mem _ hz)⟩
theorem gsorted_inv {ds : List D} {d : D} (e : gsorted ds = some d) : ∃ es ps, ds = [.lst es] ∧ pairsD es = some ps ∧ d = .lst ((isort SrtO.lexB ps).map cardD) := by
  cases ds with
  | nil => cases e
  | cons d0 dr =>
    cases d0 with
    | lst es =>
      cases dr with
      | cons _ _ => cases e
      | nil =>
        have e : (pairsD es).map (fun ps => D.lst ((isort SrtO.lexB ps).map cardD)) = some d := e
        cases e1 : pairsD es with
        | none => rw [e1] at e; cases e
        | some ps => rw [e1] at e; cases e; exact ⟨es, ps, rfl, e1, rfl⟩
    | _ => cases e
theorem bi_sorted {X : Cx} : CallS X (.builtin "sorted") gsorted := by
  refine CallS.of bi_sortedN fun F H vs ds d Q s p e q => ?_
  obtain ⟨es, ps, rfl, e1, rfl⟩ := gsorted_inv e
  exact ⟨F, es, ps, s, p, e1, fun b ys hb py => q.new s (fun c hc => Rp.lst_new s py hc) b hb⟩
end Z

namespace Z
open PySem PySem.Spec L2
/-! ## how pop, index, sorted reckon -/
theorem erase_map : ∀ (ds : List D) (n : Nat), (ds.map O.frz).eraseIdx n = (ds.eraseIdx n).map .frz
  | [], _ => rfl
  | _ :: _, 0 => rfl
  | d :: ds, n + 1 => by
    show O.frz d :: (ds.map O.frz).eraseIdx n = O.frz d :: (ds.eraseIdx n).map .frz
    rw [erase_map ds n]
section
variable (ρ : Z.Env)
@[simp] theorem mpop_ap (i : Nat) (m : M D) : mpop i m ρ = match slotOf ρ i with
  | some (.lst _) => mbind m (kpop i) ρ
  | _ => .bad := rfl
theorem kpop_frz (i : Nat) (ds : List D) (j : Int) (h : slotOf ρ i = some (.lst (ds.map .frz))) (h0 : 0 ≤ j) (h1 : j < ds.length) (h2 : ds.length < 2 ^ 62) : kpop i (.int j) ρ = .ok (ds[j.toNat]'(by omega)) (ρ.set i (some (.lst ((ds.eraseIdx j.toNat).map .frz)))) := by
  have e : (ds.map O.frz)[j.toNat]? = some (.frz (ds[j.toNat]'(by omega))) := by
    rw [List.getElem?_map, List.getElem?_eq_getElem (by omega)]
    rfl
  have e2 : (ds.map O.frz).eraseIdx j.toNat = (ds.eraseIdx j.toNat).map .frz := by
    exact erase_map ds j.toNat
  unfold kpop
  rw [h]
  simp only [List.length_map]
  rw [if_pos ⟨h0, h1, h2⟩, e, e2]
end
@[simp] theorem midx_ap (m : M D) (ms : M (List D)) (ρ : Z.Env) : midx m ms ρ = match m ρ with
  | .ok (.lst ds) ρ' => mbind ms (fun bs => mopt (gidx (.lst ds) bs)) ρ'
  | .ok _ _ => .bad
  | .exn c ρ' => .exn c ρ'
  | .bad => .bad := by
  unfold midx mbind
  cases m ρ with
  | ok d ρ' => cases d <;> rfl
  | exn c ρ' => rfl
  | bad => rfl
end Z

namespace Z
open PySem PySem.Spec L2
/-! ## calls that leave defaults out -/
structure FnD (P : Program) (w : World) (K : PySem.W.Frag) (mg : Str → Option Value) (base : Heap) (k : Nat) (x : Str) (ps : List Str) (f : List O → FR) (dds : List D) : Prop where
  ex : ∃ a fd, mg x = some (.ref a) ∧ PySem.W.keepIn K (.ref a) = true ∧ FnG P w K mg base k a fd ps (spF K ps.length f) ∧ ∃ (ds : List Value) (dvs : List V), Vals dvs ds ∧ RpA K (fun _ => none) dds dvs ∧ Binds K fd ps ds
theorem ArR.more {K : PySem.W.Frag} {σ : St} {F : Hp} {dds : List D} {dvs : List V} (h : RpA K F dds dvs) : ∀ {as : List (Sum D Nat)} {vs : List V}, ArR K σ F as vs → ArR K σ F (as ++ dds.map .inl) (vs ++ dvs)
  | [], _, e => by
    rw [show _ = [] from e]
    clear e
    induction dds generalizing dvs with
    | nil => rw [show dvs = [] from h]; rfl
    | cons d dds ih =>
      obtain ⟨x, r, rfl, h1, h2⟩ := h
      exact ⟨x, r, rfl, h1, ih h2⟩
  | .inl d :: as, _, e => by
    obtain ⟨x, r, rfl, h1, h2⟩ := e
    exact ⟨x, r ++ dvs, rfl, h1, ArR.more h h2⟩
  | .inr i :: as, _, e => by
    obtain ⟨x, r, rfl, h1, h2⟩ := e
    exact ⟨x, r ++ dvs, rfl, h1, ArR.more h h2⟩
def mcallD (n : Nat) (dds : List D) (f : List O → FR) (as : M (List (Sum D Nat))) : M O := mbind as fun l => mcallN n f (mret (l ++ dds.map .inl))
section
variable {X : Cx} {W : WX}
theorem eo_callD {k : Nat} {x : Str} {ps : List Str} {f : List O → FR} {dds : List D} {p pos : Pos} {e : Expr} {es : List Expr} {ms : M (List (Sum D Nat))} (h : FnD X.prog X.w X.K X.mg X.base k x ps f dds) (hr : Room k X.A) (hgd : X.A.guards = some []) (tk : Takes X W) (hg : Gl X x) (ha : AV X W (e :: es) ms)
    (hdb : (x == ("__debug__" : Str)) = false := by decide) (he : starEach (e :: es) X.env = (false, eval e X.env) :: starEach es X.env := by rfl) (hpl : (backTo pos (starEach es X.env)).any (·.1) = false := by rfl) : EO X W (.Call (.Name x p) (e :: es) [] pos) (mcallD ps.length dds f ms) := by
  obtain ⟨a, fd, hm, kp, F, ds, dvs, rd, pd, hb⟩ := h.ex
  refine ⟨fun pins s σ H Q I ⟨FF, fp, ρ, r, o⟩ => ?_⟩
  refine wpAny_Call_Name_kw (ld_glob I hg hm ?_ hdb)
  have hh : Out X.K W σ FF H fp (rrR X.K σ) (fun vs H1 => (vs ++ dvs).length = ps.length ∧ spF X.K ps.length f (vs ++ dvs) H1 Q (fun c d H => W c d σ H)) (ms ρ) := Out.bindO o fun l ρ1 F1 H1 fp1 vs _ r1 s1 p1 o1 => by
    have p2 := ArR.more (RpA.mono (F' := F1) (fun _ _ e => by cases e) dds dvs pd) p1
    by_cases hl : (l ++ dds.map Sum.inl).length = ps.length
    · have o1 : OutO X.K W σ F1 H1 fp1 Q (mcallN ps.length f (mret (l ++ dds.map .inl)) ρ1) := o1
      unfold mcallN mbind mret at o1
      simp only at o1
      rw [if_pos hl] at o1
      exact ⟨(ArR.len p2).trans hl, call_sp r1 p2 ((ArR.len p2).trans hl) o1⟩
    · have o1 : OutO X.K W σ F1 H1 fp1 Q (mcallN ps.length f (mret (l ++ dds.map .inl)) ρ1) := o1
      unfold mcallN mbind mret at o1
      simp only at o1
      rw [if_neg hl] at o1; exact o1.elim
  refine PySem.W.callWith_K (h₀ := X.base) I.ok.mod.kin kp (thn (ha.run pos pins s σ H _ I ⟨FF, fp, ρ, r, hh⟩) fun us s1 ⟨vs, H1, I1, rv, hl, q⟩ => ⟨I1.kIn, ?_⟩) he hpl
  have b0 := hb s1 us I1.kIn (by rw [List.length_append, ← rv.length, ← rd.length, ← List.length_append]; exact hl)
  exact wp_callG F hr hgd tk I1 b0 (rv.append rd) q
end
end Z

namespace Z
open PySem PySem.Spec L2
/-! ## calls of any form: n places, the names ks, what is left out by default -/
def CBinds (K : PySem.W.Frag) (fd : FuncData) (ps : List Str) (n : Nat) (ks : List Str) (perm : List Nat) (its : List Value) : Prop :=
  ∀ (s : Shared) (us ws : List Value), K.In s.heap → us.length = n → ws.length = ks.length → BindsTo s fd ⟨us, ks.zip ws⟩ (ps.zip (pick perm (us ++ ws ++ its)))
structure FnC (P : Program) (w : World) (K : PySem.W.Frag) (mg : Str → Option Value) (base : Heap) (k : Nat) (x : Str) (ps : List Str) (f : List O → FR) (n : Nat) (ks : List Str) (perm : List Nat) (dds : List D) : Prop where
  ex : ∃ a fd its dvs, mg x = some (.ref a) ∧ PySem.W.keepIn K (.ref a) = true ∧ FnG P w K mg base k a fd ps (spF K ps.length f) ∧ Vals dvs its ∧ RpA K (fun _ => none) dds dvs ∧ CBinds K fd ps n ks perm its
/-- a def with defaults, told -/
structure FunT (K : PySem.W.Frag) (x qual : Str) (st : Stmt) (its : List Value) (f : Addr) (fd : FuncData) : Prop where
  ex : ∃ (oc : Value) (od : Option Addr) (T : Addr) (kV doc pm : Value) (an : Option Addr) (cdv ct : Value) (osl : Array (Option Value)) (o : Obj) (m : Nat),
    fd = PySem.W.fnOf x qual (defArgs st) (defBody st) (defScope st) (.ref T) kV doc pm an cdv ct ∧ K.lookup f = some ⟨oc, od, .func fd, osl⟩ ∧ PySem.W.codeIn K cdv qual = true ∧ K.lookup T = some o ∧ o.data = .seq its.toArray m
  kp : PySem.W.keepIn K (.ref f) = true
theorem funT_mk {K : PySem.W.Frag} {x qual : Str} {st : Stmt} {f T : Addr} {its : List Value} {oc : Value} {od : Option Addr} {kV doc pm : Value} {an : Option Addr} {cdv ct : Value} {osl : Array (Option Value)} {c : Value} {dd : Option Addr} {sl : Array (Option Value)} {m : Nat}
    (l : K.lookup f = some ⟨oc, od, .func (PySem.W.fnOf x qual (defArgs st) (defBody st) (defScope st) (.ref T) kV doc pm an cdv ct), osl⟩) (hc : PySem.W.codeIn K cdv qual = true) (kp : PySem.W.keepIn K (.ref f) = true)
    (lT : K.lookup T = some ⟨c, dd, .seq its.toArray m, sl⟩) : FunT K x qual st its f (PySem.W.fnOf x qual (defArgs st) (defBody st) (defScope st) (.ref T) kV doc pm an cdv ct) :=
  ⟨⟨oc, od, T, kV, doc, pm, an, cdv, ct, osl, _, m, rfl, l, hc, lT, rfl⟩, kp⟩
theorem FunT.funB {K : PySem.W.Frag} {x qual : Str} {st : Stmt} {its : List Value} {f : Addr} {fd : FuncData} (h : FunT K x qual st its f fd) : FunB K x qual st f fd := by
  obtain ⟨oc, od, T, kV, doc, pm, an, cdv, ct, osl, o, m, e, lk, hcd, lT, oT⟩ := h.ex
  exact ⟨oc, od, _, kV, doc, pm, an, cdv, ct, osl, e, lk, hcd⟩
theorem FunT.cbinds {K : PySem.W.Frag} {x qual : Str} {st : Stmt} {its : List Value} {f : Addr} {fd : FuncData} {ps ks : List Str} {n : Nat} {perm : List Nat} (F : FunT K x qual st its f fd)
    (h : ∀ (T : Addr) (kV doc pm : Value) (an : Option Addr) (cdv ct : Value) (us ws : List Value), us.length = n → ws.length = ks.length →
      ∃ k, bindArgs (PySem.W.fnOf x qual (defArgs st) (defBody st) (defScope st) (.ref T) kV doc pm an cdv ct) ⟨us, ks.zip ws⟩ = seqItems? (.ref T) >>= k ∧ k (some its.toArray) = pure (ps.zip (pick perm (us ++ ws ++ its)))) : CBinds K fd ps n ks perm its := by
  obtain ⟨oc, od, T, kV, doc, pm, an, cdv, ct, osl, o, m, rfl, lk, hcd, lT, oT⟩ := F.ex
  intro s us ws X hl hw
  obtain ⟨k, e1, e2⟩ := h T kV doc pm an cdv ct us ws hl hw
  refine BindsTo.of_looks fun M => ?_
  rw [e1]
  exact looks_items X lT oT (.of_pure e2)
theorem cbinds_fun {K : PySem.W.Frag} {x qual : Str} {st : Stmt} {f : Addr} {fd : FuncData} {ps ks : List Str} {n : Nat} {perm : List Nat} (F : Fun K x qual st f fd)
    (h : ∀ (kV doc pm : Value) (an : Option Addr) (cdv ct : Value) (us ws : List Value), us.length = n → ws.length = ks.length →
      bindArgs (PySem.W.fnOf x qual (defArgs st) (defBody st) (defScope st) .none kV doc pm an cdv ct) ⟨us, ks.zip ws⟩ = pure (ps.zip (pick perm (us ++ ws ++ [])))) : CBinds K fd ps n ks perm [] := by
  obtain ⟨oc, od, kV, doc, pm, an, cdv, ct, osl, rfl, lk, hcd⟩ := F.ex
  exact fun s us ws X hl hw => BindsTo.of_eq (h kV doc pm an cdv ct us ws hl hw)
theorem ArR.ofD {K : PySem.W.Frag} {σ : St} {F : Hp} : ∀ {dds : List D} {dvs : List V}, RpA K F dds dvs → ArR K σ F (dds.map .inl) dvs
  | [], _, h => h
  | d :: dds, _, h => by
    obtain ⟨x, r, rfl, h1, h2⟩ := h
    exact ⟨x, r, rfl, h1, ArR.ofD h2⟩
def mcallC (n m : Nat) (perm : List Nat) (dds : List D) (k : Nat) (f : List O → FR) (a b : M (List (Sum D Nat))) : M O :=
  mbind a fun l1 => mbind b fun l2 => if l1.length = n ∧ l2.length = m then mcallN k f (mret (pick perm (l1 ++ l2 ++ dds.map .inl))) else fun _ => .bad
section
variable {X : Cx} {W : WX} {σ : St} {k n : Nat} {ps ks : List Str} {f : List O → FR} {perm : List Nat} {dds : List D} {dvs : List V} {Q : VK}
theorem callC_pick {F1 H1 : Hp} {fp1 : List Addr} {ρ1 : Env} {l1 l2 : List (Sum D Nat)} {vs zs : List V} (pd : RpA X.K (fun _ => none) dds dvs) (r1 : Rel X.K F1 H1 fp1 σ ρ1) (a1 : ArR X.K σ F1 l1 vs) (a2 : ArR X.K σ F1 l2 zs)
    (o : OutO X.K W σ F1 H1 fp1 Q ((if l1.length = n ∧ l2.length = ks.length then mcallN ps.length f (mret (pick perm (l1 ++ l2 ++ dds.map .inl))) else fun _ => R.bad) ρ1)) :
    vs.length = n ∧ zs.length = ks.length ∧ spF X.K ps.length f (pick perm (vs ++ zs ++ dvs)) H1 Q (fun c d H => W c d σ H) := by
  by_cases hl : l1.length = n ∧ l2.length = ks.length
  · rw [if_pos hl] at o
    refine ⟨(ArR.len a1).trans hl.1, (ArR.len a2).trans hl.2, ?_⟩
    have p2 := ArR.pick ((ArR.append a1 a2).append (ArR.ofD (RpA.mono (F' := F1) (fun _ _ e => by cases e) dds dvs pd))) perm
    have o2 : OutO X.K W σ F1 H1 fp1 Q (if (pick perm (l1 ++ l2 ++ dds.map .inl)).length = ps.length then _ else R.bad) := o
    by_cases hl2 : (pick perm (l1 ++ l2 ++ dds.map .inl)).length = ps.length
    · rw [if_pos hl2] at o2
      exact call_sp r1 p2 ((ArR.len p2).trans hl2) o2
    · rw [if_neg hl2] at o2; exact o2.elim
  · rw [if_neg hl] at o; exact o.elim
/-- f(e, ..) -/
theorem eo_callC {x : Str} {p pos : Pos} {e : Expr} {es : List Expr} {ms : M (List (Sum D Nat))} (h : FnC X.prog X.w X.K X.mg X.base k x ps f n [] perm dds) (hr : Room k X.A) (hgd : X.A.guards = some []) (tk : Takes X W) (hg : Gl X x) (ha : AV X W (e :: es) ms)
    (hdb : (x == ("__debug__" : Str)) = false := by decide) (he : starEach (e :: es) X.env = (false, eval e X.env) :: starEach es X.env := by rfl) (hpl : (backTo pos (starEach es X.env)).any (·.1) = false := by rfl) : EO X W (.Call (.Name x p) (e :: es) [] pos) (mcallC n 0 perm dds ps.length f ms (mret [])) := by
  obtain ⟨a, fd, its, dvs, hm, kp, F, rd, pd, hb⟩ := h.ex
  refine ⟨fun pins s σ H Q I ⟨FF, fp, ρ, r, o⟩ => ?_⟩
  refine wpAny_Call_Name_kw (ld_glob I hg hm ?_ hdb)
  have hh : Out X.K W σ FF H fp (rrR X.K σ) (fun vs H1 => vs.length = n ∧ spF X.K ps.length f (pick perm (vs ++ [] ++ dvs)) H1 Q (fun c d H => W c d σ H)) (ms ρ) := Out.bindO o fun l ρ1 F1 H1 fp1 vs _ r1 s1 p1 o1 => by
    obtain ⟨z1, z2, z3⟩ := callC_pick (X := X) (ks := []) (ps := ps) (n := n) (l2 := []) (zs := []) pd r1 p1 rfl o1
    exact ⟨z1, z3⟩
  refine PySem.W.callWith_K (h₀ := X.base) I.ok.mod.kin kp (thn (ha.run pos pins s σ H _ I ⟨FF, fp, ρ, r, hh⟩) fun us s1 ⟨vs, H1, I1, rv, hl, q⟩ => ⟨I1.kIn, ?_⟩) he hpl
  have b0 := hb s1 us [] I1.kIn (rv.length.symm.trans hl) rfl
  exact wp_callG F hr hgd tk I1 b0 (vals_pick ((rv.append .nil).append rd) perm) q
/-- f(k = v, ..) -/
theorem eo_callCK {x : Str} {p pos : Pos} {kws : List Keyword} {ms : M (List (Sum D Nat))} (h : FnC X.prog X.w X.K X.mg X.base k x ps f 0 ks perm dds) (hr : Room k X.A) (hgd : X.A.guards = some []) (tk : Takes X W) (hg : Gl X x) (ha : KV X W kws ms)
    (hall : (backToKw pos (keywordEach kws X.env)).all (·.1.isSome) = true := by rfl) (hks : (backToKw pos (keywordEach kws X.env)).filterMap (·.1) = ks := by rfl)
    (hdb : (x == ("__debug__" : Str)) = false := by decide) (hpl : ((backTo pos (starEach [] X.env)).any (·.1) || (backToKw pos (keywordEach kws X.env)).any (·.1.isNone)) = false := by rfl) :
    EO X W (.Call (.Name x p) [] kws pos) (mcallC 0 ks.length perm dds ps.length f (mret []) ms) := by
  obtain ⟨a, fd, its, dvs, hm, kp, F, rd, pd, hb⟩ := h.ex
  refine ⟨fun pins s σ H Q I ⟨FF, fp, ρ, r, o⟩ => ?_⟩
  refine wpAny_Call_Name_kw (ld_glob I hg hm ?_ hdb)
  refine PySem.W.callWith_KW0 (h₀ := X.base) I.ok.mod.kin kp hall ?_ hpl
  have hh : Out X.K W σ FF H fp (rrR X.K σ) (fun zs H1 => zs.length = ks.length ∧ spF X.K ps.length f (pick perm ([] ++ zs ++ dvs)) H1 Q (fun c d H => W c d σ H)) (ms ρ) := Out.bindO o fun l ρ1 F1 H1 fp1 zs _ r1 s1 p1 o1 => by
    obtain ⟨z1, z2, z3⟩ := callC_pick (X := X) (ks := ks) (ps := ps) (n := 0) (l1 := []) (vs := []) pd r1 rfl p1 o1
    exact ⟨z2, z3⟩
  refine thn (ha.run pos pins s σ H _ I ⟨FF, fp, ρ, r, hh⟩) fun ws s2 ⟨zs, H2, I2, rz, hl, q2⟩ => ⟨I2.kIn, ?_⟩
  rw [hks]
  have b0 := hb s2 [] ws I2.kIn rfl (rz.length.symm.trans hl)
  exact wp_callG F hr hgd tk I2 b0 (vals_pick ((Vals.append .nil rz).append rd) perm) q2
/-- f(e, .., k = v, ..) -/
theorem eo_callCM {x : Str} {p pos : Pos} {e : Expr} {es : List Expr} {kws : List Keyword} {ma mb : M (List (Sum D Nat))} (h : FnC X.prog X.w X.K X.mg X.base k x ps f n ks perm dds) (hr : Room k X.A) (hgd : X.A.guards = some []) (tk : Takes X W) (hg : Gl X x)
    (ha : AV X W (e :: es) ma) (hk : KV X W kws mb)
    (hall : (backToKw pos (keywordEach kws X.env)).all (·.1.isSome) = true := by rfl) (hks : (backToKw pos (keywordEach kws X.env)).filterMap (·.1) = ks := by rfl)
    (hdb : (x == ("__debug__" : Str)) = false := by decide) (he : starEach (e :: es) X.env = (false, eval e X.env) :: starEach es X.env := by rfl)
    (hpl : ((backTo pos (starEach (e :: es) X.env)).any (·.1) || (backToKw pos (keywordEach kws X.env)).any (·.1.isNone)) = false := by rfl) :
    EO X W (.Call (.Name x p) (e :: es) kws pos) (mcallC n ks.length perm dds ps.length f ma mb) := by
  obtain ⟨a, fd, its, dvs, hm, kp, F, rd, pd, hb⟩ := h.ex
  refine ⟨fun pins s σ H Q I ⟨FF, fp, ρ, r, o⟩ => ?_⟩
  refine wpAny_Call_Name_kw (ld_glob I hg hm ?_ hdb)
  have hh : Out X.K W σ FF H fp (rrR X.K σ) (fun vs H1 => TAr X.K W mb σ H1 fun zs H2 => vs.length = n ∧ zs.length = ks.length ∧ spF X.K ps.length f (pick perm (vs ++ zs ++ dvs)) H2 Q (fun c d H => W c d σ H)) (ma ρ) := Out.bindO o fun l ρ1 F1 H1 fp1 vs _ r1 s1 p1 o1 =>
    ⟨F1, fp1, ρ1, r1, Out.bindO o1 fun l2 ρ2 F2 H2 fp2 zs _ r2 s2 p2 o2 => callC_pick (X := X) pd r2 (ArR.mono s2.sub p1) p2 o2⟩
  refine PySem.W.callWith_KW (h₀ := X.base) I.ok.mod.kin kp hall (thn (ha.run pos pins s σ H _ I ⟨FF, fp, ρ, r, hh⟩) fun us s1 ⟨vs, H1, I1, rv, q⟩ => ?_) hpl he
  refine thn (hk.run pos pins s1 σ H1 _ I1 q) fun ws s2 ⟨zs, H2, I2, rz, l1, l2, q2⟩ => ⟨I2.kIn, ?_⟩
  rw [hks]
  have b0 := hb s2 us ws I2.kIn (rv.length.symm.trans l1) (rz.length.symm.trans l2)
  exact wp_callG F hr hgd tk I2 b0 (vals_pick ((rv.append rz).append rd) perm) q2
end
end Z

namespace Z
open PySem PySem.Spec L2
/-! ## defs with *args -/
def spV (K : PySem.W.Frag) (n : Nat) (f : List O → FR) : Sp := fun vs H Q E => ∃ ws rest, vs = ws ++ rest ∧ ws.length = n ∧ rest.length ≤ sizeLine ∧ ∀ p, H p = none → spF K (n + 1) f (ws ++ [.ref p]) (upd H p (.tup rest)) Q E
structure FnV (P : Program) (w : World) (K : PySem.W.Frag) (mg : Str → Option Value) (base : Heap) (k : Nat) (x : Str) (n : Nat) (f : List O → FR) : Prop where
  ex : ∃ a, mg x = some (.ref a) ∧ PySem.W.keepIn K (.ref a) = true ∧ ∀ (A : Around) (outer : List PySem.Env) (s : Shared) (H : Hp) (us : List Value) (vs : List V) (Q : VK) (E : XK), Room k A → A.guards = some [] → Env0 P w K mg base A outer s H →
    Vals vs us → spV K n f vs H Q E → codeAny (model P w) A (.call (.ref a) ⟨us, []⟩) (CR (L2.CX P w) outer P w H s Q E) s
theorem fnv_mk {P : Program} {w : World} {K : PySem.W.Frag} {mg : Str → Option Value} {base : Heap} {x qual : Str} {st : Stmt} {a : Addr} {fd : FuncData} {N ps : List Str} {pv : Str} {k : Nat} {mask : List Bool} {nl : Nat} {m : SM} (Fu : Fun K x qual st a fd) (S : FnScope N (ps ++ [pv]) (defScope st)) (hmg : mg x = some (.ref a))
    (hb : ∀ (kV doc pm : Value) (an : Option Addr) (cdv ct : Value) (us rest : List Value), us.length = ps.length → bindArgs (PySem.W.fnOf x qual (defArgs st) (defBody st) (defScope st) .none kV doc pm an cdv ct) ⟨us ++ rest, []⟩ = (newTuple rest >>= fun t => pure (ps.zip us ++ [(pv, t)])))
    (hml : mask.length = (ps ++ [pv]).length) (hnl : N.length = (ps ++ [pv]).length + nl)
    (h : ∀ (cdv : Value) (A : Around) (outer : List PySem.Env) (s : Shared) (H : Hp) (E : XK), Room k (A.deeper (PyProof.Rows.envOfC qual (defScope st) s.heap.objs.size a cdv)) → A.guards = some [] →
      Takes (cxOf (L2.CX P w) P w K mg base N qual (defScope st) a cdv A outer s H E) (fun c d _ H => E c d H) → PassesOwn (model P w) (A.deeper (PyProof.Rows.envOfC qual (defScope st) s.heap.objs.size a cdv)) (PyProof.Rows.envOfC qual (defScope st) s.heap.objs.size a cdv) (cxOf (L2.CX P w) P w K mg base N qual (defScope st) a cdv A outer s H E).xe →
      BV (cxOf (L2.CX P w) P w K mg base N qual (defScope st) a cdv A outer s H E) (fun c d _ H => E c d H) (trues mask 0) (defBody st) m) :
    FnV P w K mg base (k + 1) x ps.length (runFn mask nl m) := by
  obtain ⟨oc, od, kV, doc, pm, an, cdv, ct, osl, rfl, lk, hcd⟩ := Fu.ex
  refine ⟨a, hmg, Fu.kp, fun A outer s H us vs Q E hr hgd e0 r hsp => ?_⟩
  obtain ⟨ws, rest, ev, hl, hz, hq⟩ := hsp
  subst ev
  obtain ⟨u1, u2, eu, r1, r2⟩ := StX.vals_split r
  subst eu
  have hn : H s.heap.objs.size = Option.none := e0.hok.fresh (Nat.le_refl _)
  have hl1 : u1.length = ps.length := by rw [← r1.length]; exact hl
  have hl2 : u2.length ≤ sizeLine := by rw [← r2.length]; exact hz
  refine StX.run_bnd (CX := L2.CX P w) (k := k) lk hcd S hr e0 (G := fun xs H2 => ∃ p, H p = Option.none ∧ xs = ws ++ [V.ref p] ∧ H2 = upd H p (.tup rest)) (fun A' Ex Q' h => ?_) fun s2 H2 xs ⟨p, hp, ex, eH⟩ hr' => ?_
  · rw [hb kV doc pm an cdv ct u1 u2 hl1]
    refine wpAny_bind (wpAny_newTuple (wpAny_pure ?_) hl2)
    have new : ObjOk P w (upd H s.heap.objs.size (.tup rest)) (s.heap.push ({ cls := .type "tuple", data := .seq u2.toArray } : Obj)) s.heap.objs.size (.tup rest) := ⟨hz, u2, r2, ⟨_, Heap.get?_push_size _ rfl, rfl, _, rfl⟩⟩
    have un := StX.un_laid (fs := frs outer) (s := s) (o := ({ cls := .type "tuple", data := .seq u2.toArray } : Obj)) (u := .tup rest) hn
    have z := h _ _ (ws ++ [V.ref s.heap.objs.size]) (u1 ++ [Value.ref s.heap.objs.size]) (StX.env0_laid e0 new) un rfl (fun e s' => StX.cxUp outer s H _ _ E e s' un (fun b o q => Heap.get?_push_of_some _ q) rfl) (r1.append (.cons rfl .nil))
      (by rw [List.length_append, List.length_append, hl] <;> rfl) ⟨_, hn, rfl, rfl⟩
    rw [List.zip_append hl1.symm] at z
    exact z
  · subst ex eH
    have := hq p hp
    refine fn_bodyI hml hnl h cdv A outer s2 _ _ Q E hr' hgd ?_
    rw [show (ps ++ [pv]).length = ps.length + 1 by simp]
    exact this
def dats : List (Sum D Nat) → Option (List D)
  | [] => some []
  | .inl d :: l => (dats l).map (d :: ·)
  | .inr _ :: _ => none
def mcallV (n : Nat) (f : List O → FR) (ms : M (List (Sum D Nat))) : M O := mbind ms fun l => if n ≤ l.length then (match dats (l.drop n) with
  | some ds => if ds.length ≤ sizeLine then mcallN (n + 1) f (mret (l.take n ++ [.inl (.tup ds)])) else fun _ => .bad
  | none => fun _ => .bad) else fun _ => .bad
theorem ArR.dats {K : PySem.W.Frag} {σ : St} {F : Hp} : ∀ {l : List (Sum D Nat)} {vs : List V} {ds : List D}, ArR K σ F l vs → Z.dats l = some ds → RpA K F ds vs
  | [], _, _, h, e => by cases e; exact h
  | .inl d :: l, _, ds, h, e => by
    obtain ⟨x, r, rfl, h1, h2⟩ := h
    obtain ⟨ds', e1, rfl⟩ := Option.map_eq_some_iff.mp (show (Z.dats l).map (d :: ·) = some ds from e)
    exact ⟨x, r, rfl, h1, ArR.dats h2 e1⟩
  | .inr _ :: _, _, _, _, e => by cases e
theorem ArR.take {K : PySem.W.Frag} {σ : St} {F : Hp} : ∀ (n : Nat) {l : List (Sum D Nat)} {vs : List V}, ArR K σ F l vs → ArR K σ F (l.take n) (vs.take n)
  | 0, _, _, _ => by rw [List.take_zero, List.take_zero]; exact rfl
  | n + 1, [], _, h => by rw [show _ = [] from h]; exact rfl
  | n + 1, .inl d :: l, _, h => by
    obtain ⟨x, r, rfl, h1, h2⟩ := h
    exact ⟨x, r.take n, rfl, h1, ArR.take n h2⟩
  | n + 1, .inr i :: l, _, h => by
    obtain ⟨x, r, rfl, h1, h2⟩ := h
    exact ⟨x, r.take n, rfl, h1, ArR.take n h2⟩
theorem ArR.drop {K : PySem.W.Frag} {σ : St} {F : Hp} : ∀ (n : Nat) {l : List (Sum D Nat)} {vs : List V}, ArR K σ F l vs → ArR K σ F (l.drop n) (vs.drop n)
  | 0, _, _, h => by rw [List.drop_zero, List.drop_zero]; exact h
  | n + 1, [], _, h => by rw [show _ = [] from h]; exact rfl
  | n + 1, .inl d :: l, _, h => by
    obtain ⟨x, r, rfl, h1, h2⟩ := h
    exact ArR.drop n h2
  | n + 1, .inr i :: l, _, h => by
    obtain ⟨x, r, rfl, h1, h2⟩ := h
    exact ArR.drop n h2
section
variable {X : Cx} {W : WX}
theorem eo_callV {k n : Nat} {x : Str} {f : List O → FR} {p pos : Pos} {e : Expr} {es : List Expr} {ms : M (List (Sum D Nat))} (h : FnV X.prog X.w X.K X.mg X.base k x n f) (hr : Room k X.A) (hgd : X.A.guards = some []) (tk : Takes X W) (hg : Gl X x) (ha : AV X W (e :: es) ms)
    (hdb : (x == ("__debug__" : Str)) = false := by decide) (he : starEach (e :: es) X.env = (false, eval e X.env) :: starEach es X.env := by rfl) (hpl : (backTo pos (starEach es X.env)).any (·.1) = false := by rfl) : EO X W (.Call (.Name x p) (e :: es) [] pos) (mcallV n f ms) := by
  obtain ⟨a, hm, kp, F⟩ := h.ex
  refine ⟨fun pins s σ H Q I ⟨FF, fp, ρ, r, o⟩ => ?_⟩
  refine wpAny_Call_Name_kw (ld_glob I hg hm ?_ hdb)
  have hh : Out X.K W σ FF H fp (rrR X.K σ) (fun vs H1 => spV X.K n f vs H1 Q (fun c d H => W c d σ H)) (ms ρ) := Out.bindO o fun l ρ1 F1 H1 fp1 vs _ r1 s1 p1 o1 => by
    by_cases hn : n ≤ l.length
    · rw [if_pos hn] at o1
      cases e1 : Z.dats (l.drop n) with
      | none => rw [e1] at o1; exact o1.elim
      | some ds =>
        rw [e1] at o1
        by_cases hz : ds.length ≤ sizeLine
        · simp only [if_pos hz] at o1
          have pd := ArR.dats (ArR.drop n p1) e1
          have lv := ArR.len p1
          refine ⟨vs.take n, vs.drop n, (List.take_append_drop n vs).symm, by rw [List.length_take]; omega, by rw [← RpA.length pd]; exact hz, fun p hp => ?_⟩
          have x := Ext.one (o := .tup (vs.drop n)) r1.sub hp
          obtain ⟨r2, st2⟩ := r1.ext x
          have a2 : ArR X.K σ (upd F1 p (.tup (vs.drop n))) (l.take n ++ [.inl (.tup ds)]) (vs.take n ++ [.ref p]) := ArR.append (ArR.mono x.sub (ArR.take n p1)) ⟨.ref p, [], rfl, Rp.tup_new r1.sub pd hp, rfl⟩
          have o2 : OutO X.K W σ F1 H1 fp1 Q (if (l.take n ++ [(Sum.inl (D.tup ds) : Sum D Nat)]).length = n + 1 then _ else R.bad) := o1
          have hl : (l.take n ++ [(Sum.inl (D.tup ds) : Sum D Nat)]).length = n + 1 := by rw [List.length_append, List.length_take]; simp; omega
          rw [if_pos hl] at o2
          exact call_sp r2 a2 (by rw [List.length_append, List.length_take]; simp; omega) (o2.shift st2)
        · simp only [if_neg hz] at o1; exact o1.elim
    · rw [if_neg hn] at o1; exact o1.elim
  refine PySem.W.callWith_K (h₀ := X.base) I.ok.mod.kin kp (thn (ha.run pos pins s σ H _ I ⟨FF, fp, ρ, r, hh⟩) fun us s1 ⟨vs, H1, I1, rv, q⟩ => ⟨I1.kIn, ?_⟩) he hpl
  rw [List.nil_append]
  refine wpAny_call (codeAny_mono (F X.A X.stack s1 H1 us vs Q _ hr hgd I1.env0 rv q) fun r s' hq => ?_)
  cases r with
  | error e => exact passAt tk σ pins H1 s1 e s' I1 hq
  | ok fl =>
    cases fl with
    | ret u => exact I1.after hq
    | next => exact False.elim hq
    | brk => exact False.elim hq
    | cont => exact False.elim hq
end
end Z

namespace Z
open PySem PySem.Spec L2
/-! ## borrowing: a tree of one's own read as data while one expression runs -/
mutual
/-- data without lists and dicts -/
def lf : D → Bool
  | .non => true
  | .bl _ => true
  | .int _ => true
  | .str _ => true
  | .tup ds => lfs ds
  | .opq _ => true
  | _ => false
def lfs : List D → Bool
  | [] => true
  | d :: ds => lf d && lfs ds
end
mutual
/-- trees of lists over such data -/
def lfo : O → Bool
  | .frz d => lf d
  | .lst os => lfos os
  | .dct _ => false
def lfos : List O → Bool
  | [] => true
  | o :: os => lfo o && lfos os
end
/-- a heap without some addresses -/
def without' (F : Hp) (f : List Addr) : Hp := fun b => if b ∈ f then none else F b
theorem without_in {F : Hp} {f : List Addr} {b : Addr} (h : b ∈ f) : without' F f b = none := if_pos h
theorem without_out {F : Hp} {f : List Addr} {b : Addr} (h : b ∉ f) : without' F f b = F b := if_neg h
section
variable {K : PySem.W.Frag} {F H : Hp}
/-- only lists stand at these -/
def OnlyL (F : Hp) (f : List Addr) : Prop := ∀ b ∈ f, ∃ xs, F b = some (.lst xs)
theorem Rd.thaw {f : List Addr} (hf : OnlyL F f) {a : Addr} {u : HO} (h : Rd F a u) (hu : ∀ xs, u ≠ .lst xs) : Rd (without' F f) a u := by
  by_cases hb : a ∈ f
  · obtain ⟨xs, e⟩ := hf a hb
    rcases h with h | ⟨o, h⟩
    · rw [e] at h; exact absurd (Option.some.inj h).symm (hu xs)
    · rw [e] at h; cases h
  · rcases h with h | ⟨o, h⟩
    · exact .inl (by rw [without_out hb]; exact h)
    · exact .inr ⟨o, by rw [without_out hb]; exact h⟩
mutual
theorem Rp.thaw {f : List Addr} (hf : OnlyL F f) : ∀ (d : D) (v : V), lf d = true → Rp K F d v → Rp K (without' F f) d v
  | .non, _, _, h => h
  | .bl _, _, _, h => h
  | .int _, _, _, h => h
  | .str _, _, _, h => h
  | .opq _, _, _, h => h
  | .exc, _, e, _ => by cases e
  | .lst _, _, e, _ => by cases e
  | .dct _, _, e, _ => by cases e
  | .tup ds, _, e, h => by
    obtain ⟨a, xs, ev, h1, h2⟩ := h
    refine ⟨a, xs, ev, ?_, RpA.thaw hf ds xs e h2⟩
    rcases h1 with h1 | h1
    · exact .inl (Rd.thaw hf h1 fun xs z => by cases z)
    · exact .inr h1
theorem RpA.thaw {f : List Addr} (hf : OnlyL F f) : ∀ (ds : List D) (vs : List V), lfs ds = true → RpA K F ds vs → RpA K (without' F f) ds vs
  | [], _, _, h => h
  | d :: ds, _, e, h => by
    obtain ⟨x, r, ev, h1, h2⟩ := h
    have e : (lf d && lfs ds) = true := e
    rw [Bool.and_eq_true] at e
    exact ⟨x, r, ev, Rp.thaw hf d x e.1 h1, RpA.thaw hf ds r e.2 h2⟩
end
mutual
theorem RO.thaw {f : List Addr} (hf : OnlyL F f) : ∀ (o : O) (fp : List Addr) (v : V), lfo o = true → RO K F H o fp v → RO K (without' F f) H o fp v
  | .frz d, _, v, e, h => ⟨h.1, Rp.thaw hf d v e h.2⟩
  | .lst os, _, _, e, h => by
    obtain ⟨a, xs, fr, e1, e2, h1, h2⟩ := h
    exact ⟨a, xs, fr, e1, e2, h1, ROA.thaw hf os fr xs e h2⟩
  | .dct _, _, _, e, _ => by cases e
theorem ROA.thaw {f : List Addr} (hf : OnlyL F f) : ∀ (os : List O) (fp : List Addr) (vs : List V), lfos os = true → ROA K F H os fp vs → ROA K (without' F f) H os fp vs
  | [], _, _, _, h => h
  | o :: os, _, _, e, h => by
    obtain ⟨f1, f2, x, r, e1, e2, h1, h2⟩ := h
    have e : (lfo o && lfos os) = true := e
    rw [Bool.and_eq_true] at e
    exact ⟨f1, f2, x, r, e1, e2, RO.thaw hf o f1 x e.1 h1, ROA.thaw hf os f2 r e.2 h2⟩
end
mutual
theorem RO.onlyL : ∀ (o : O) (fp : List Addr) (v : V), lfo o = true → RO K F H o fp v → OnlyL H fp
  | .frz d, _, v, e, h => fun b hb => by rw [h.1] at hb; cases hb
  | .lst os, _, _, e, h => fun b hb => by
    obtain ⟨a, xs, fr, e1, e2, h1, h2⟩ := h
    rw [e2] at hb
    rcases List.mem_cons.mp hb with z | z
    · exact ⟨xs, by rw [z]; exact h1⟩
    · exact ROA.onlyL os fr xs e h2 b z
  | .dct _, _, _, e, _ => by cases e
theorem ROA.onlyL : ∀ (os : List O) (fp : List Addr) (vs : List V), lfos os = true → ROA K F H os fp vs → OnlyL H fp
  | [], _, _, _, h => fun b hb => by rw [h.1] at hb; cases hb
  | o :: os, _, _, e, h => fun b hb => by
    obtain ⟨f1, f2, x, r, e1, e2, h1, h2⟩ := h
    have e : (lfo o && lfos os) = true := e
    rw [Bool.and_eq_true] at e
    rw [e1] at hb
    rcases List.mem_append.mp hb with z | z
    · exact RO.onlyL o f1 x e.1 h1 b z
    · exact ROA.onlyL os f2 r e.2 h2 b z
end
/-- what the frame may have become while slot i was lent -/
def borOk (i : Nat) (ρ ρ' : Env) : Prop := ρ'.length = ρ.length ∧ ∀ j o', j ≠ i → ρ'[j]? = some (some o') → lfo o' = true ∨ ∃ d, o' = .frz d ∧ ρ[j]? = some (some (.frz d))
/-- slots as they were, or free of lists -/
theorem Slots.thaw {F0 : Hp} {f : List Addr} (hf : OnlyL F f) (s0 : Same F0 (without' F f)) : ∀ (ρ ρ0 : Env) (fp : List Addr) (σ : St), Slots K F H ρ fp σ → (∀ (j : Nat) o', ρ[j]? = some (some o') → lfo o' = true ∨ ∃ d, o' = .frz d ∧ ρ0[j]? = some (some (.frz d))) →
    (∀ (j : Nat) d v, ρ0[j]? = some (some (.frz d)) → σ[j]? = some (some v) → Rp K F0 d v) → Slots K (without' F f) H ρ fp σ
  | [], _, _, _, h, _, _ => h
  | none :: ρ, ρ0, fp, _, h, k, q => by
    obtain ⟨x, r, rfl, h⟩ := h
    refine ⟨x, r, rfl, Slots.thaw hf s0 ρ (ρ0.drop 1) fp r h (fun j o' e => ?_) fun j d v e e2 => ?_⟩
    · rcases k (j + 1) o' (by simpa using e) with z | ⟨d, z1, z2⟩
      · exact .inl z
      · exact .inr ⟨d, z1, by rw [List.getElem?_drop, Nat.add_comm]; exact z2⟩
    · rw [List.getElem?_drop, Nat.add_comm] at e
      exact q (j + 1) d v e (by simpa using e2)
  | some o :: ρ, ρ0, _, _, h, k, q => by
    obtain ⟨f1, f2, v, r, rfl, rfl, h1, h2⟩ := h
    refine ⟨f1, f2, v, r, rfl, rfl, ?_, Slots.thaw hf s0 ρ (ρ0.drop 1) f2 r h2 (fun j o' e => ?_) fun j d v e e2 => ?_⟩
    · rcases k 0 o rfl with z | ⟨d, rfl, z2⟩
      · exact RO.thaw hf o f1 v z h1
      · exact ⟨h1.1, Rp.mono s0 d v (q 0 d v z2 rfl)⟩
    · rcases k (j + 1) o' (by simpa using e) with z | ⟨d, z1, z2⟩
      · exact .inl z
      · exact .inr ⟨d, z1, by rw [List.getElem?_drop, Nat.add_comm]; exact z2⟩
    · rw [List.getElem?_drop, Nat.add_comm] at e
      exact q (j + 1) d v e (by simpa using e2)
variable {σ : St} {ρ : Env} {fp : List Addr}
/-- a slot is lent -/
theorem Rel.lend (r : Rel K F H fp σ ρ) {i : Nat} {o : O} (e : ρ[i]? = some (some o)) (hl : lfo o = true) :
    ∃ (v : V) (f fr : List Addr), σ[i]? = some (some v) ∧ RO K F H o f v ∧ (∀ b, b ∈ fp ↔ b ∈ f ∨ b ∈ fr) ∧ f.Nodup ∧ (∀ b ∈ f, b ∉ fr) ∧ ∃ fr2 : List Addr, (∀ b ∈ fr2, b ∈ fr) ∧ Rel K (frzOf F H f) H fr2 σ (ρ.set i (some (.frz o.toD))) := by
  obtain ⟨v, f1, f2, h1, h2, h3, p⟩ := Slots.take ρ fp σ i _ r.sl e
  have nd := List.nodup_append.mp (p.nodup_iff.mp r.nd)
  have sFG : Same F (frzOf F H f1) := fun b u e => by
    have : b ∉ f1 := fun hb => by rw [r.fre b (p.mem_iff.mpr (List.mem_append_left _ hb))] at e; cases e
    rw [frzOf_out this]; exact e
  have gin : ∀ b ∈ f1, ∀ u, H b = some u → frzOf F H f1 b = some u := fun b hb u e => by rw [frzOf_in hb]; exact e
  have r2 : Rel K (frzOf F H f1) H f2 σ (ρ.set i none) := ⟨fun b u e => by
      by_cases hb : b ∈ f1
      · rw [frzOf_in hb] at e; exact e
      · rw [frzOf_out hb] at e; exact r.sub b u e, fun b hb => by
      have : b ∉ f1 := fun z => nd.2.2 b z b hb rfl
      rw [frzOf_out this]
      exact r.fre b (p.mem_iff.mpr (List.mem_append_right _ hb)), nd.2.1, Slots.mono sFG _ f2 σ (fun b _ u e => e) h3⟩
  have hi : i < (ρ.set i none).length := by rw [List.length_set]; exact lt_of_get e
  obtain ⟨f3, r3, m3⟩ := (r2.push (RO.data sFG o f1 v gin h2)).store hi
  rw [set_same h1, set_set] at r3
  exact ⟨v, f1, f2, h1, h2, fun b => by rw [p.mem_iff, List.mem_append], nd.1, fun b hb z => nd.2.2 b hb b z rfl, f3, m3, r3⟩
/-- .. and given back -/
theorem Rel.back (r : Rel K F H fp σ ρ) {i : Nat} {o : O} {v : V} {f fr fr2 : List Addr} (e : ρ[i]? = some (some o)) (hl : lfo o = true) (hv : σ[i]? = some (some v)) (ho : RO K F H o f v) (hfp : ∀ b, b ∈ fp ↔ b ∈ f ∨ b ∈ fr) (hnd : f.Nodup) (hdj : ∀ b ∈ f, b ∉ fr) (hfr2 : ∀ b ∈ fr2, b ∈ fr)
    {F' H' : Hp} {fp' : List Addr} {ρ' : Env} (r' : Rel K F' H' fp' σ ρ') (t : Stp (frzOf F H f) H fr2 F' H' fp') (hb : borOk i ρ ρ') :
    OnlyL F' f ∧ (∀ b ∈ f, b ∉ fp') ∧ ∃ fp2, Rel K (without' F' f) H' fp2 σ (ρ'.set i (some o)) ∧ Stp F H fp (without' F' f) H' fp2 ∧ (∀ b ∈ fp2, b ∈ f ∨ b ∈ fp') := by
  have hH : OnlyL H f := RO.onlyL o f v hl ho
  have sF : ∀ b ∈ f, F' b = H b := fun b hb => by
    obtain ⟨xs, q⟩ := hH b hb
    have := t.sub b (.lst xs) (by rw [frzOf_in hb]; exact q)
    rw [this, q]
  have oF : OnlyL F' f := fun b hb => by rw [sF b hb]; exact hH b hb
  have apart : ∀ b ∈ f, b ∉ fp' := fun b hb z => by
    obtain ⟨xs, q⟩ := oF b hb
    rw [r'.fre b z] at q; cases q
  have kH : ∀ b ∈ f, H' b = H b := fun b hb => by
    obtain ⟨xs, q⟩ := hH b hb
    rw [q]
    exact t.keep b _ q fun z => hdj b hb (hfr2 b z)
  have s0 : Same F (without' F' f) := fun b u q => by
    have nb : b ∉ f := fun z => by
      rw [r.fre b ((hfp b).mpr (.inl z))] at q; cases q
    rw [without_out nb]
    exact t.sub b u (by rw [frzOf_out nb]; exact q)
  have hi : i < ρ'.length := by rw [hb.1]; exact lt_of_get e
  obtain ⟨g, gs, sl1⟩ := Slots.unset ρ' fp' σ i r'.sl
  have sl2 : Slots K (without' F' f) H' (ρ'.set i none) g σ := Slots.thaw oF s0 _ ρ g σ sl1 (fun j o' q => by
      have hj : j ≠ i := fun z => by
        subst z
        rw [List.getElem?_set_self hi] at q; cases q
      rw [List.getElem?_set_ne (Ne.symm hj)] at q
      exact hb.2 j o' hj q) fun j d v' q q2 => by
    obtain ⟨v2, z1, z2⟩ := r.frz q
    rw [z1] at q2
    cases q2
    exact z2
  have ho' : RO K (without' F' f) H' o f v := RO.mono s0 o f v (fun b hb u q => by rw [kH b hb]; exact q) ho
  obtain ⟨f2, f3, q1, q2, q3⟩ := Slots.put _ g σ i o f v sl2 (by rw [List.length_set]; exact hi) ho'
  rw [set_same hv, set_set] at q3
  have m3 : ∀ b ∈ f3, b ∈ f ∨ b ∈ fp' := fun b hb => by
    rcases List.mem_append.mp (q2.mem_iff.mp hb) with z | z
    · exact .inl z
    · exact .inr (gs.subset (q1.subset z))
  refine ⟨oF, apart, f3, ⟨fun b u q => ?_, fun b hb => ?_, q2.nodup_iff.mpr (List.nodup_append.mpr ⟨hnd, (r'.nd.sublist gs).sublist q1, fun x hx y hy z => ?_⟩), q3⟩, ⟨s0, fun b u q n => ?_, fun b q => ?_, fun b hb => ?_⟩, m3⟩
  · by_cases hb : b ∈ f
    · rw [without_in hb] at q; cases q
    · rw [without_out hb] at q; exact r'.sub b u q
  · rcases m3 b hb with z | z
    · exact without_in z
    · by_cases hf : b ∈ f
      · exact without_in hf
      · rw [without_out hf]; exact r'.fre b z
  · subst z
    exact apart x hx (gs.subset (q1.subset hy))
  · exact t.keep b u q fun z => n ((hfp b).mpr (.inr (hfr2 b z)))
  · by_cases hb : b ∈ f
    · rw [without_in hb] at q; exact absurd rfl q
    · rw [without_out hb] at q
      rcases t.new b q with z | z | z
      · rw [frzOf_out hb] at z; exact .inl z
      · exact .inr (.inl z)
      · exact .inr (.inr ((hfp b).mpr (.inr (hfr2 b z))))
  · rcases m3 b hb with z | z
    · exact .inl ((hfp b).mpr (.inl z))
    · rcases t.own b z with w | w
      · exact .inl ((hfp b).mpr (.inr (hfr2 b w)))
      · exact .inr w
end
open Classical in
/-- slot i lent while m runs; what m gives holds no list of it (ok) -/
noncomputable def mbor {α : Type} (ok : α → Bool) (i : Nat) (m : M α) : M α := fun ρ => match ρ[i]? with
  | some (some o) => if lfo o = true then (match m (ρ.set i (some (.frz o.toD))) with
    | .ok a ρ' => if ok a = true ∧ borOk i ρ ρ' then .ok a (ρ'.set i (some o)) else .bad
    | .exn c ρ' => if borOk i ρ ρ' then .exn c (ρ'.set i (some o)) else .bad
    | .bad => .bad) else .bad
  | _ => .bad
section
variable {K : PySem.W.Frag} {W : WX} {σ : St} {ρ : Env} {F H : Hp} {fp : List Addr}
theorem Out.bor {α β : Type} {rr : Hp → Hp → β → α → Prop} {ok : α → Bool} {i : Nat} {m : M α} {Q : β → Hp → Prop} (r : Rel K F H fp σ ρ) (o : Out K W σ F H fp rr Q (mbor ok i m ρ))
    (hrr : ∀ F' H' b a f, OnlyL F' f → ok a = true → rr F' H' b a → rr (without' F' f) H' b a) : ∃ F1 fp1 ρ1, Rel K F1 H fp1 σ ρ1 ∧ Out K W σ F1 H fp1 rr Q (m ρ1) := by
  unfold mbor at o
  split at o
  · rename_i t e
    split at o
    · rename_i hl
      obtain ⟨v, f, fr, hv, ho, hfp, hnd, hdj, fr2, hfr2, r2⟩ := r.lend e hl
      refine ⟨_, fr2, _, r2, ?_⟩
      cases q : m (ρ.set i (some (.frz t.toD))) with
      | bad => rw [q] at o; exact o.elim
      | ok a ρ' =>
        rw [q] at o
        simp only at o
        split at o
        · rename_i hc
          intro F' H' fp' b r' s' h'
          obtain ⟨oF, ap, fp2, r3, s3, m3⟩ := r.back e hl hv ho hfp hnd hdj hfr2 r' s' hc.2
          exact o _ H' fp2 b r3 s3 (hrr F' H' b a f oF hc.1 h')
        · exact o.elim
      | exn c ρ' =>
        rw [q] at o
        simp only at o
        split at o
        · rename_i hc
          intro F' H' fp' r' s'
          obtain ⟨oF, ap, fp2, r3, s3, m3⟩ := r.back e hl hv ho hfp hnd hdj hfr2 r' s' hc
          exact o _ H' fp2 r3 s3
        · exact o.elim
    · exact o.elim
  · exact o.elim
theorem OutO.bor {i : Nat} {m : M O} {Q : V → Hp → Prop} (r : Rel K F H fp σ ρ) (o : OutO K W σ F H fp Q (mbor lfo i m ρ)) : ∃ F1 fp1 ρ1, Rel K F1 H fp1 σ ρ1 ∧ OutO K W σ F1 H fp1 Q (m ρ1) := by
  unfold mbor at o
  split at o
  · rename_i t e
    split at o
    · rename_i hl
      obtain ⟨v, f, fr, hv, ho, hfp, hnd, hdj, fr2, hfr2, r2⟩ := r.lend e hl
      refine ⟨_, fr2, _, r2, ?_⟩
      cases q : m (ρ.set i (some (.frz t.toD))) with
      | bad => rw [q] at o; exact o.elim
      | ok a ρ' =>
        rw [q] at o
        simp only at o
        split at o
        · rename_i hc
          intro F' H' fp' b r' s'
          obtain ⟨f1, f2, b', σ', rfl, e1, h1, h2⟩ := r'.sl
          injection e1 with e1 e2
          injection e1 with e1
          subst e1 e2
          have nd' := List.nodup_append.mp r'.nd
          have rr : Rel K F' H' f2 σ ρ' := ⟨r'.sub, fun b hb => r'.fre b (List.mem_append_right _ hb), nd'.2.1, h2⟩
          have ss : Stp (frzOf F H f) H fr2 F' H' f2 := s'.trans (Stp.less fun b hb => List.mem_append_right _ hb)
          obtain ⟨oF, ap, fp2, r3, s3, m3⟩ := r.back e hl hv ho hfp hnd hdj hfr2 rr ss hc.2
          have nf : ∀ c ∈ f1, c ∉ f := fun c hc z => by
            obtain ⟨xs, q⟩ := oF c z
            rw [r'.fre c (List.mem_append_left _ hc)] at q; cases q
          refine o (without' F' f) H' (f1 ++ fp2) b ⟨r3.sub, fun c hc => ?_, List.nodup_append.mpr ⟨nd'.1, r3.nd, fun x hx y hy z => ?_⟩, ⟨f1, fp2, b, σ, rfl, rfl, RO.thaw oF a f1 b hc.1 h1, r3.sl⟩⟩ ⟨s3.sub, s3.keep, s3.new, fun c hc => ?_⟩
          · rcases List.mem_append.mp hc with z | z
            · rw [without_out (nf c z)]; exact r'.fre c (List.mem_append_left _ z)
            · exact r3.fre c z
          · subst z
            rcases m3 x hy with w | w
            · exact nf x hx w
            · exact nd'.2.2 x hx x w rfl
          · rcases List.mem_append.mp hc with z | z
            · rcases s'.own c (List.mem_append_left _ z) with w | w
              · exact .inl ((hfp c).mpr (.inr (hfr2 c w)))
              · exact .inr w
            · exact s3.own c z
        · exact o.elim
      | exn c ρ' =>
        rw [q] at o
        simp only at o
        split at o
        · rename_i hc
          intro F' H' fp' r' s'
          obtain ⟨oF, ap, fp2, r3, s3, m3⟩ := r.back e hl hv ho hfp hnd hdj hfr2 r' s' hc
          exact o _ H' fp2 r3 s3
        · exact o.elim
    · exact o.elim
  · exact o.elim
end
section
variable {X : Cx} {W : WX}
/-- an expression that gives data without lists -/
theorem ev_bor (i : Nat) {e : Expr} {m : M D} (h : EV X W e m) : EV X W e (mbor lf i m) := peW h fun σ H Q ⟨F, fp, ρ, r, o⟩ => by
  obtain ⟨F1, fp1, ρ1, r1, o1⟩ := Out.bor r o fun F' H' b a f oF hl p => Rp.thaw oF a b hl p
  exact ⟨F1, fp1, ρ1, r1, o1⟩
/-- .. a tree of its own -/
theorem eo_bor (i : Nat) {e : Expr} {m : M O} (h : EO X W e m) : EO X W e (mbor lfo i m) := peW h fun σ H Q ⟨F, fp, ρ, r, o⟩ => by
  obtain ⟨F1, fp1, ρ1, r1, o1⟩ := OutO.bor r o
  exact ⟨F1, fp1, ρ1, r1, o1⟩
/-- a test -/
theorem eb_bor (i : Nat) {e : Expr} {m : M Bool} (h : EB X W e m) : EB X W e (mbor (fun _ => true) i m) := ptW h fun σ H Q ⟨F, fp, ρ, r, o⟩ => by
  obtain ⟨F1, fp1, ρ1, r1, o1⟩ := Out.bor r o fun F' H' b a f oF hl p => p
  exact ⟨F1, fp1, ρ1, r1, o1⟩
end
end Z

namespace Z
open PySem PySem.Spec L2
/-! ## lists of one's own from operators and calls -/
def kcat : D → D → M O
  | .lst a, .lst b => if a.length + b.length ≤ sizeLine then mret (.lst ((a ++ b).map .frz)) else fun _ => .bad
  | _, _ => fun _ => .bad
def mcat (ma mb : M D) : M O := mbind ma fun x => mbind mb fun y => kcat x y
def klist : List D → M O
  | [.lst xs] => mret (.lst (xs.map .frz))
  | [.tup xs] => mret (.lst (xs.map .frz))
  | _ => fun _ => .bad
def mlistO (ms : M (List D)) : M O := mbind ms klist
def ksort1 : Option (List (Int × Int)) → M O
  | some ps => mret (.lst (((isort SrtO.lexB ps).map cardD).map .frz))
  | none => fun _ => .bad
def ksortO : List D → M O
  | [.lst es] => ksort1 (pairsD es)
  | _ => fun _ => .bad
def msortO (ms : M (List D)) : M O := mbind ms ksortO
section
variable {X : Cx} {W : WX}
theorem eo_cat {a b : Expr} {pos : Pos} {ma mb : M D} (ha : EV X W a ma) (hb : EV X W b mb) : EO X W (.BinOp a .Add b pos) (mcat ma mb) := by
  refine peW (pe_op op_catG ha hb) fun σ H Q ⟨F, fp, ρ, r, o⟩ => ⟨F, fp, ρ, r, Out.bindO o fun d1 ρ1 F1 H1 fp1 x _ r1 s1 p1 o1 => ⟨F1, fp1, ρ1, r1, Out.bindO o1 fun d2 ρ2 F2 H2 fp2 y _ r2 s2 p2 o2 => ?_⟩⟩
  cases d1 with
  | lst xs =>
    cases d2 with
    | lst ys =>
      have o2 : OutO X.K W σ F2 H2 fp2 Q ((if xs.length + ys.length ≤ sizeLine then mret (.lst ((xs ++ ys).map .frz)) else fun _ => .bad) ρ2) := o2
      split at o2
      · rename_i hl
        obtain ⟨l, vs, rfl, h1, h2⟩ := Rp.mono s2.sub _ _ p1
        obtain ⟨b, us, rfl, h3, h4⟩ := p2
        refine ⟨l, b, vs, us, rfl, rfl, Same.sql r2.sub h1, Same.sql r2.sub h3, by rw [← RpA.length h2, ← RpA.length h4]; exact hl, fun p hp => ?_⟩
        obtain ⟨r3, s3⟩ := r2.newL (h2.append h4) hp
        exact o2 _ _ _ (.ref p) r3 s3
      · exact o2.elim
    | _ => exact o2.elim
  | _ => exact o2.elim
theorem eo_list {x : Str} {p pos : Pos} {e : Expr} {es : List Expr} {ms : M (List D)} (hg : Gl X x) (hm : X.mg x = none) (hv : bootBuiltins x = some (.type "list")) (ha : EA X W (e :: es) ms)
    (hn : x ≠ "__name__" := by decide) (hd : (x == ("__debug__" : Str)) = false := by decide) (he : starEach (e :: es) X.env = (false, eval e X.env) :: starEach es X.env := by rfl) (hpl : (backTo pos (starEach es X.env)).any (·.1) = false := by rfl) :
    EO X W (.Call (.Name x p) (e :: es) [] pos) (mlistO ms) := by
  refine peW (pe_callTy call_list_of hg hm hv ha hn hd he hpl) fun σ H Q ⟨F, fp, ρ, r, o⟩ => ⟨F, fp, ρ, r, Out.bindO o fun ds ρ1 F1 H1 fp1 vs _ r1 s1 p1 o1 => ?_⟩
  unfold klist at o1
  split at o1
  · obtain ⟨v, rr, rfl, ⟨a, xs, rfl, h1, h2⟩, e2⟩ := p1
    rw [show rr = [] from e2]
    refine ⟨a, xs, rfl, .inl (Same.sql r1.sub h1), fun p hp => ?_⟩
    obtain ⟨r3, s3⟩ := r1.newL h2 hp
    exact o1 _ _ _ (.ref p) r3 s3
  · obtain ⟨v, rr, rfl, ⟨a, xs, rfl, h1, h2⟩, e2⟩ := p1
    rw [show rr = [] from e2]
    refine ⟨a, xs, rfl, .inr (Same.sqt r1.sub h1), fun p hp => ?_⟩
    obtain ⟨r3, s3⟩ := r1.newL h2 hp
    exact o1 _ _ _ (.ref p) r3 s3
  · exact o1.elim
theorem eo_sorted {x : Str} {p pos : Pos} {e : Expr} {es : List Expr} {ms : M (List D)} (hg : Gl X x) (hm : X.mg x = none) (hv : bootBuiltins x = some (.builtin "sorted")) (ha : EA X W (e :: es) ms)
    (hn : x ≠ "__name__" := by decide) (hd : (x == ("__debug__" : Str)) = false := by decide) (he : starEach (e :: es) X.env = (false, eval e X.env) :: starEach es X.env := by rfl) (hpl : (backTo pos (starEach es X.env)).any (·.1) = false := by rfl) :
    EO X W (.Call (.Name x p) (e :: es) [] pos) (msortO ms) := by
  refine peW (pe_callB bi_sortedN hg hm hv ha hn hd he hpl) fun σ H Q ⟨F, fp, ρ, r, o⟩ => ⟨F, fp, ρ, r, Out.bindO o fun ds ρ1 F1 H1 fp1 vs _ r1 s1 p1 o1 => ?_⟩
  unfold ksortO at o1
  split at o1
  · rename_i es' _
    cases q : pairsD es' with
    | none => rw [q] at o1; exact o1.elim
    | some ps =>
      rw [q] at o1
      refine ⟨F1, es', ps, r1.sub, p1, q, fun b ys hb py => ?_⟩
      obtain ⟨r3, s3⟩ := r1.newL py hb
      exact o1 _ _ _ (.ref b) r3 s3
  · exact o1.elim
end
@[simp] theorem mcat_eq (a b : M D) : mcat a b = mbind a fun x => mbind b fun y => kcat x y := rfl
@[simp] theorem kcat_lst (a b : List D) : kcat (.lst a) (.lst b) = if a.length + b.length ≤ sizeLine then mret (.lst ((a ++ b).map .frz)) else fun _ => .bad := rfl
@[simp] theorem mlistO_eq (ms : M (List D)) : mlistO ms = mbind ms klist := rfl
@[simp] theorem klist_lst (a : List D) : klist [.lst a] = mret (.lst (a.map .frz)) := rfl
@[simp] theorem klist_tup (a : List D) : klist [.tup a] = mret (.lst (a.map .frz)) := rfl
@[simp] theorem msortO_eq (ms : M (List D)) : msortO ms = mbind ms ksortO := rfl
@[simp] theorem ksortO_cards (l : List (Int × Int)) : ksortO [.lst (l.map cardD)] = mret (.lst (((isort SrtO.lexB l).map cardD).map .frz)) := by
  show ksort1 (pairsD (l.map cardD)) = _
  rw [pairsD_cards]; rfl
/-! reckoning of lent slots -/
theorem lfs_map {α : Type} (f : α → D) (h : ∀ a, lf (f a) = true) : ∀ l : List α, lfs (l.map f) = true
  | [] => rfl
  | a :: l => by
    show (lf (f a) && lfs (l.map f)) = true
    rw [h a, lfs_map f h l]; rfl
theorem lfos_map {α : Type} (f : α → O) (h : ∀ a, lfo (f a) = true) : ∀ l : List α, lfos (l.map f) = true
  | [] => rfl
  | a :: l => by
    show (lfo (f a) && lfos (l.map f)) = true
    rw [h a, lfos_map f h l]; rfl
theorem lfos_frz : ∀ ds : List D, lfos (ds.map .frz) = lfs ds
  | [] => rfl
  | d :: ds => by
    show (lf d && lfos (ds.map .frz)) = (lf d && lfs ds)
    rw [lfos_frz ds]
@[simp] theorem lf_card (z : Int × Int) : lf (cardD z) = true := rfl
@[simp] theorem lfs_cards (l : List (Int × Int)) : lfs (l.map cardD) = true := lfs_map _ (fun _ => rfl) l
@[simp] theorem lfo_cards (l : List (Int × Int)) : lfo (.lst ((l.map cardD).map .frz)) = true := by
  show lfos _ = true
  rw [lfos_frz, lfs_cards]
theorem Pot.lf {k : Nat} {p : O} (h : Pot k p) : lfo p = true := by
  obtain ⟨a, b, s, rfl, _⟩ := h
  rfl
/-- what a lent slot's run gives -/
theorem mbor_ok {α : Type} {ok : α → Bool} {i : Nat} {m : M α} {ρ ρ' : Env} {o : O} {a : α} (e : ρ[i]? = some (some o)) (hl : lfo o = true) (h : m (ρ.set i (some (.frz o.toD))) = .ok a ρ') (ha : ok a = true) (hb : borOk i ρ ρ') : mbor ok i m ρ = .ok a (ρ'.set i (some o)) := by
  unfold mbor
  rw [e]
  simp only [hl, if_true, h]
  rw [if_pos ⟨ha, hb⟩]
/-- .. that leaves the frame alone -/
theorem borOk_same {i : Nat} {ρ : Env} {x : Option O} (h : ∀ (j : Nat) o, j ≠ i → ρ[j]? = some (some o) → lfo o = true ∨ ∃ d, o = .frz d) : borOk i ρ (ρ.set i x) := by
  refine ⟨List.length_set, fun j o' hj e => ?_⟩
  rw [List.getElem?_set_ne (Ne.symm hj)] at e
  rcases h j o' hj e with z | ⟨d, rfl⟩
  · exact .inl z
  · exact .inr ⟨d, rfl, e⟩
theorem mbor_same {α : Type} {ok : α → Bool} {i : Nat} {m : M α} {ρ : Env} {o : O} {a : α} (e : ρ[i]? = some (some o)) (hl : lfo o = true) (h : m (ρ.set i (some (.frz o.toD))) = .ok a (ρ.set i (some (.frz o.toD)))) (ha : ok a = true)
    (hb : ∀ (j : Nat) o, j ≠ i → ρ[j]? = some (some o) → lfo o = true ∨ ∃ d, o = .frz d) : mbor ok i m ρ = .ok a ρ := by
  rw [mbor_ok e hl h ha (borOk_same hb), set_set, set_same e]
/-! reckoning lent slots by simp -/
def slotBor (a b : Option O) : Prop := ∀ o', b = some o' → lfo o' = true ∨ ∃ d, o' = .frz d ∧ a = some (.frz d)
def borAll (ρ ρ' : Env) : Prop := ρ'.length = ρ.length ∧ ∀ (j : Nat) o', ρ'[j]? = some (some o') → lfo o' = true ∨ ∃ d, o' = .frz d ∧ ρ[j]? = some (some (.frz d))
@[simp] theorem slotBor_none {a : Option O} : slotBor a none ↔ True := ⟨fun _ => trivial, fun _ o' e => by cases e⟩
@[simp] theorem slotBor_frz {d : D} : slotBor (some (.frz d)) (some (.frz d)) ↔ True := ⟨fun _ => trivial, fun _ o' e => by cases e; exact .inr ⟨d, rfl, rfl⟩⟩
@[simp] theorem slotBor_lf {a : Option O} {o : O} (h : lfo o = true) : slotBor a (some o) ↔ True := ⟨fun _ => trivial, fun _ o' e => by cases e; exact .inl h⟩
@[simp] theorem borAll_nil : borAll [] [] ↔ True := ⟨fun _ => trivial, fun _ => ⟨rfl, fun j o' e => by cases e⟩⟩
@[simp] theorem borAll_cons {a b : Option O} {ρ ρ' : Env} : borAll (a :: ρ) (b :: ρ') ↔ slotBor a b ∧ borAll ρ ρ' := by
  constructor
  · intro ⟨h1, h2⟩
    refine ⟨fun o' e => ?_, by simpa using h1, fun j o' e => h2 (j + 1) o' e⟩
    rcases h2 0 o' (by rw [e]; rfl) with z | ⟨d, z1, z2⟩
    · exact .inl z
    · exact .inr ⟨d, z1, by simpa using z2⟩
  · intro ⟨h1, h2, h3⟩
    refine ⟨by simpa using h2, fun j o' e => ?_⟩
    cases j with
    | zero =>
      rcases h1 o' (by simpa using e) with z | ⟨d, z1, z2⟩
      · exact .inl z
      · exact .inr ⟨d, z1, by rw [z2]; rfl⟩
    | succ j => exact h3 j o' e
@[simp] theorem borOk_zero {a b : Option O} {ρ ρ' : Env} : borOk 0 (a :: ρ) (b :: ρ') ↔ borAll ρ ρ' := by
  constructor
  · intro ⟨h1, h2⟩
    exact ⟨by simpa using h1, fun j o' e => h2 (j + 1) o' (by omega) e⟩
  · intro ⟨h1, h2⟩
    refine ⟨by simpa using h1, fun j o' hj e => ?_⟩
    cases j with
    | zero => exact absurd rfl hj
    | succ j => exact h2 j o' e
@[simp] theorem borOk_succ {i : Nat} {a b : Option O} {ρ ρ' : Env} : borOk (i + 1) (a :: ρ) (b :: ρ') ↔ slotBor a b ∧ borOk i ρ ρ' := by
  constructor
  · intro ⟨h1, h2⟩
    refine ⟨fun o' e => ?_, by simpa using h1, fun j o' hj e => h2 (j + 1) o' (by omega) e⟩
    rcases h2 0 o' (by omega) (by rw [e]; rfl) with z | ⟨d, z1, z2⟩
    · exact .inl z
    · exact .inr ⟨d, z1, by simpa using z2⟩
  · intro ⟨h1, h2, h3⟩
    refine ⟨by simpa using h2, fun j o' hj e => ?_⟩
    cases j with
    | zero =>
      rcases h1 o' (by simpa using e) with z | ⟨d, z1, z2⟩
      · exact .inl z
      · exact .inr ⟨d, z1, by rw [z2]; rfl⟩
    | succ j => exact h3 j o' (by omega) e
open Classical in
@[simp] theorem mbor_ap {α : Type} (ok : α → Bool) (i : Nat) (m : M α) (ρ : Env) : mbor ok i m ρ = match ρ[i]? with
  | some (some o) => if lfo o = true then (match m (ρ.set i (some (.frz o.toD))) with
    | .ok a ρ' => if ok a = true ∧ borOk i ρ ρ' then .ok a (ρ'.set i (some o)) else .bad
    | .exn c ρ' => if borOk i ρ ρ' then .exn c (ρ'.set i (some o)) else .bad
    | .bad => .bad) else .bad
  | _ => .bad := rfl
@[simp] theorem lfo_frz (d : D) : lfo (.frz d) = lf d := rfl
@[simp] theorem lfo_lst (os : List O) : lfo (.lst os) = lfos os := rfl
@[simp] theorem lfos_nil : lfos [] = true := rfl
@[simp] theorem lfos_cons (o : O) (os : List O) : lfos (o :: os) = (lfo o && lfos os) := rfl
@[simp] theorem lfs_nil : lfs [] = true := rfl
@[simp] theorem lfs_cons (o : D) (os : List D) : lfs (o :: os) = (lf o && lfs os) := rfl
@[simp] theorem lfos_frzs (ds : List D) : lfos (ds.map .frz) = lfs ds := lfos_frz ds
@[simp] theorem lfs_app (a b : List D) : lfs (a ++ b) = (lfs a && lfs b) := by
  induction a with
  | nil => rfl
  | cons x a ih => rw [List.cons_append, lfs_cons, lfs_cons, ih, Bool.and_assoc]
@[simp] theorem lf_int (i : Int) : lf (.int i) = true := rfl
@[simp] theorem lf_bl (i : Bool) : lf (.bl i) = true := rfl
@[simp] theorem lf_str (i : Str) : lf (.str i) = true := rfl
@[simp] theorem lf_non : lf .non = true := rfl
@[simp] theorem lf_tup (ds : List D) : lf (.tup ds) = lfs ds := rfl
/-- for runs with lent slots: simp [bors, ..] -/
theorem bors_dummy : True := trivial
end Z

namespace Z
open PySem PySem.Spec L2
/-! ## x = [.. for ..] while slots are lent -/
def TowLe (K : PySem.W.Frag) (W : WX) (m' m : M O) : Prop := ∀ σ H Q, TOw K W m' σ H Q → TOw K W m σ H Q
theorem tow_id {K : PySem.W.Frag} {W : WX} {m : M O} : TowLe K W m m := fun _ _ _ h => h
theorem tow_bor {K : PySem.W.Frag} {W : WX} (i : Nat) {m' m : M O} (h : TowLe K W m' m) : TowLe K W (mbor lfo i m') m := fun σ H Q ⟨F, fp, ρ, r, o⟩ => by
  obtain ⟨F1, fp1, ρ1, r1, o1⟩ := OutO.bor r o
  exact h σ H Q ⟨F1, fp1, ρ1, r1, o1⟩
section
variable {X : Cx} {W : WX} {pr : List Nat}
theorem sv_setLcG {i : Nat} {y : Str} {py : Pos} {elt tg iter : Expr} {ifs : List Expr} {scope : Scope} {own : List (Str × Nat)} {pos spos : Pos} {im : M (List D)} {g : D → Env → Option Env} {mt : M Bool} {me : M D} {ts : List Nat} {m' : M O} (hle : TowLe X.K W m' (mlc (own.map (·.2)) im g mt me)) (hc : X.calm = true) (hN : X.N.Nodup) (hy : X.N[i]? = some y) (hyl : X.env.scope.names.lookup y = some .local)
    (hsw : swapsWith (.ListComp elt [⟨tg, iter, ifs, 0⟩] scope pos) (some (.Name y py)) spos.line X.env = pure true) (hi : IV X W tg iter im) (ok : BlkOk X.N X.env.scope scope own)
    (hg : ∀ (s : Shared) (H : Hp) (C : Addr) (cl : List (Str × Addr)) (fp : List Addr), GV (X.blk s H scope (compEnvC scope cl C X.env) fp) ts tg g) (ht : ∀ (s : Shared) (H : Hp) (C : Addr) (cl : List (Str × Addr)) (fp : List Addr), PTV (X.blk s H scope (compEnvC scope cl C X.env) fp) ifs mt)
    (he : ∀ (s : Shared) (H : Hp) (C : Addr) (cl : List (Str × Addr)) (fp : List Addr), EV (X.blk s H scope (compEnvC scope cl C X.env) fp) W0 elt me) (hts : ∀ i ∈ ts, i ∈ own.map (·.2) := by decide) (hp : pr.contains i = false := by rfl) (hs : ∀ x, foldedSetIterable iter X.env x = pure x := by intro _; rfl) :
    SV X W pr (.Assign [.Name y py] (.ListComp elt [⟨tg, iter, ifs, 0⟩] scope pos) spos) (ssetO i m') := by
  refine psW (ps_setLc (g := TGd X.K ts g) (tt := TB X.K W0 mt) (te := TM X.K W0 me) hc hN hy hyl hsw hi ok hg ht he hs) fun D σ H ⟨F, fp, ρ, r, o⟩ => ?_
  refine TLC hts σ H _ (hle σ H _ ⟨F, fp, ρ, r, o.liftO fun d ρ1 F1 H1 fp1 v _ r1 s1 o1 => ?_⟩)
  unfold ksetO at o1
  split at o1
  · rename_i hl
    obtain ⟨fp2, r2, m2⟩ := r1.store hl
    exact o1 F1 H1 fp2 _ r2 (Stp.less m2) (Prt.set hp)
  · exact o1.elim
theorem sv_setLcDG {i : Nat} {y : Str} {py : Pos} {elt tg iter : Expr} {ifs : List Expr} {scope : Scope} {own : List (Str × Nat)} {pos spos : Pos} {im : M (List D)} {g : D → Env → Option Env} {mt : M Bool} {me : M D} {ts : List Nat} {m' : M O} (hle : TowLe X.K W m' (mlc (own.map (·.2)) im g mt me)) (hc : X.calm = true) (hN : X.N.Nodup) (hy : X.N[i]? = some y) (hyl : X.env.scope.names.lookup y = some .local)
    (hsw : swapsWith (.ListComp elt [⟨tg, iter, ifs, 0⟩] scope pos) (some (.Name y py)) spos.line X.env = pure true) (hi : IV X W tg iter im) (ok : BlkOk X.N X.env.scope scope own)
    (hg : ∀ (s : Shared) (H : Hp) (C : Addr) (cl : List (Str × Addr)) (fp : List Addr), GV (X.blk s H scope (compEnvC scope cl C X.env) fp) ts tg g) (ht : ∀ (s : Shared) (H : Hp) (C : Addr) (cl : List (Str × Addr)) (fp : List Addr), PTV (X.blk s H scope (compEnvC scope cl C X.env) fp) ifs mt)
    (he : ∀ (s : Shared) (H : Hp) (C : Addr) (cl : List (Str × Addr)) (fp : List Addr), EV (X.blk s H scope (compEnvC scope cl C X.env) fp) W0 elt me) (hts : ∀ i ∈ ts, i ∈ own.map (·.2) := by decide) (hp : pr.contains i = false := by rfl) (hs : ∀ x, foldedSetIterable iter X.env x = pure x := by intro _; rfl) :
    SV X W pr (.Assign [.Name y py] (.ListComp elt [⟨tg, iter, ifs, 0⟩] scope pos) spos) (ssetD i (mbind m' fun o => mret o.toD)) := by
  refine psW (ps_setLc (g := TGd X.K ts g) (tt := TB X.K W0 mt) (te := TM X.K W0 me) hc hN hy hyl hsw hi ok hg ht he hs) fun D σ H ⟨F, fp, ρ, r, o⟩ => ?_
  refine TLC hts σ H _ (hle σ H _ ⟨F, fp, ρ, r, ?_⟩)
  have o' : SOut X.K W pr σ F H fp D (slift m' (fun o => ksetO i (.frz o.toD)) ρ) := by
    unfold ssetD slift mbind at o
    unfold slift
    cases e : m' ρ with
    | ok a ρ1 => simp only [e] at o; exact o
    | exn c ρ1 => simp only [e] at o; exact o
    | bad => simp only [e] at o; exact o
  refine o'.liftO fun t ρ1 F1 H1 fp1 v _ r1 s1 o1 => ?_
  unfold ksetO at o1
  split at o1
  · rename_i hl
    obtain ⟨F2, fp2, r2, s2, p2⟩ := r1.freeze
    obtain ⟨fp3, r3, m3⟩ := (r2.push p2).store hl
    exact o1 F2 H1 fp3 _ r3 (s2.trans (Stp.less m3)) (Prt.set hp)
  · exact o1.elim
end
end Z

namespace Z
open PySem PySem.Spec L2
/-! ## len(set(t)), t a tuple or list of tuples of whole numbers -/
abbrev setO0 (w : World) : Obj := { cls := .type "set", dict := none, data := .set #[] 0 (.fresh 0 0 (!w.params.followText "set-order")) }
section
open PyProof.Rows
variable {P : Program} {w : World} {A : Around} {E : Value → Shared → Prop} {s : Shared}
set_option maxHeartbeats 3200000 in
theorem set_of_tuple {l : Addr} {items : Array Value} (ks : List (Addr × List Int)) {Q : Value → Shared → Prop} (hh : A.handled = none) (hl : s.heap.IsTuple l items) (hit : items.toList = ks.map fun p => Value.ref p.1)
    (hk : ∀ p ∈ ks, IsT P w s.heap p.2 p.1) (hfew : ks.length < 64) (hu : A.units + 3 < cLine)
    (fin : ∀ (hp : Heap) (tk : Nat) L es ep t, SetTR P w hp s.heap.objs.size L es ep t → Got ks ks.length L → (∀ b o, s.heap.get? b = some o → hp.get? b = some o) → Q (.ref s.heap.objs.size) { s with heap := hp, toks := tk }) :
    wpAny (model P w) A (call (.type "set") [.ref l]) Q E s := by
  have hisz : items.size = ks.length := by rw [← Array.length_toList, hit, List.length_map]
  obtain ⟨c, tl, hmro⟩ := F.called_set.mro
  have made := F.called_set.made
  have subs := F.called_set.sub
  refine wpAny_call (codeAny_of_tree (?_ : wpAny _ _ (callAny (.type "set") _) _ _ _))
  refine wpAny_pure ⟨Code.quiet_builtin _ (by decide +kernel), codeAny_builtin F.entry_type_call ?_⟩
  rw [Around.under_plain (weight_type_call_type "set" [.ref l] []) rfl]
  have k1 := F.called_set.notType
  have k2 := F.called_set.canCreate
  have k3 := F.typeCall_set_1 (.ref l)
  repeat (any_goals (first | assumption | wp_step))
  refine codeAny_mono (code_set_led1 (.ref l) (E := E) (Q₁ := fun ob s₁ => ob = .ref s.heap.objs.size ∧ s₁ = { s with heap := s.heap.push (setO0 w) }) ⟨rfl, rfl⟩) fun r s₁ hr => ?_
  cases r with
  | error e => exact hr
  | ok fl => cases fl with
    | ret ob =>
      obtain ⟨rfl, rfl⟩ := hr
      have hS : (s.heap.push (setO0 w)).get? s.heap.objs.size = some (setO0 w) := Heap.get?_push_size _ rfl
      have hT : Shared.TypeIs { s with heap := s.heap.push (setO0 w) } (.ref s.heap.objs.size) "set" := ⟨_, hS, rfl⟩
      have k4 := F.called_set.init.lookup
      have k5 := F.called_set.init.bind (.ref s.heap.objs.size)
      repeat (any_goals (first | assumption | wp_step))
      refine codeAny_mono (codeAny_call_builtin (R := wants (fun r s₂ => r = .none ∧ ∃ hp tk L es ep t, s₂ = { s with heap := hp, toks := tk } ∧ SetTR P w hp s.heap.objs.size L es ep t ∧ Got ks ks.length L ∧ (∀ b o, s.heap.get? b = some o → hp.get? b = some o)) E)
        F.called_set.init.plain F.entry_set_init (check_set_init_1 hT ?_)) fun r₂ s₂ hr₂ => ?_
      · obtain ⟨⟨ocls, odict, odata, oslots⟩, hol, hcl, nl, hdl⟩ := hl
        simp only at hcl hdl
        subst hcl; subst hdl
        have hol2 : (s.heap.push (setO0 w)).get? l = some { cls := .type "tuple", dict := odict, data := .seq items nl, slots := oslots } := Heap.get?_push_of_some _ hol
        have q1 := F.sub_tuple_set
        have q2 := F.sub_tuple_frozenset
        have q3 : (Value.type "tuple" == Value.type "dict") = false := by decide
        have hl1 : (s.heap.push (setO0 w)).IsTuple l items := ⟨_, hol2, rfl, nl, rfl⟩
        unfold Builtin.«set.__init__» noKeywords Builtin.Frozenset.updateFrom
        generalize hPI : pyIter = PI
        wp_walk
        subst hPI
        refine wpAny_pyIter_tuple hl1 (wpAny_bind (wpAny_runValue ?_))
        have hlS : l < s.heap.objs.size := Heap.lt_size hol
        have hh3 : A.in1.in1.in1.handled = none := by simp [hh]
        have sz : (s.heap.push (setO0 w)).objs.size = s.heap.objs.size + 1 := Heap.size_push ..
        have neI : l ≠ (s.heap.push (setO0 w)).objs.size := by rw [sz]; exact Nat.ne_of_lt (Nat.lt_succ_of_lt hlS)
        have nin : s.heap.objs.size ∉ [(s.heap.push (setO0 w)).objs.size, l] := by
          rw [sz]
          simp only [List.mem_cons, List.not_mem_nil, or_false, not_or]
          exact ⟨Nat.ne_of_lt (Nat.lt_succ_self _), Nat.ne_of_gt hlS⟩
        have hval : ∀ (i : Nat) (v : Value), items[i]? = some v → ∃ p, ks[i]? = some p ∧ v = .ref p.1 := fun i v hv => by
          have q : items.toList[i]? = some v := by rw [Array.getElem?_toList]; exact hv
          rw [hit, List.getElem?_map] at q
          obtain ⟨p, p1, p2⟩ := Option.map_eq_some_iff.1 q
          exact ⟨p, p1, p2.symm⟩
        have gone : ∀ b, s.heap.objs.size ≤ b → s.heap.get? b = none := fun b hb => by
          cases q : s.heap.get? b with
          | none => rfl
          | some o => exact absurd (Heap.lt_size q) (Nat.not_lt.2 hb)
        refine set_update_tups ((Walks.tuple hh3 _ l neI items).toS) s.heap.objs.size nin ks hisz hfew hval s.heap hk (gone _ (Nat.le_refl _))
          (fun b hb => gone b (by rw [List.mem_singleton.mp hb, sz]; exact Nat.le_succ _)) hu (items.size - 0) 0 _ (by omega) (Nat.zero_le _)
          ⟨⟨_, Heap.get?_push_size _ rfl, rfl, rfl⟩, (hl1.push _)⟩ (fun b o e => Heap.get?_push_of_some _ (Heap.get?_push_of_some _ e)) ⟨[], #[], 0, _, setTR_fresh (Heap.get?_push_of_some _ hS), Got.zero ks⟩ ?_
        intro s' L es ep t hm hS' g' kp
        obtain ⟨hp, g2, d', tk', os'⟩ := s'
        have e1 : g2 = s.gens := hm.gens
        have e2 : d' = s.drawn := hm.drawn
        have e3 : os' = s.os := hm.os
        subst e1 e2 e3
        rw [hisz] at g'
        refine wpAny_pure (?_ : wpAny _ _ (ret Value.none) _ _ _)
        exact wpAny_pure ⟨rfl, hp, tk', L, es, ep, t, rfl, hS', g', kp⟩
      · cases r₂ with
        | error e => exact hr₂
        | ok fl₂ => cases fl₂ with
          | ret r =>
            obtain ⟨rfl, hp, tk, L, es, ep, t, rfl, hS', g', kp⟩ := hr₂
            repeat (any_goals (first | assumption | wp_step))
            exact fin _ _ _ _ _ _ hS' g' kp
          | _ => exact hr₂.elim
    | _ => exact hr.elim
end
/-! the rule -/
def pairsT : D → Option (List (Int × Int))
  | .lst ds => pairsD ds
  | .tup ds => pairsD ds
  | _ => none
/-- each once -/
def dedup {α : Type} [DecidableEq α] : List α → List α
  | [] => []
  | x :: l => if x ∈ l then dedup l else x :: dedup l
theorem mem_dedup {α : Type} [DecidableEq α] {y : α} : ∀ {l : List α}, y ∈ dedup l ↔ y ∈ l
  | [] => Iff.rfl
  | x :: l => by
    unfold dedup
    split
    · rename_i h
      rw [mem_dedup, List.mem_cons]
      constructor
      · exact .inr
      · rintro (rfl | h2)
        · exact h
        · exact h2
    · rw [List.mem_cons, List.mem_cons, mem_dedup]
theorem nodup_dedup {α : Type} [DecidableEq α] : ∀ l : List α, (dedup l).Nodup
  | [] => List.nodup_nil
  | x :: l => by
    unfold dedup
    split
    · exact nodup_dedup l
    · rename_i h
      exact List.nodup_cons.2 ⟨fun z => h (mem_dedup.1 z), nodup_dedup l⟩
theorem dedup_of {α : Type} [DecidableEq α] : ∀ {l : List α}, l.Nodup → dedup l = l
  | [], _ => rfl
  | x :: l, h => by
    have h := List.nodup_cons.1 h
    unfold dedup
    rw [if_neg h.1, dedup_of h.2]
theorem dedup_le {α : Type} [DecidableEq α] : ∀ l : List α, (dedup l).length ≤ l.length
  | [] => Nat.le_refl _
  | x :: l => by
    unfold dedup
    have := dedup_le l
    split <;> simp <;> omega
theorem dedup_lt {α : Type} [DecidableEq α] : ∀ {l : List α}, ¬ l.Nodup → (dedup l).length < l.length
  | [], h => absurd List.nodup_nil h
  | x :: l, h => by
    unfold dedup
    split
    · have := dedup_le l
      simp
      omega
    · rename_i hx
      have := dedup_lt (l := l) fun z => h (List.nodup_cons.2 ⟨hx, z⟩)
      simp
      exact this
theorem nodup_le {α : Type} [DecidableEq α] : ∀ {L l : List α}, L.Nodup → (∀ x ∈ L, x ∈ l) → L.length ≤ l.length
  | [], _, _, _ => Nat.zero_le _
  | x :: L, l, hn, h => by
    have hn := List.nodup_cons.1 hn
    have hx := h x List.mem_cons_self
    have := nodup_le (L := L) (l := l.erase x) hn.2 fun y hy => (List.mem_erase_of_ne (fun z => hn.1 (by rw [← z]; exact hy))).2 (h y (List.mem_cons_of_mem _ hy))
    have h2 := List.length_erase_of_mem hx
    have h3 := List.length_pos_of_mem hx
    simp
    omega
/-- how many unlike ones -/
def unlike (l : List (Int × Int)) : Nat := (dedup l).length
def klenset (d : D) : M D := match pairsT d with
  | some l => if l.length < 64 then mret (.int (unlike l)) else fun _ => .bad
  | none => fun _ => .bad
def mlenset (m : M D) : M D := mbind m klenset
theorem nodup_len {L l : List (Int × Int)} (hn : L.Nodup) (h1 : ∀ x ∈ L, x ∈ l) (h2 : ∀ x ∈ l, x ∈ L) : L.length = unlike l :=
  Nat.le_antisymm (nodup_le hn fun x hx => mem_dedup.2 (h1 x hx)) (nodup_le (nodup_dedup l) fun x hx => h2 x (mem_dedup.1 hx))
end Z

namespace Z
open PySem PySem.Spec L2
/-- where the pairs of a row stand -/
theorem RpA.at_pairs {K : PySem.W.Frag} {F : Hp} : ∀ {ps : List (Int × Int)} {vs : List V}, RpA K F (ps.map cardD) vs → ∃ ks : List (Addr × List Int), vs = ks.map (fun p => V.ref p.1) ∧ ks.map (·.2) = ps.map (fun z => [z.1, z.2]) ∧ ∀ p ∈ ks, SqT K F p.1 (p.2.map V.int)
  | [], _, h => ⟨[], h, rfl, fun p hp => by cases hp⟩
  | z :: ps, _, h => by
    obtain ⟨x, r, rfl, h1, h2⟩ := h
    obtain ⟨t, rfl, ht⟩ := h1.pair
    obtain ⟨ks, rfl, e2, e3⟩ := RpA.at_pairs h2
    refine ⟨(t, [z.1, z.2]) :: ks, rfl, by rw [List.map_cons, List.map_cons, e2], fun p hp => ?_⟩
    rcases List.mem_cons.1 hp with rfl | hp
    · exact ht
    · exact e3 p hp
section
variable {X : Cx} {W : WX}
open PyProof.Rows in
theorem ev_lenset {a : Expr} {m : M D} {p p2 q pos : Pos} (hc : X.calm = true) (hu : X.A.units + 64 < cLine) (hg : Gl X "len") (hm : X.mg "len" = none) (hg2 : Gl X "set") (hm2 : X.mg "set" = none) (ha : EV X W a m)
    (na : starEach [a] X.env = (false, eval a X.env) :: starEach [] X.env := by rfl) : EV X W (.Call (.Name "len" p) [.Call (.Name "set" p2) [a] [] q] [] pos) (mlenset m) := by
  refine ⟨fun pins s σ H Q I ⟨F, fp, ρ, r, o⟩ => ?_⟩
  refine Call_ (ld_blt I hg hm PySem.boot_len ?_)
  refine callWith_builtin1 (args_cons ?_ rfl) rfl rfl
  refine Call_ (ld_blt I hg2 hm2 boot_set ?_)
  refine callWith_type1 (args_cons (thn (ha.run pins s σ H (fun x H1 => ∃ (l : Addr) (ks : List (Addr × List Int)) (ps : List (Int × Int)), x = V.ref l ∧ (SqL X.K H1 l (ks.map fun p => V.ref p.1) ∨ SqT X.K H1 l (ks.map fun p => V.ref p.1)) ∧ (∀ p ∈ ks, SqT X.K H1 p.1 (p.2.map V.int)) ∧ ks.map (·.2) = ps.map (fun z => [z.1, z.2]) ∧ ks.length < 64 ∧ Q (.int (unlike ps)) H1) I ⟨F, fp, ρ, r, ?_⟩) fun v s1 ⟨x, H1, I1, r1, q1⟩ => args_nil ?_) na) na rfl
  · refine Out.bind o fun d ρ1 F1 H1 fp1 x _ r1 s1 p1 o1 => ?_
    unfold klenset at o1
    cases e : pairsT d with
    | none => rw [e] at o1; exact o1.elim
    | some ps =>
      rw [e] at o1
      simp only at o1
      split at o1
      · rename_i hl
        have fin : ∀ {a : Addr} {xs : List V}, RpA X.K F1 (ps.map cardD) xs → (SqL X.K F1 a xs ∨ SqT X.K F1 a xs) → ∃ (l : Addr) (ks : List (Addr × List Int)) (ps : List (Int × Int)), V.ref a = V.ref l ∧ (SqL X.K H1 l (ks.map fun p => V.ref p.1) ∨ SqT X.K H1 l (ks.map fun p => V.ref p.1)) ∧ (∀ p ∈ ks, SqT X.K H1 p.1 (p.2.map V.int)) ∧ ks.map (·.2) = ps.map (fun z => [z.1, z.2]) ∧ ks.length < 64 ∧ Q (.int (unlike ps)) H1 := by
          intro a xs h2 h1
          obtain ⟨ks, rfl, e2, e3⟩ := RpA.at_pairs h2
          have hlk : ks.length = ps.length := by have := congrArg List.length e2; simpa using this
          exact ⟨a, ks, ps, rfl, h1.elim (fun h => .inl (Same.sql r1.sub h)) (fun h => .inr (Same.sqt r1.sub h)), fun p hp => Same.sqt r1.sub (e3 p hp), e2, by omega, o1 F1 H1 fp1 _ r1 Stp.refl rfl⟩
        cases d with
        | lst ds =>
          have e : pairsD ds = some ps := e
          rw [pairsD_inv e] at p1
          obtain ⟨a, xs, rfl, h1, h2⟩ := p1
          exact fin h2 (.inl h1)
        | tup ds =>
          have e : pairsD ds = some ps := e
          rw [pairsD_inv e] at p1
          obtain ⟨a, xs, rfl, h1, h2⟩ := p1
          exact fin h2 (.inr h1)
        | _ => cases e
      · exact o1.elim
  · obtain ⟨l, ks, ps, rfl, hq, hk, e2, hl, q1⟩ := q1
    cases r1
    have len : ∀ {h' : Heap} {L es ep t}, SetTR X.prog X.w h' s1.heap.objs.size L es ep t → Got ks ks.length L → L.length = unlike ps := fun {h' L es ep t} R g => by
      have form : ∀ y ∈ L.map (·.2), ∃ z ∈ ps, y = [z.1, z.2] := fun y hy => by
        obtain ⟨p, hp, rfl⟩ := List.mem_map.1 hy
        have : p.2 ∈ ks.map (·.2) := List.mem_map.2 ⟨p, List.mem_of_mem_take (g.sub p hp), rfl⟩
        rw [e2] at this
        obtain ⟨z, hz, e⟩ := List.mem_map.1 this
        exact ⟨z, hz, e.symm⟩
      have back : ∀ z ∈ ps, [z.1, z.2] ∈ L.map (·.2) := fun z hz => by
        have : [z.1, z.2] ∈ ks.map (·.2) := by rw [e2]; exact List.mem_map.2 ⟨z, hz, rfl⟩
        obtain ⟨p, hp, e⟩ := List.mem_map.1 this
        rw [← e]
        exact g.all p (by rw [List.take_length]; exact hp)
      have nd := R.nd
      have hlen : L.length = (L.map (·.2)).length := by rw [List.length_map]
      rw [hlen]
      generalize L.map (·.2) = M at form back nd
      have hM : M = (M.map fun y => ((y.getD 0 0, y.getD 1 0) : Int × Int)).map fun z => [z.1, z.2] := by
        rw [List.map_map]
        conv => lhs; rw [← List.map_id M]
        apply List.map_congr_left
        intro y hy
        obtain ⟨z, _, rfl⟩ := form y hy
        rfl
      generalize M.map (fun y => ((y.getD 0 0, y.getD 1 0) : Int × Int)) = N at hM
      subst hM
      rw [List.length_map]
      refine nodup_len (List.Pairwise.of_map _ (fun a b h e => h (by rw [e])) nd) (fun x hx => ?_) fun x hx => ?_
      · obtain ⟨z, hz, e⟩ := form _ (List.mem_map.2 ⟨x, hx, rfl⟩)
        injection e with e1 e3
        injection e3 with e3
        have : x = z := Prod.ext e1 e3
        rw [this]
        exact hz
      · obtain ⟨z, hz, e⟩ := List.mem_map.1 (back x hx)
        injection e with e1 e3
        injection e3 with e3
        have : z = x := Prod.ext e1 e3
        rw [← this]
        exact hz
    have fin : ∀ (h' : Heap) (tk : Nat) L es ep t, SetTR X.prog X.w h' s1.heap.objs.size L es ep t → Got ks ks.length L → (∀ b o, s1.heap.get? b = some o → h'.get? b = some o) → wpAny (model X.prog X.w) X.A (call (.builtin "len") [.ref s1.heap.objs.size]) (EP X pins σ Q) X.xe { s1 with heap := h', toks := tk } := fun h' tk L es ep t R g kp => by
      have I2 : Inv X pins σ H1 { s1 with heap := h', toks := tk } := I1.kept fun b o e => kp b o e
      obtain ⟨o, ho, hex, hd⟩ := R.ob
      have hn := len R g
      have hz := SetTR.size (s := { s1 with heap := h', toks := tk }) R
      have hfw := R.few
      refine call_len_set (s := { s1 with heap := h', toks := tk }) ho hex hd (SetTR.fits (s := { s1 with heap := h', toks := tk }) R) (by rw [hz, hn]; rw [← hn]; omega) ⟨.int (unlike ps), H1, I2.tok _, ⟨_, by rw [hz, hn]⟩, q1⟩
    rcases hq with hq | hq
    · obtain ⟨its, rv, pl, hz⟩ := I1.list hq
      exact call_set_tups (P := X.prog) (w := X.w) ks (I1.ok.hd hc) pl.isList (by simpa using refs_of_vals rv) (fun p hp => I1.isT (hk p hp)) hl (by omega) fun h' tk L es ep t R g kp => args_nil (fin h' tk L es ep t R g kp)
    · obtain ⟨its, rv, pl, hz⟩ := I1.tuple hq
      exact set_of_tuple (P := X.prog) (w := X.w) ks (I1.ok.hd hc) (show s1.heap.IsTuple l its.toArray from pl) (by simpa using refs_of_vals rv) (fun p hp => I1.isT (hk p hp)) hl (by omega) fun h' tk L es ep t R g kp => args_nil (fin h' tk L es ep t R g kp)
end
@[simp] theorem mlenset_eq (m : M D) : mlenset m = mbind m klenset := rfl
@[simp] theorem klenset_lst (l : List (Int × Int)) : klenset (.lst (l.map cardD)) = if l.length < 64 then mret (.int (unlike l)) else fun _ => .bad := by
  unfold klenset pairsT
  simp only [pairsD_cards]
@[simp] theorem klenset_tup (l : List (Int × Int)) : klenset (.tup (l.map cardD)) = if l.length < 64 then mret (.int (unlike l)) else fun _ => .bad := by
  unfold klenset pairsT
  simp only [pairsD_cards]
end Z

namespace Z
open PySem PySem.Spec L2
/-! ## own lists within own lists; several own names set at once -/
section
variable {K : PySem.W.Frag} {F F' H H' : Hp} {σ : St} {ρ : Env} {fp fp' : List Addr}
/-- a temporary's tree is kept while the rest goes on -/
theorem Rel.under {v : V} {o : O} (r : Rel K F H fp (some v :: σ) (some o :: ρ)) : ∃ f1 f2, fp = f1 ++ f2 ∧ RO K F H o f1 v ∧ Rel K F H f2 σ ρ ∧
    ∀ {F' H' : Hp} {fp' : List Addr} {σ' : St} {ρ' : Env}, Rel K F' H' fp' σ' ρ' → Stp F H f2 F' H' fp' → Rel K F' H' (f1 ++ fp') (some v :: σ') (some o :: ρ') ∧ Stp F H fp F' H' (f1 ++ fp') := by
  obtain ⟨f1, f2, v', s', e, e1, h1, h2⟩ := id r.sl
  injection e1 with e1 e2
  injection e1 with e1
  subst e1 e2
  subst e
  have nd := List.nodup_append.mp r.nd
  refine ⟨f1, f2, rfl, h1, ⟨r.sub, fun b hb => r.fre b (List.mem_append_right _ hb), nd.2.1, h2⟩, fun {F' H' fp' σ' ρ'} r' t => ?_⟩
  have there : ∀ b ∈ f1, ∃ u, H b = some u := RO.there o f1 v h1
  have keep : ∀ b ∈ f1, ∀ u, H b = some u → H' b = some u := fun b hb u e => t.keep b u e fun z => nd.2.2 b hb b z rfl
  have fre : ∀ b ∈ f1, F' b = none := fun b hb => by
    cases q : F' b with
    | none => rfl
    | some u =>
      rcases t.new b (by rw [q]; intro z; cases z) with z | z | z
      · exact absurd (r.fre b (List.mem_append_left _ hb)) z
      · obtain ⟨w, e⟩ := there b hb
        rw [z] at e; cases e
      · exact absurd rfl (nd.2.2 b hb b z)
  have apart : ∀ b ∈ f1, b ∉ fp' := fun b hb z => by
    rcases t.own b z with w | w
    · exact nd.2.2 b hb b w rfl
    · obtain ⟨u, e⟩ := there b hb
      rw [w] at e; cases e
  refine ⟨⟨r'.sub, fun b hb => ?_, List.nodup_append.mpr ⟨nd.1, r'.nd, fun x hx y hy z => ?_⟩, ⟨f1, fp', v, σ', rfl, rfl, RO.mono t.sub o f1 v keep h1, r'.sl⟩⟩, ⟨t.sub, fun b u e n => t.keep b u e fun z => n (List.mem_append_right _ z), fun b e => ?_, fun b hb => ?_⟩⟩
  · rcases List.mem_append.mp hb with z | z
    · exact fre b z
    · exact r'.fre b z
  · subst z
    exact apart x hx hy
  · rcases t.new b e with z | z | z
    · exact .inl z
    · exact .inr (.inl z)
    · exact .inr (.inr (List.mem_append_right _ z))
  · rcases List.mem_append.mp hb with z | z
    · exact .inl (List.mem_append_left _ z)
    · rcases t.own b z with w | w
      · exact .inl (List.mem_append_right _ w)
      · exact .inr w
end
/-- x, y = a, b: trees of one's own -/
def sparO (i j : Nat) (a b : M O) : SM := slift a fun x => slift b fun y ρ => if i < ρ.length ∧ j < ρ.length then .nxt ((ρ.set i (some x)).set j (some y)) else .bad
@[simp] theorem sparO_eq (i j : Nat) (a b : M O) : sparO i j a b = slift a fun x => slift b fun y ρ => if i < ρ.length ∧ j < ρ.length then .nxt ((ρ.set i (some x)).set j (some y)) else .bad := rfl
section
variable {X : Cx} {W : WX} {pr : List Nat} {pos : Pos}
theorem sv_parO {i j : Nat} {x y : Str} {a b : Expr} {ma mb : M O} {px py pt : Pos} {kt k2 pt2} (hc : X.calm = true) (hN : X.N.Nodup) (hi : X.N[i]? = some x) (hj : X.N[j]? = some y) (hij : i ≠ j)
    (hx : X.env.scope.names.lookup x = some .local) (hy : X.env.scope.names.lookup y = some .local) (ha : EO X W a ma) (hb : EO X W b mb) (h1 : pr.contains i = false := by rfl) (h2 : pr.contains j = false := by rfl)
    (hst : starEach [a, b] X.env = (false, eval a X.env) :: starEach [b] X.env := by rfl) (hst2 : starEach [b] X.env = (false, eval b X.env) :: starEach [] X.env := by rfl)
    (hw : swappedStores [.Tuple [.Name x px, .Name y py] kt pt] (.Tuple [a, b] k2 pt2) X.env = pure (some [x, y]) := by rfl)
    (hs : swapsWithSole [.Tuple [.Name x px, .Name y py] kt pt] (.Tuple [a, b] k2 pt2) pos.line X.env = pure false := by rfl) :
    SV X W pr (.Assign [.Tuple [.Name x px, .Name y py] kt pt] (.Tuple [a, b] k2 pt2) pos) (sparO i j ma mb) := by
  refine psW (ps_par hc hN hi hj hij hx hy (pa_cons ha (pa_cons hb pa_nil hst2) hst) hw hs) fun D σ H ⟨F, fp, ρ, r, o⟩ => ⟨F, fp, ρ, r, o.liftO fun d ρ1 F1 H1 fp1 v _ r1 s1 o1 => ?_⟩
  obtain ⟨f1, f2, e, ho, r2, back⟩ := r1.under
  refine ⟨F1, f2, ρ1, r2, ?_⟩
  unfold slift at o1
  cases e2 : mb ρ1 with
  | ok d2 ρ2 =>
    rw [e2] at o1
    intro F2 H2 fp2 v2 r3 s3
    obtain ⟨r4, s4⟩ := back r3 s3
    have o2 := SOut.shift (pr := pr) (σ1 := σ) s4 Prt.refl o1
    have o2 : SOut X.K W pr σ F2 H2 (f1 ++ fp2) D (if i < ρ2.length ∧ j < ρ2.length then S.nxt ((ρ2.set i (some d)).set j (some d2)) else .bad) := o2
    refine ⟨v, v2, rfl, ?_⟩
    by_cases hl : i < ρ2.length ∧ j < ρ2.length
    · rw [if_pos hl] at o2
      obtain ⟨fp3, r5, m5⟩ := r4.store (i := i + 1) (by simp; exact hl.1)
      obtain ⟨fp4, r6, m6⟩ := Rel.store (σ := σ.set i (some v)) (ρ := ρ2.set i (some d)) r5 (i := j) (by rw [List.length_set]; exact hl.2)
      exact o2 F2 H2 fp4 _ r6 (Stp.less fun b hb => m5 b (m6 b hb)) ((Prt.set h1).trans (Prt.set h2))
    · rw [if_neg hl] at o2; exact o2.elim
  | exn c ρ2 =>
    rw [e2] at o1
    intro F2 H2 fp2 r3 s3
    have t : Stp F1 H1 fp1 F2 H2 fp2 := by
      rw [e]
      exact (Stp.less fun b hb => List.mem_append_right _ hb).trans s3
    exact o1 F2 H2 fp2 σ r3 t Prt.refl
  | bad => rw [e2] at o1; exact o1.elim
end
/-! ## a tree put behind a list -/
theorem ROA.snocO {K : PySem.W.Frag} {F H : Hp} {t : O} {f : List Addr} {w : V} (p : RO K F H t f w) : ∀ {os : List O} {fp : List Addr} {vs : List V}, ROA K F H os fp vs → ROA K F H (os ++ [t]) (fp ++ f) (vs ++ [w])
  | [], fp, _, h => by
    rw [h.1, h.2]
    exact ⟨f, [], w, [], by simp, rfl, p, rfl, rfl⟩
  | o :: os, _, _, h => by
    obtain ⟨f1, f2, x, r, rfl, rfl, h1, h2⟩ := h
    exact ⟨f1, f2 ++ f, x, _, List.append_assoc .., rfl, h1, ROA.snocO p h2⟩
section
variable {K : PySem.W.Frag} {F H : Hp} {fp : List Addr} {σ : St} {ρ : Env}
/-- one object of the frame's own is written: the frame behind it -/
theorem Rel.wrote {i : Nat} {o : O} {v : V} {f fr : List Addr} {b : Addr} {u : HO} (rsub : Same F H) (rfre : ∀ c ∈ fp, F c = none) (e : i < ρ.length) (hv : σ[i]? = some (some v)) (hs : Slots K F H (ρ.set i none) fr σ) (hp : ∀ c, c ∈ fr → c ∈ fp) (hnf : fr.Nodup) (hb : b ∈ fp) (hbf : b ∉ fr)
    (ho : RO K F (upd H b u) o f v) (hf : ∀ c ∈ f, c ∈ fp) (hfn : f.Nodup) (hd : ∀ c ∈ f, c ∉ fr) : ∃ fp', Rel K F (upd H b u) fp' σ (ρ.set i (some o)) ∧ Stp F H fp F (upd H b u) fp' := by
  have fb : F b = none := rfre b hb
  have hs2 : Slots K F (upd H b u) (ρ.set i none) fr σ := Slots.mono (Same.refl F) _ fr σ (fun c hc w q => by rw [upd_ne fun z => hbf (by rw [← z]; exact hc)]; exact q) hs
  obtain ⟨f2, f', q1, q2, q3⟩ := Slots.put _ fr σ i o f v hs2 (by rw [List.length_set]; exact e) ho
  rw [set_same hv, set_set] at q3
  have mem : ∀ c ∈ f', c ∈ fp := fun c hc => by
    rcases List.mem_append.mp (q2.mem_iff.mp hc) with z | z
    · exact hf c z
    · exact hp c (q1.subset z)
  refine ⟨f', ⟨fun c w q => ?_, fun c hc => rfre c (mem c hc), q2.nodup_iff.mpr (List.nodup_append.mpr ⟨hfn, hnf.sublist q1, fun x hx y hy z => ?_⟩), q3⟩, ⟨Same.refl F, fun c w q n => ?_, fun c q => .inl q, fun c hc => .inl (mem c hc)⟩⟩
  · rw [upd_ne fun z => by rw [z, fb] at q; cases q]
    exact rsub c w q
  · subst z
    exact hd x hx (q1.subset hy)
  · rw [upd_ne fun z => n (by rw [z]; exact hb)]
    exact q
/-- the first temporary goes into a list of the frame -/
theorem Rel.pushInto {w : V} {t : O} {os : List O} {v : V} {i : Nat} (r : Rel K F H fp (some w :: σ) (some t :: ρ)) (e : ρ[i]? = some (some (.lst os))) (hv : σ[i]? = some (some v)) :
    ∃ a xs, v = .ref a ∧ H a = some (.lst xs) ∧ xs.length = os.length ∧ ∃ fp', Rel K F (upd H a (.lst (xs ++ [w]))) fp' σ (ρ.set i (some (.lst (os ++ [t])))) ∧ Stp F H fp F (upd H a (.lst (xs ++ [w]))) fp' := by
  obtain ⟨f1, f2, w', s', efp, e1, h1, h2⟩ := id r.sl
  injection e1 with e1 e2
  injection e1 with e1
  subst e1 e2
  obtain ⟨v', g1, g2, q1, q2, q3, q4⟩ := Slots.take ρ f2 σ i _ h2 e
  rw [hv] at q1
  cases q1
  obtain ⟨a, xs, fr, rfl, rfl, hH, hA⟩ := q2
  have nd := r.nd
  rw [efp] at nd
  have nd := List.nodup_append.mp nd
  have nd2 := q4.nodup_iff.mp nd.2.1
  have nd3 := List.nodup_append.mp nd2
  have nda := List.nodup_cons.mp nd3.1
  have in2 : ∀ c, c ∈ a :: fr ∨ c ∈ g2 → c ∈ f2 := fun c h => q4.mem_iff.mpr (List.mem_append.mpr h)
  have a1 : a ∉ f1 := fun z => nd.2.2 a z a (in2 a (.inl List.mem_cons_self)) rfl
  refine ⟨a, xs, rfl, hH, (ROA.length hA).symm, ?_⟩
  have sn : ∀ c ∈ f1, c ≠ a := fun c hc z => a1 (by rw [← z]; exact hc)
  have h1' : RO K F (upd H a (.lst (xs ++ [w]))) t f1 w := RO.mono (Same.refl F) t f1 w (fun c hc u q => by rw [upd_ne (sn c hc)]; exact q) h1
  have hA' : ROA K F (upd H a (.lst (xs ++ [w]))) os fr xs := ROA.mono (Same.refl F) os fr xs (fun c hc u q => by rw [upd_ne fun z => nda.1 (by rw [← z]; exact hc)]; exact q) hA
  refine Rel.wrote (f := a :: (fr ++ f1)) (fr := g2) r.sub r.fre (lt_of_get e) hv q3 (fun c hc => by rw [efp]; exact List.mem_append_right _ (in2 c (.inr hc))) nd3.2.1 (by rw [efp]; exact List.mem_append_right _ (in2 a (.inl List.mem_cons_self))) (fun z => nd3.2.2 a List.mem_cons_self a z rfl)
    ⟨a, xs ++ [w], fr ++ f1, rfl, rfl, upd_same, ROA.snocO h1' hA'⟩ (fun c hc => ?_) (List.nodup_cons.mpr ⟨fun z => ?_, List.nodup_append.mpr ⟨nda.2, nd.1, fun x hx y hy z => ?_⟩⟩) fun c hc z => ?_
  · rw [efp]
    rcases List.mem_cons.mp hc with rfl | hc
    · exact List.mem_append_right _ (in2 _ (.inl List.mem_cons_self))
    · rcases List.mem_append.mp hc with hc | hc
      · exact List.mem_append_right _ (in2 c (.inl (List.mem_cons_of_mem _ hc)))
      · exact List.mem_append_left _ hc
  · rcases List.mem_append.mp z with z | z
    · exact nda.1 z
    · exact a1 z
  · subst z
    exact nd.2.2 x hy x (in2 x (.inl (List.mem_cons_of_mem _ hx))) rfl
  · rcases List.mem_cons.mp hc with rfl | hc
    · exact nd3.2.2 _ List.mem_cons_self _ z rfl
    · rcases List.mem_append.mp hc with hc | hc
      · exact nd3.2.2 c (List.mem_cons_of_mem _ hc) c z rfl
      · exact nd.2.2 c hc c (in2 c (.inr z)) rfl
/-- an item that is a list of data -/
theorem ROA.inner : ∀ {os : List O} {fr : List Addr} {xs : List V} {j : Nat} {ds : List D}, ROA K F H os fr xs → fr.Nodup → os[j]? = some (.lst (ds.map .frz)) → ∃ b zs, xs[j]? = some (.ref b) ∧ H b = some (.lst zs) ∧ RpA K F ds zs ∧ b ∈ fr ∧
    ∀ ds' zs', RpA K F ds' zs' → ROA K F (upd H b (.lst zs')) (os.set j (.lst (ds'.map .frz))) fr xs
  | [], _, _, _, _, _, _, e => by simp at e
  | o :: os, _, _, 0, ds, h, nd, e => by
    obtain ⟨f1, f2, x, r, rfl, rfl, h1, h2⟩ := h
    have e : o = .lst (ds.map .frz) := by simpa using e
    subst e
    obtain ⟨b, zs, fr, rfl, rfl, hH, hA⟩ := h1
    obtain ⟨rfl, hB⟩ := ROA.frzs hA
    have nd := List.nodup_cons.mp nd
    refine ⟨b, zs, rfl, hH, hB, List.mem_cons_self, fun ds' zs' h' => ⟨[b], f2, .ref b, r, rfl, rfl, ⟨b, zs', [], rfl, rfl, upd_same, ROA.of_data ds' zs' h'⟩, ROA.mono (Same.refl F) os f2 r (fun c hc u q => ?_) h2⟩⟩
    rw [upd_ne fun z => nd.1 (by rw [← z]; exact hc)]
    exact q
  | o :: os, _, _, j + 1, ds, h, nd, e => by
    obtain ⟨f1, f2, x, r, rfl, rfl, h1, h2⟩ := h
    have nd := List.nodup_append.mp nd
    obtain ⟨b, zs, q1, q2, q3, q4, q5⟩ := ROA.inner (j := j) h2 nd.2.1 (by simpa using e)
    refine ⟨b, zs, by simpa using q1, q2, q3, List.mem_append_right _ q4, fun ds' zs' h' => ⟨f1, f2, x, r, rfl, rfl, RO.mono (Same.refl F) o f1 x (fun c hc u q => ?_) h1, q5 ds' zs' h'⟩⟩
    rw [upd_ne fun z => nd.2.2 c hc b q4 z]
    exact q
/-- a list within a list of the frame is written -/
theorem Rel.inner {os : List O} {v : V} {i j : Nat} {ds : List D} (r : Rel K F H fp σ ρ) (e : ρ[i]? = some (some (.lst os))) (hv : σ[i]? = some (some v)) (ej : os[j]? = some (.lst (ds.map .frz))) :
    ∃ a xs b zs, v = .ref a ∧ H a = some (.lst xs) ∧ xs.length = os.length ∧ xs[j]? = some (.ref b) ∧ H b = some (.lst zs) ∧ RpA K F ds zs ∧
      ∀ ds' zs', RpA K F ds' zs' → ∃ fp', Rel K F (upd H b (.lst zs')) fp' σ (ρ.set i (some (.lst (os.set j (.lst (ds'.map .frz)))))) ∧ Stp F H fp F (upd H b (.lst zs')) fp' := by
  obtain ⟨v', g1, g2, q1, q2, q3, q4⟩ := Slots.take ρ fp σ i _ r.sl e
  rw [hv] at q1
  cases q1
  obtain ⟨a, xs, fr, rfl, rfl, hH, hA⟩ := q2
  have nd2 := q4.nodup_iff.mp r.nd
  have nd3 := List.nodup_append.mp nd2
  have nda := List.nodup_cons.mp nd3.1
  have inn : ∀ c, c ∈ a :: fr ∨ c ∈ g2 → c ∈ fp := fun c h => q4.mem_iff.mpr (List.mem_append.mpr h)
  obtain ⟨b, zs, k1, k2, k3, k4, k5⟩ := ROA.inner hA nda.2 ej
  refine ⟨a, xs, b, zs, rfl, hH, (ROA.length hA).symm, k1, k2, k3, fun ds' zs' h' => ?_⟩
  have ab : a ≠ b := fun z => nda.1 (by rw [z]; exact k4)
  exact Rel.wrote (f := a :: fr) (fr := g2) r.sub r.fre (lt_of_get e) hv q3 (fun c hc => inn c (.inr hc)) nd3.2.1 (inn b (.inl (List.mem_cons_of_mem _ k4))) (fun z => nd3.2.2 b (List.mem_cons_of_mem _ k4) b z rfl)
    ⟨a, xs, fr, rfl, rfl, by rw [upd_ne ab]; exact hH, k5 ds' zs' h'⟩ (fun c hc => inn c (.inl hc)) nd3.1 fun c hc z => nd3.2.2 c hc c z rfl
end
end Z

namespace Z
open PySem PySem.Spec L2
/-! ## x.append(e), e a tree of one's own -/
def ksappO (i : Nat) (t : O) : SM := fun ρ => match slotOf ρ i with
  | some (.lst os) => if os.length < sizeLine then .nxt (ρ.set i (some (.lst (os ++ [t])))) else .bad
  | _ => .bad
def sappO (i : Nat) (m : M O) : SM := fun ρ => match slotOf ρ i with
  | some (.lst _) => slift m (ksappO i) ρ
  | _ => .bad
section
variable {X : Cx} {W : WX} {pr : List Nat}
theorem sv_appO (i : Nat) {y : Str} {p2 apos cpos pos : Pos} {e : Expr} {m : M O} (he : EO X W e m) (hN : X.N[i]? = some y) (hvis : Vis X.env.scope y)
    (hd2 : (y == ("__debug__" : Str)) = false := by decide) (hcd : (y == ("__classdict__" : Str)) = false := by decide) (hst : starEach [e] X.env = (false, eval e X.env) :: starEach [] X.env := by rfl)
    (hbase : attributeBase (.Name y p2) "append" X.env (eval (.Name y p2) X.env) = eval (.Name y p2) X.env := by rfl)
    (hfew : ((backTo cpos (starEach [e] X.env)).all (fun x => !x.1) && (backToKw cpos (keywordEach [] X.env)).all (fun x => x.1.isSome)
      && decide ([e].length + ([] : List Keyword).length + (if ([] : List Keyword).isEmpty then 0 else 1) < 30)) = true := by rfl)
    (hline : (apos.endLine == cpos.line) = true := by rfl) (hplain : (backTo cpos (starEach [] X.env)).any (·.1) = false := by rfl)
    (hs : swapsWith (.Call (.Attribute (.Name y p2) "append" apos) [e] [] cpos) none pos.line X.env = pure false := by rfl) : SV X W pr (.Expr (.Call (.Attribute (.Name y p2) "append" apos) [e] [] cpos) pos) (sappO i m) := by
  refine psW (ps_expr (pe_bm PySem.F.plainAttrs_list PySem.F.slot_list_append PySem.F.type_list_append mt_append (pe_var hN hvis hd2 hcd) (pa_cons he pa_nil hst) hbase hfew hline hst hplain) hs) fun D σ H ⟨F, fp, ρ, r, o⟩ => ?_
  unfold sappO at o
  cases e0 : slotOf ρ i with
  | none => simp only [e0] at o; exact o.elim
  | some t =>
    simp only [e0] at o
    cases t with
    | lst os0 =>
      simp only at o
      obtain ⟨v, f1, f2, g1, g2, _, _⟩ := Slots.take ρ fp σ i _ r.sl (slotOf_some e0)
      obtain ⟨a, xs, fr, rfl, rfl, hH, hA⟩ := g2
      refine ⟨.ref a, g1, .inl ⟨rfl, xs, .inl (.inl hH)⟩, F, fp, ρ, r, o.liftO fun t ρ1 F1 H1 fp1 w _ r1 s1 o1 => ?_⟩
      unfold ksappO at o1
      cases e1 : slotOf ρ1 i with
      | none => simp only [e1] at o1; exact o1.elim
      | some t1 =>
        simp only [e1] at o1
        cases t1 with
        | lst os =>
          simp only at o1
          split at o1
          · rename_i hlen
            obtain ⟨a', xs', ea, hH', hl, fp2, r2, s2⟩ := r1.pushInto (slotOf_some e1) g1
            cases ea
            exact ⟨a, xs', w, rfl, rfl, hH', by omega, o1 F1 _ fp2 σ r2 s2 Prt.refl⟩
          · exact o1.elim
        | frz _ => simp only at o1; exact o1.elim
        | dct _ => simp only at o1; exact o1.elim
    | frz _ => simp only at o; exact o.elim
    | dct _ => simp only at o; exact o.elim
end
@[simp] theorem sappO_ap (i : Nat) (m : M O) (ρ : Env) : sappO i m ρ = match slotOf ρ i with
  | some (.lst _) => slift m (ksappO i) ρ
  | _ => .bad := rfl
@[simp] theorem ksappO_ap (i : Nat) (t : O) (ρ : Env) : ksappO i t ρ = match slotOf ρ i with
  | some (.lst os) => if os.length < sizeLine then .nxt (ρ.set i (some (.lst (os ++ [t])))) else .bad
  | _ => .bad := rfl
/-! ## l.remove(d), l.count(d), of data -/
/-- where the first item stands that is == d -/
def gplace (ds : List D) (d : D) : Option Nat := (pyOk (.lst ds)).bind fun p => (pyOk d).bind fun q => match p with
  | .list ps => PySem.SeqAt.dataPlace ps q
  | _ => none
theorem gplace_of {ds : List D} {d : D} {j : Nat} (h : gplace ds d = some j) : ∃ ps q, D.pys ds = some ps ∧ d.py = some q ∧ SeqAt.shaped (.list ps) = true ∧ SeqAt.shaped q = true ∧ PySem.SeqAt.dataPlace ps q = some j := by
  unfold gplace at h
  cases e1 : pyOk (.lst ds) with
  | none => rw [e1] at h; cases h
  | some p =>
    cases e2 : pyOk d with
    | none => rw [e1, e2] at h; cases h
    | some q =>
      rw [e1, e2] at h
      obtain ⟨k1, k2⟩ := pyOk_of e1
      obtain ⟨k3, k4⟩ := pyOk_of e2
      have k1 : (D.pys ds).map PyData.list = some p := k1
      obtain ⟨ps, k5, rfl⟩ := Option.map_eq_some_iff.mp k1
      exact ⟨ps, q, k5, k3, k2, k4, h⟩
section
variable {X : Cx}
def rRemD (K : PySem.W.Frag) : V → List V → Hp → VK → Prop := fun x xs H Q => ∃ (l : Addr) (y : V) (ps : List PyData) (q : PyData) (j : Nat) (zs : List V), x = .ref l ∧ xs = [y] ∧ H l = some (.lst zs) ∧ DpAll K H zs ps ∧ Dp K H y q ∧ SeqAt.shaped (.list ps) = true ∧ SeqAt.shaped q = true ∧ PySem.SeqAt.dataPlace ps q = some j ∧ Q .non (upd H l (.lst (zs.eraseIdx j)))
theorem mt_removeD (hu : X.A.units + 65 < cLine) : MtR X "list.remove" (rRemD X.K) := by
  intro pins s σ H x xs v us Q I rx rxs h
  obtain ⟨l, y, ps, q, j, zs, rfl, rfl, hH, hl, hy, sl, sd, hp, qq⟩ := h
  cases rx
  obtain ⟨u, rfl, ru⟩ := rxs.one
  obtain ⟨z, its, n, r, hlen, e⟩ := I.lstM hH
  obtain ⟨bs, r1⟩ := Dp.reads I q y u hy ru
  obtain ⟨as, h4⟩ := Dp.readsAll I ps zs its hl r
  have hxs : PyData.canLayAll0 ps = true := SeqAt.canLay_of_shaped sl
  have hroom : X.A.units + 1 + min (PyData.depthAll ps) q.depth < cLine := PyProof.Rows.room_in_shaped sd hu
  refine PySem.SeqAt.remove_list_data (l := l) (vs := its.toArray) (j := j) ⟨_, e, rfl, n, rfl⟩ (show ReadsAll s.heap its.toArray.toList ps as from h4) r1 (PyData.plainAll_of_canLay0 ps hxs) (PyData.plain_of_canLay0 q (SeqAt.canLay_of_shaped sd)) hroom hp (by rw [List.size_toArray]; omega) ?_
  refine ⟨.non, _, I.lset (its' := its.eraseIdx j) (t' := s.toks) hH e ?_ (r.eraseIdx j) ?_, rfl, qq⟩
  · show its.toArray.eraseIdxIfInBounds j = (its.eraseIdx j).toArray
    rw [List.eraseIdxIfInBounds_toArray]
  · have := List.length_eraseIdx_le zs j
    omega
end
/-! ## x[k].remove(y): y a name, x a list of lists of one's own -/
def oDs : List O → Option (List D)
  | [] => some []
  | .frz d :: os => (oDs os).map (d :: ·)
  | _ :: _ => none
theorem oDs_of : ∀ {os : List O} {ds : List D}, oDs os = some ds → os = ds.map .frz
  | [], _, e => by cases e; rfl
  | .frz d :: os, _, e => by
    obtain ⟨ds, e1, rfl⟩ := Option.map_eq_some_iff.mp (show (oDs os).map (d :: ·) = some _ from e)
    rw [oDs_of e1]; rfl
  | .lst _ :: _, _, e => by cases e
  | .dct _ :: _, _, e => by cases e
@[simp] theorem oDs_frz : ∀ ds : List D, oDs (ds.map .frz) = some ds
  | [] => rfl
  | d :: ds => by
    show (oDs (ds.map .frz)).map (d :: ·) = some (d :: ds)
    rw [oDs_frz ds]; rfl
def kremN (i v : Nat) (k : D) : SM := fun ρ => match k, ρ[i]?, ρ[v]? with
  | .int j, some (some (.lst os)), some (some (.frz d)) => match ixN os.length j with
    | some n => match os[n]? with
      | some (.lst is) => match oDs is with
        | some ds => match gplace ds d with
          | some m => .nxt (ρ.set i (some (.lst (os.set n (.lst ((ds.eraseIdx m).map .frz))))))
          | none => .bad
        | none => .bad
      | _ => .bad
    | none => .bad
  | _, _, _ => .bad
def sremN (i v : Nat) (m : M D) : SM := fun ρ => match ρ[i]? with
  | some (some (.lst _)) => slift m (kremN i v) ρ
  | _ => .bad
theorem RpA.erase {K : PySem.W.Frag} {F : Hp} : ∀ {ds : List D} {vs : List V} (n : Nat), RpA K F ds vs → RpA K F (ds.eraseIdx n) (vs.eraseIdx n)
  | [], _, n, h => by rw [show _ = [] from h]; exact rfl
  | d :: ds, _, 0, h => by
    obtain ⟨x, r, rfl, h1, h2⟩ := h
    exact h2
  | d :: ds, _, n + 1, h => by
    obtain ⟨x, r, rfl, h1, h2⟩ := h
    exact ⟨x, _, rfl, h1, RpA.erase n h2⟩
section
variable {X : Cx} {W : WX} {pr : List Nat}
theorem sv_remN (i v : Nat) {y z : Str} {p2 p3 ixpos apos cpos pos : Pos} {k : Expr} {m : M D} (hu : X.A.units + 65 < cLine) (hk : EV X W k m) (hN : X.N[i]? = some y) (hvis : Vis X.env.scope y) (hNz : X.N[v]? = some z) (hvz : Vis X.env.scope z) (hs : PlainIx k := by exact fun _ _ => rfl)
    (hd2 : (y == ("__debug__" : Str)) = false := by decide) (hcd : (y == ("__classdict__" : Str)) = false := by decide) (hd3 : (z == ("__debug__" : Str)) = false := by decide) (hcd3 : (z == ("__classdict__" : Str)) = false := by decide)
    (hst : starEach [Expr.Name z p3] X.env = (false, eval (Expr.Name z p3) X.env) :: starEach [] X.env := by rfl)
    (hbase : attributeBase (.Subscript (.Name y p2) k ixpos) "remove" X.env (eval (.Subscript (.Name y p2) k ixpos) X.env) = eval (.Subscript (.Name y p2) k ixpos) X.env := by rfl)
    (hfew : ((backTo cpos (starEach [Expr.Name z p3] X.env)).all (fun x => !x.1) && (backToKw cpos (keywordEach [] X.env)).all (fun x => x.1.isSome)
      && decide ([Expr.Name z p3].length + ([] : List Keyword).length + (if ([] : List Keyword).isEmpty then 0 else 1) < 30)) = true := by rfl)
    (hline : (apos.endLine == cpos.line) = true := by rfl) (hplain : (backTo cpos (starEach [] X.env)).any (·.1) = false := by rfl)
    (hsw : swapsWith (.Call (.Attribute (.Subscript (.Name y p2) k ixpos) "remove" apos) [.Name z p3] [] cpos) none pos.line X.env = pure false := by rfl) :
    SV X W pr (.Expr (.Call (.Attribute (.Subscript (.Name y p2) k ixpos) "remove" apos) [.Name z p3] [] cpos) pos) (sremN i v m) := by
  refine psW (ps_expr (pe_bm PySem.F.plainAttrs_list PySem.F.slot_list_remove PySem.F.type_list_remove (mt_removeD hu) (pe_ix (ix_list (X := X)) (pe_var hN hvis hd2 hcd) hk hs) (pa_cons (pe_var hNz hvz hd3 hcd3) pa_nil hst) hbase hfew hline hst hplain) hsw) fun D σ H ⟨F, fp, ρ, r, o⟩ => ?_
  unfold sremN at o
  split at o
  · rename_i os0 e0
    obtain ⟨v0, h1⟩ := r.val e0
    refine ⟨v0, h1, F, fp, ρ, r, o.lift fun kd ρ1 F1 H1 fp1 w _ r1 s1 p1 o1 => ?_⟩
    unfold kremN at o1
    split at o1
    · rename_i j os d e1 e2 _
      cases q1 : ixN os.length j with
      | none => simp only [q1] at o1; exact o1.elim
      | some n =>
        simp only [q1] at o1
        cases q2 : os[n]? with
        | none => simp only [q2] at o1; exact o1.elim
        | some t =>
          simp only [q2] at o1
          cases t with
          | lst is =>
            simp only at o1
            cases q3 : oDs is with
            | none => simp only [q3] at o1; exact o1.elim
            | some ds =>
              simp only [q3] at o1
              cases q4 : gplace ds d with
              | none => simp only [q4] at o1; exact o1.elim
              | some m' =>
                simp only [q4] at o1
                rw [oDs_of q3] at q2
                obtain ⟨a, xs, b, zs, rfl, hHa, hl, hx, hHb, hB, wr⟩ := r1.inner e1 h1 q2
                obtain ⟨dv, g1, g2⟩ := r1.frz e2
                obtain ⟨ps, q, k1, k2, k3, k4, k5⟩ := gplace_of q4
                have at_ : atI xs j = some (.ref b) := by
                  unfold atI
                  rw [hl, q1]
                  exact hx
                obtain ⟨fp2, r2, s2⟩ := wr (ds.eraseIdx m') (zs.eraseIdx m') (RpA.erase m' hB)
                refine ⟨a, xs, j, .ref b, rfl, p1, .inl (.inl hHa), at_, .inl ⟨rfl, zs, .inl (.inl hHb)⟩, dv, g1, ?_⟩
                exact ⟨b, dv, ps, q, m', zs, rfl, rfl, hHb, RpA.dp _ _ _ (RpA.mono r1.sub _ _ hB) k1, Rp.dp _ _ _ (Rp.mono r1.sub _ _ g2) k2, k3, k4, k5, o1 F1 _ fp2 σ r2 s2 Prt.refl⟩
          | frz _ => simp only at o1; exact o1.elim
          | dct _ => simp only at o1; exact o1.elim
    · exact o1.elim
  · exact o.elim
end
end Z

namespace Z
open PySem PySem.Spec L2
def mfrO (m : M D) : M O := mbind m fun d => mret (.frz d)
theorem eo_fr {X : Cx} {W : WX} {e : Expr} {m : M D} (h : EV X W e m) : EO X W e (mfrO m) := eo_of_ev h
@[simp] theorem mfrO_ap (m : M D) (ρ : Env) : mfrO m ρ = mbind m (fun d => mret (.frz d)) ρ := rfl
section
variable {X : Cx} {W : WX} {pr : List Nat} {pos : Pos}
/-- x, y = a, b: a name held in a cell among the targets, so that the pair is made -/
theorem sv_parC {i j : Nat} {x y : Str} {a b : Expr} {ma mb : M O} {px py pt : Pos} {kt k2 pt2} (hc : X.calm = true) (hN : X.N.Nodup) (hi : X.N[i]? = some x) (hj : X.N[j]? = some y) (hij : i ≠ j)
    (hx : Loc X.env.scope x) (hy : Loc X.env.scope y) (ha : EO X W a ma) (hb : EO X W b mb) (h1 : pr.contains i = false := by rfl) (h2 : pr.contains j = false := by rfl)
    (hfx : X.fn x = true ∨ X.env.scope.names.lookup x = some .local := by first | exact .inl rfl | exact .inr rfl) (hfy : X.fn y = true ∨ X.env.scope.names.lookup y = some .local := by first | exact .inl rfl | exact .inr rfl)
    (hst : starEach [a, b] X.env = (false, eval a X.env) :: starEach [b] X.env := by rfl) (hst2 : starEach [b] X.env = (false, eval b X.env) :: starEach [] X.env := by rfl)
    (hw : swappedStores [.Tuple [.Name x px, .Name y py] kt pt] (.Tuple [a, b] k2 pt2) X.env = pure none := by rfl)
    (hs : swapsWithSole [.Tuple [.Name x px, .Name y py] kt pt] (.Tuple [a, b] k2 pt2) pos.line X.env = pure false := by rfl)
    (g1 : (assignEach [.Tuple [.Name x px, .Name y py] kt pt] X.env).map (·.2) = [assign (.Tuple [.Name x px, .Name y py] kt pt) X.env] := by rfl)
    (g2 : (assignEach [.Name x px, .Name y py] X.env).map (·.2) = assign (.Name x px) X.env :: (assignEach [.Name y py] X.env).map (·.2) := by rfl)
    (g3 : (assignEach [.Name y py] X.env).map (·.2) = assign (.Name y py) X.env :: (assignEach [] X.env).map (·.2) := by rfl)
    (g4 : (assignEach [.Name x px, .Name y py] X.env).length = 2 := by rfl) (g5 : (assignEach [.Name x px, .Name y py] X.env).findIdx? (·.1) = none := by rfl) :
    SV X W pr (.Assign [.Tuple [.Name x px, .Name y py] kt pt] (.Tuple [a, b] k2 pt2) pos) (sparO i j ma mb) := by
  refine psW (ps_asg (pe_tup (pa_cons ha (pa_cons hb pa_nil hst2) hst)) (pg_tup hc (pgs_cons (pg_name hN hi hx hfx) (pgs_cons (pg_name hN hj hy hfy) pgs_nil g3) g2) g4 g5) hs hw g1) fun D σ H ⟨F, fp, ρ, r, o⟩ => ⟨F, fp, ρ, r, o.liftO fun d ρ1 F1 H1 fp1 v _ r1 s1 o1 => ?_⟩
  obtain ⟨f1, f2, e, ho, r2, back⟩ := r1.under
  refine ⟨F1, f2, ρ1, r2, ?_⟩
  unfold slift at o1
  cases e2 : mb ρ1 with
  | ok d2 ρ2 =>
    rw [e2] at o1
    intro F2 H2 fp2 v2 r3 s3
    obtain ⟨r4, s4⟩ := back r3 s3
    have o2 := SOut.shift (pr := pr) (σ1 := σ) s4 Prt.refl o1
    have o2 : SOut X.K W pr σ F2 H2 (f1 ++ fp2) D (if i < ρ2.length ∧ j < ρ2.length then S.nxt ((ρ2.set i (some d)).set j (some d2)) else .bad) := o2
    refine ⟨show 2 ≤ sizeLine by decide, fun p hp => ?_⟩
    by_cases hl : i < ρ2.length ∧ j < ρ2.length
    · rw [if_pos hl] at o2
      obtain ⟨r5, s5⟩ := r4.ext (Ext.one (o := .tup [v, v2]) r4.sub hp)
      obtain ⟨fp3, r6, m6⟩ := r5.store (i := i + 1) (by simp; exact hl.1)
      obtain ⟨fp4, r7, m7⟩ := Rel.store (σ := σ.set i (some v)) (ρ := ρ2.set i (some d)) r6 (i := j) (by rw [List.length_set]; exact hl.2)
      have s7 := s5.trans (Stp.less fun b hb => m6 b (m7 b hb))
      exact ⟨p, [v, v2], rfl, .inl (.inl upd_same), rfl, v, [v2], rfl, v2, [], rfl, rfl, o2 _ _ fp4 _ r7 s7 ((Prt.set h1).trans (Prt.set h2))⟩
    · rw [if_neg hl] at o2; exact o2.elim
  | exn c ρ2 =>
    rw [e2] at o1
    intro F2 H2 fp2 r3 s3
    have t : Stp F1 H1 fp1 F2 H2 fp2 := by
      rw [e]
      exact (Stp.less fun b hb => List.mem_append_right _ hb).trans s3
    exact o1 F2 H2 fp2 σ r3 t Prt.refl
  | bad => rw [e2] at o1; exact o1.elim
end
end Z

namespace Rn
open PySem PySem.Spec L2 Z
noncomputable section
/-- slots: 0 value, 1 least, 2 most -/
def m_whole_between : SM := (sretD (mand (mcb gisi (mcons (mvar 0) (mcons (mret (.opq (.ty "int"))) (mret [])))) (mand (mnotV (mcb gisi (mcons (mvar 0) (mcons (mret (.opq (.ty "bool"))) (mret []))))) (mchain gle gle (mvar 1) (mvar 0) (mvar 2)))))
def f_whole_between : List O → FR := runFn [false, false, false] 0 m_whole_between
/-- slots: 0 value, 1 count -/
def b_is_deck_0 : SM := (sif (mnotB (mtest (mfz (mcallN 3 f_whole_between (maE (mvar 1) (maE (mret (.int 1)) (maE (mret (.int 10)) (mret [])))))))) (sretD (mret (.bl false))) snxt)
def m_is_deck : SM := (sseq (sif (mif (mnotB (mtest (mcb gisi (mcons (mvar 0) (mcons (mret (.opq (.ty "tuple"))) (mret [])))))) (mret true) (mnotB (mtest (mchain gle gle (mret (.int 1)) (mcb glen (mcons (mvar 0) (mret []))) (mret (.int 4)))))) (sretD (mret (.bl false))) snxt)
  (sseq (sfor (mseq (mvar 0)) (gset 1) b_is_deck_0)
  (sretD (mop gle (mcb gsum (mcons (mvar 0) (mret []))) (mret (.int 32))))))
def f_is_deck : List O → FR := runFn [false] 1 m_is_deck
/-- slots: 0 value, 1 deck, 2 players, 3 each, 4 trump, 5 ruff, 6 head, 7 leader -/
def m_is_setup : SM := (sseq (sif (mif (mnotB (mtest (mcb gisi (mcons (mvar 0) (mcons (mret (.opq (.ty "tuple"))) (mret [])))))) (mret true) (mtest (mop gne (mcb glen (mcons (mvar 0) (mret []))) (mret (.int 7))))) (sretD (mret (.bl false))) snxt)
  (sseq (sasg (mvar 0) (gtup 7 (gscons (gset 1) (gscons (gset 2) (gscons (gset 3) (gscons (gset 4) (gscons (gset 5) (gscons (gset 6) (gscons (gset 7) gsnil)))))))))
  (sseq (sif (mif (mnotB (mtest (mfz (mcallN 1 f_is_deck (maE (mvar 1) (mret [])))))) (mret true) (mif (mnotB (mtest (mfz (mcallN 3 f_whole_between (maE (mvar 2) (maE (mret (.int 2)) (maE (mret (.int 4)) (mret [])))))))) (mret true) (mnotB (mtest (mfz (mcallN 3 f_whole_between (maE (mvar 3) (maE (mret (.int 1)) (maE (mret (.int 8)) (mret [])))))))))) (sretD (mret (.bl false))) snxt)
  (sseq (sif (mif (mtest (mop ggt (mop gmul (mvar 2) (mvar 3)) (mcb gsum (mcons (mvar 1) (mret []))))) (mret true) (mnotB (mtest (mfz (mcallN 3 f_whole_between (maE (mvar 7) (maE (mret (.int 0)) (maE (mop gsub (mvar 2) (mret (.int 1))) (mret []))))))))) (sretD (mret (.bl false))) snxt)
  (sseq (sif (mif (mtest (mop gisn (mvar 4) (mret .non))) (mnotB (mtest (mfz (mcallN 3 f_whole_between (maE (mvar 4) (maE (mret (.int 0)) (maE (mop gsub (mcb glen (mcons (mvar 1) (mret []))) (mret (.int 1))) (mret [])))))))) (mret false)) (sretD (mret (.bl false))) snxt)
  (sretD (mand (mcb gisi (mcons (mvar 5) (mcons (mret (.opq (.ty "bool"))) (mret [])))) (mcb gisi (mcons (mvar 6) (mcons (mret (.opq (.ty "bool"))) (mret [])))))))))))
def f_is_setup : List O → FR := runFn [false] 7 m_is_setup
/-- slots: 0 value -/
def m_need_setup : SM := (sseq (sif (mnotB (mtest (mfz (mcallN 1 f_is_setup (maE (mvar 0) (mret [])))))) sbad snxt)
  (sretD (mvar 0)))
def f_need_setup : List O → FR := runFn [false] 0 m_need_setup
/-- slots: 0 setup, 1 value -/
def m_fits_card : SM := (sseq (sif (mif (mnotB (mtest (mcb gisi (mcons (mvar 1) (mcons (mret (.opq (.ty "tuple"))) (mret [])))))) (mret true) (mtest (mop gne (mcb glen (mcons (mvar 1) (mret []))) (mret (.int 2))))) (sretD (mret (.bl false))) snxt)
  (sseq (sif (mnotB (mtest (mfz (mcallN 3 f_whole_between (maE (mop gix (mvar 1) (mret (.int 0))) (maE (mret (.int 0)) (maE (mop gsub (mcb glen (mcons (mop gix (mvar 0) (mret (.int 0))) (mret []))) (mret (.int 1))) (mret [])))))))) (sretD (mret (.bl false))) snxt)
  (sretD (mfz (mcallN 3 f_whole_between (maE (mop gix (mvar 1) (mret (.int 1))) (maE (mret (.int 0)) (maE (mop gsub (mop gix (mop gix (mvar 0) (mret (.int 0))) (mop gix (mvar 1) (mret (.int 0)))) (mret (.int 1))) (mret [])))))))))
def f_fits_card : List O → FR := runFn [false, false] 0 m_fits_card
/-- slots: 0 setup, 1 value -/
def m_need_card : SM := (sseq (sif (mnotB (mtest (mfz (mcallN 2 f_fits_card (maE (mvar 0) (maE (mvar 1) (mret []))))))) sbad snxt)
  (sretD (mvar 1)))
def f_need_card : List O → FR := runFn [false, false] 0 m_need_card
/-- slots: 0 trump, 1 card, 2 other_card -/
def m_stronger : SM := (sseq (sif (mtest (mop geq (mop gix (mvar 1) (mret (.int 0))) (mop gix (mvar 2) (mret (.int 0))))) (sretD (mop ggt (mop gix (mvar 1) (mret (.int 1))) (mop gix (mvar 2) (mret (.int 1))))) snxt)
  (sretD (mop geq (mop gix (mvar 1) (mret (.int 0))) (mvar 0))))
def f_stronger : List O → FR := runFn [false, false, false] 0 m_stronger
/-- slots: 0 setup, 1 card, 2 other_card -/
def m_beats : SM := (sseq (sexpr (mfz (mcallN 1 f_need_setup (maE (mvar 0) (mret [])))))
  (sretD (mfz (mcallN 3 f_stronger (maE (mop gix (mvar 0) (mret (.int 3))) (maE (mfz (mcallN 2 f_need_card (maE (mvar 0) (maE (mvar 1) (mret []))))) (maE (mfz (mcallN 2 f_need_card (maE (mvar 0) (maE (mvar 2) (mret []))))) (mret []))))))))
def f_beats : List O → FR := runFn [false, false, false] 0 m_beats
/-- slots: 0 law_cell -/
def m_law_pot : SM := (sretO (mlstO (mcons (mcb gmax2 (mcons (mret (.int 0)) (mcons (mop gsub (mcb gint (mcons (mvar 0) (mret []))) (mop gpow (mret (.int 10)) (mret (.int 18)))) (mret [])))) (mcons (mop gmod (mcb gint (mcons (mvar 0) (mret []))) (mret (.int 1000000000061))) (mcons (mret (.int 0)) (mret []))))))
def f_law_pot : List O → FR := runFn [false] 0 m_law_pot
/-- slots: 0 law_pot_here, 1 law_upto, 2 law_digit, 3 law_step, 4 law_blend -/
def m_law_out : SM := (sseq (sif (mtest (mop ggt (mixo 0 (mret (.int 0))) (mret (.int 0)))) (sseq (ssetD 2 (mop gmod (mcb gint (mcons (mixo 0 (mret (.int 0))) (mret []))) (mvar 1)))
  (sseq (sput 0 (mop gdiv (mixo 0 (mret (.int 0))) (mvar 1)) (mret (.int 0)))
  (sretD (mvar 2)))) snxt)
  (sseq (ssetD 3 (mop gadd (mixo 0 (mret (.int 2))) (mret (.int 1))))
  (sseq (sput 0 (mvar 3) (mret (.int 2)))
  (sseq (ssetD 4 (mop gmul (mop gadd (mixo 0 (mret (.int 1))) (mret (.int 3))) (mop gadd (mop gadd (mop gmul (mop gmul (mret (.int 97)) (mvar 3)) (mvar 3)) (mop gmul (mret (.int 5003)) (mvar 3))) (mret (.int 29)))))
  (sseq (ssetD 4 (mop gdiv (mop gmod (mcb gint (mcons (mop gadd (mop gadd (mop gmul (mvar 4) (mvar 4)) (mop gmul (mret (.int 611953)) (mvar 4))) (mvar 3)) (mret []))) (mret (.int 999999999961))) (mret (.int 217))))
  (sretD (mop gmod (mop gdiv (mop gmod (mcb gint (mcons (mop gadd (mop gadd (mop gmul (mvar 4) (mvar 4)) (mop gmul (mret (.int 3571)) (mvar 4))) (mop gmul (mret (.int 11)) (mvar 3))) (mret []))) (mret (.int 4294967291))) (mret (.int 64))) (mvar 1))))))))
def f_law_out : List O → FR := runFn [true, false] 3 m_law_out
/-- slots: 0 law_pot_here, 1 law_suits, 2 law_most, 3 law_deck, 4 law_k, 5 law_players, 6 law_each, 7 law_trump, 8 law_ruff, 9 law_head -/
def b_law_setup_0 : SM := (sapp 3 (mop gadd (mret (.int 1)) (mfz (mcallN 2 f_law_out (maI 0 (maE (mcb gmin2 (mcons (mcb gint (mcons (mvar 2) (mret []))) (mcons (mop gadd (mop gsub (mop gsub (mret (.int 33)) (mcbo gsum 3)) (mvar 1)) (mvar 4)) (mret [])))) (mret [])))))))
def m_law_setup : SM := (sseq (spar 1 2 (mop gadd (mret (.int 1)) (mfz (mcallN 2 f_law_out (maI 0 (maE (mret (.int 4)) (mret [])))))) (mop gix (mlst (mcons (mret (.int 3)) (mcons (mret (.int 10)) (mcons (mret (.int 5)) (mcons (mret (.int 10)) (mret [])))))) (mfz (mcallN 2 f_law_out (maI 0 (maE (mret (.int 4)) (mret [])))))))
  (sseq (ssetO 3 (mlstO (mret [])))
  (sseq (sfor (mrng1 (mcons (mvar 1) (mret []))) (gset 4) b_law_setup_0)
  (sseq (sif (mtest (mop glt (mcbo gsum 3) (mret (.int 2)))) (ssetO 3 (mlstO (mcons (mret (.int 2)) (mret [])))) snxt)
  (sseq (ssetD 5 (mop gadd (mret (.int 2)) (mfz (mcallN 2 f_law_out (maI 0 (maE (mcb gmin2 (mcons (mret (.int 3)) (mcons (mop gsub (mcbo gsum 3) (mret (.int 1))) (mret [])))) (mret [])))))))
  (sseq (ssetD 6 (mop gadd (mret (.int 1)) (mfz (mcallN 2 f_law_out (maI 0 (maE (mcb gmin2 (mcons (mret (.int 8)) (mcons (mop gdiv (mcbo gsum 3) (mvar 5)) (mret [])))) (mret [])))))))
  (sseq (ssetD 7 (mop gix (mlst (mcons (mret .non) (mcons (mfz (mcallN 2 f_law_out (maI 0 (maE (mcbo glen 3) (mret []))))) (mcons (mfz (mcallN 2 f_law_out (maI 0 (maE (mcbo glen 3) (mret []))))) (mret []))))) (mfz (mcallN 2 f_law_out (maI 0 (maE (mret (.int 3)) (mret [])))))))
  (sseq (spar 8 9 (mop geq (mfz (mcallN 2 f_law_out (maI 0 (maE (mret (.int 2)) (mret []))))) (mret (.int 0))) (mop geq (mfz (mcallN 2 f_law_out (maI 0 (maE (mret (.int 2)) (mret []))))) (mret (.int 0))))
  (sretD (mtup (mcons (mcb gtuple (mcons (mvar 3) (mret []))) (mcons (mvar 5) (mcons (mvar 6) (mcons (mvar 7) (mcons (mvar 8) (mcons (mvar 9) (mcons (mfz (mcallN 2 f_law_out (maI 0 (maE (mvar 5) (mret []))))) (mret []))))))))))))))))))
def f_law_setup : List O → FR := runFn [true] 9 m_law_setup
/-- slots: 0 law_game, 1 law_found, 2 law_suit, 3 law_rank -/
def c_law_cards_0 : M O := (mlc [3] (mrng1 (mcons (mop gix (mop gix (mvar 0) (mret (.int 0))) (mvar 2)) (mret []))) (gset 3) (mret true) (mtup (mcons (mvar 2) (mcons (mvar 3) (mret [])))))
def b_law_cards_1 : SM := (ssetO 1 (mbor lfo 1 (mcat (mvar 1) (mfz c_law_cards_0))))
def m_law_cards : SM := (sseq (ssetO 1 (mlstO (mret [])))
  (sseq (sfor (mrng1 (mcons (mcb glen (mcons (mop gix (mvar 0) (mret (.int 0))) (mret []))) (mret []))) (gset 2) b_law_cards_1)
  (sretO (mtake 1))))
def f_law_cards : List O → FR := runFn [false] 3 m_law_cards
/-- slots: 0 law_trump, 1 law_mine, 2 law_yours -/
def m_law_over : SM := (sretD (mor (mand (mop geq (mop gix (mvar 1) (mret (.int 0))) (mop gix (mvar 2) (mret (.int 0)))) (mop ggt (mop gix (mvar 1) (mret (.int 1))) (mop gix (mvar 2) (mret (.int 1))))) (mand (mop geq (mop gix (mvar 1) (mret (.int 0))) (mvar 0)) (mop gne (mop gix (mvar 2) (mret (.int 0))) (mvar 0)))))
def f_law_over : List O → FR := runFn [false, false, false] 0 m_law_over
/-- slots: 0 law_script, 1 law_cell, 2 law_pot_here, 3 law_game, 4 law_every, 5 law_k, 6 law_mine, 7 law_yours, 8 law_due, 9 law_told -/
def b_law_K03_0 : SM := (sseq (spar 6 7 (mop gix (mvar 4) (mfz (mcallN 2 f_law_out (maI 2 (maE (mcb glen (mcons (mvar 4) (mret []))) (mret [])))))) (mop gix (mvar 4) (mfz (mcallN 2 f_law_out (maI 2 (maE (mcb glen (mcons (mvar 4) (mret []))) (mret [])))))))
  (sseq (ssetD 8 (mfz (mcallN 3 f_law_over (maE (mop gix (mvar 3) (mret (.int 3))) (maE (mvar 6) (maE (mvar 7) (mret [])))))))
  (sseq (ssetD 9 (mlst (mcons (mfz (mcallN 3 f_beats (maE (mvar 3) (maE (mvar 6) (maE (mvar 7) (mret [])))))) (mcons (mfz (mcallK0 3 3 [2, 1, 0] f_beats (maE (mvar 7) (maE (mvar 6) (maE (mvar 3) (mret [])))))) (mret [])))))
  (sif (mif (mtest (mop gne (mcb grepr (mcons (mvar 9) (mret []))) (mcb grepr (mcons (mlst (mcons (mvar 8) (mcons (mvar 8) (mret [])))) (mret []))))) (mret true) (mif (mtest (mvar 8)) (mtest (mop gisn (mfz (mcallN 3 f_beats (maE (mvar 3) (maE (mvar 7) (maE (mvar 6) (mret [])))))) (mret (.bl false)))) (mret false))) (sretD (mret (.bl false))) snxt))))
def b_law_K03_1 : SM := (sseq (ssetO 2 (mcallN 1 f_law_pot (maE (mvar 1) (mret []))))
  (sseq (ssetD 3 (mfz (mcallN 1 f_law_setup (maI 2 (mret [])))))
  (sseq (ssetD 4 (mfz (mcallN 1 f_law_cards (maE (mvar 3) (mret [])))))
  (sfor (mrng1 (mcons (mret (.int 8)) (mret []))) (gset 5) b_law_K03_0))))
def m_law_K03 : SM := (sseq (sfor (mseq (mop gadd (mvar 0) (mlst (mcons (mop gadd (mop gpow (mret (.int 10)) (mret (.int 18))) (mret (.int 4))) (mret []))))) (gset 1) b_law_K03_1)
  (sretD (mret (.bl true))))
def f_law_K03 : List O → FR := runFn [false] 9 m_law_K03
end
end Rn

namespace Rn
open PySem PySem.Spec L2 Z
noncomputable section
/-- slots: 0 law_pot_here, 1 law_odd_here -/
def m_law_odd : SM := (sseq (ssetD 1 (mlst (mcons (mret .non) (mcons (mret (.bl true)) (mcons (mret (.bl false)) (mcons (mret (.int 0)) (mcons (mret (.int 1)) (mcons (mret (.int 2)) (mcons (mun gneg (mret (.int 1))) (mcons (mret (.int 9)) (mcons (mop gpow (mret (.int 10)) (mret (.int 30))) (mcons (mret (.str "")) (mcons (mret (.str "a")) (mcons (mtup (mret [])) (mcons (mlst (mret [])) (mcons (mtup (mcons (mret (.int 0)) (mret []))) (mcons (mtup (mcons (mret (.int 0)) (mcons (mret (.int 0)) (mret [])))) (mcons (mlst (mcons (mret (.int 0)) (mcons (mret (.int 0)) (mret [])))) (mcons (mtup (mcons (mtup (mcons (mret (.int 0)) (mcons (mret (.int 0)) (mret [])))) (mret []))) (mcons (mtup (mcons (mret .non) (mcons (mret (.int 0)) (mret [])))) (mret [])))))))))))))))))))))
  (sseq (ssetD 1 (mop gadd (mvar 1) (mlst (mcons (mtup (mcons (mret (.int 0)) (mcons (mret (.int 0)) (mcons (mret (.int 0)) (mret []))))) (mcons (mtup (mcons (mret (.str "a")) (mcons (mret (.int 0)) (mret [])))) (mcons (mtup (mcons (mret (.int 0)) (mcons (mret (.str "0")) (mret [])))) (mcons (mtup (mcons (mret (.bl true)) (mcons (mret (.int 0)) (mret [])))) (mcons (mtup (mcons (mret (.int 0)) (mcons (mret (.bl false)) (mret [])))) (mcons (mtup (mcons (mret (.int 0)) (mcons (mun gneg (mret (.int 1))) (mret [])))) (mcons (mtup (mcons (mret (.int 9)) (mcons (mret (.int 9)) (mret [])))) (mcons (mret (.str "stock")) (mcons (mtup (mcons (mret (.str "play")) (mcons (mtup (mcons (mret (.int 0)) (mcons (mret (.int 0)) (mret [])))) (mret [])))) (mret [])))))))))))))
  (sseq (ssetD 1 (mop gadd (mvar 1) (mlst (mcons (mtup (mcons (mtup (mcons (mret (.int 2)) (mcons (mret (.int 2)) (mret [])))) (mcons (mret (.int 2)) (mcons (mret (.int 1)) (mcons (mret .non) (mcons (mret (.bl false)) (mcons (mret (.bl false)) (mcons (mret (.int 0)) (mret []))))))))) (mcons (mexc (mret (.str "a"))) (mcons (mtup (mcons (mret (.str "deny")) (mcons (mret (.int 0)) (mcons (mtup (mcons (mret (.int 0)) (mcons (mret (.int 0)) (mret [])))) (mret []))))) (mcons (mlst (mcons (mtup (mcons (mret (.str "play")) (mcons (mtup (mcons (mret (.int 0)) (mcons (mret (.int 0)) (mret [])))) (mret [])))) (mret []))) (mret []))))))))
  (sretD (mop gix (mvar 1) (mfz (mcallN 2 f_law_out (maI 0 (maE (mcb glen (mcons (mvar 1) (mret []))) (mret []))))))))))
def f_law_odd : List O → FR := runFn [true] 1 m_law_odd
/-- slots: 0 setup, 1 suit, 2 count, 3 rank -/
def c_deck_cards_0 : M O := (mlc2 [1, 2, 3] [3] (menumM (mcons (mop gix (mvar 0) (mret (.int 0))) (mret []))) (gtup 2 (gscons (gset 1) (gscons (gset 2) gsnil))) (mret true) (mrng1 (mcons (mvar 2) (mret []))) (gset 3) (mret true) (mtup (mcons (mvar 1) (mcons (mvar 3) (mret [])))))
def m_deck_cards : SM := (sretD (mfz c_deck_cards_0))
def f_deck_cards : List O → FR := runFn [false] 3 m_deck_cards
/-- slots: 0 setup -/
def m_all_cards : SM := (sretD (mcb gtuple (mcons (mfz (mcallN 1 f_deck_cards (maE (mfz (mcallN 1 f_need_setup (maE (mvar 0) (mret [])))) (mret [])))) (mret []))))
def f_all_cards : List O → FR := runFn [false] 0 m_all_cards
/-- slots: 0 setup, 1 value -/
def m_is_card : SM := (sretD (mfz (mcallN 2 f_fits_card (maE (mfz (mcallN 1 f_need_setup (maE (mvar 0) (mret [])))) (maE (mvar 1) (mret []))))))
def f_is_card : List O → FR := runFn [false, false] 0 m_is_card
/-- slots: 0 setup, 1 value -/
def m_fits_holder : SM := (sretD (mfz (mcallN 3 f_whole_between (maE (mvar 1) (maE (mret (.int 0)) (maE (mop gix (mvar 0) (mret (.int 1))) (mret [])))))))
def f_fits_holder : List O → FR := runFn [false, false] 0 m_fits_holder
/-- slots: 0 setup, 1 value -/
def m_is_holder : SM := (sretD (mfz (mcallN 2 f_fits_holder (maE (mfz (mcallN 1 f_need_setup (maE (mvar 0) (mret [])))) (maE (mvar 1) (mret []))))))
def f_is_holder : List O → FR := runFn [false, false] 0 m_is_holder
/-- slots: 0 law_game, 1 law_odd_here, 2 law_pair, 3 law_due, 4 law_whole, 5 law_held, 6 law_shape, 7 law_one -/
def c_law_right_0 : M O := (mlc [7] (mseq (mvar 3)) (gset 7) (mret true) (mcb grepr (mcons (mvar 7) (mret []))))
def m_law_right : SM := (sseq (ssetD 3 (mfz (mcallN 1 f_law_cards (maE (mvar 0) (mret [])))))
  (sseq (sif (mtest (mop gne (mcb grepr (mcons (mlst (mcons (mfz (mcallN 1 f_all_cards (maE (mvar 0) (mret [])))) (mcons (mfz (mcallK0 1 1 [0] f_all_cards (maE (mvar 0) (mret [])))) (mret [])))) (mret []))) (mcb grepr (mcons (mlst (mcons (mcb gtuple (mcons (mvar 3) (mret []))) (mcons (mcb gtuple (mcons (mvar 3) (mret []))) (mret [])))) (mret []))))) (sretD (mret (.bl false))) snxt)
  (sseq (sif (mtest (mop gne (mcb grepr (mcons (mlst (mcons (mfz (mcallN 2 f_is_card (maE (mvar 0) (maE (mvar 2) (mret []))))) (mcons (mfz (mcallK0 2 2 [1, 0] f_is_card (maE (mvar 2) (maE (mvar 0) (mret []))))) (mret [])))) (mret []))) (mcb grepr (mcons (mrep 2 (mcons (mop gin (mvar 2) (mvar 3)) (mret []))) (mret []))))) (sretD (mret (.bl false))) snxt)
  (sseq (ssetD 4 (mand (mcb gisi (mcons (mvar 1) (mcons (mret (.opq (.ty "int"))) (mret [])))) (mnotV (mcb gisi (mcons (mvar 1) (mcons (mret (.opq (.ty "bool"))) (mret [])))))))
  (sseq (ssetD 5 (mand (mvar 4) (mand (mop gle (mret (.int 0)) (mvar 1)) (mop gle (mvar 1) (mop gix (mvar 0) (mret (.int 1)))))))
  (sseq (sif (mtest (mop gne (mcb grepr (mcons (mlst (mcons (mfz (mcallN 2 f_is_holder (maE (mvar 0) (maE (mvar 1) (mret []))))) (mcons (mfz (mcallK0 2 2 [1, 0] f_is_holder (maE (mvar 1) (maE (mvar 0) (mret []))))) (mret [])))) (mret []))) (mcb grepr (mcons (mrep 2 (mcons (mvar 5) (mret []))) (mret []))))) (sretD (mret (.bl false))) snxt)
  (sseq (ssetD 6 (mand (mcb gisi (mcons (mvar 1) (mcons (mret (.opq (.ty "tuple"))) (mret [])))) (mand (mop geq (mcb glen (mcons (mvar 1) (mret []))) (mret (.int 2))) (mop gin (mcb grepr (mcons (mvar 1) (mret []))) (mfz c_law_right_0)))))
  (sretD (mop geq (mcb grepr (mcons (mlst (mcons (mfz (mcallN 2 f_is_card (maE (mvar 0) (maE (mvar 1) (mret []))))) (mcons (mfz (mcallK0 2 2 [1, 0] f_is_card (maE (mvar 1) (maE (mvar 0) (mret []))))) (mret [])))) (mret []))) (mcb grepr (mcons (mrep 2 (mcons (mvar 6) (mret []))) (mret []))))))))))))
def f_law_right : List O → FR := runFn [false, false, false] 5 m_law_right
/-- slots: 0 law_script, 1 law_cell, 2 law_pot_here, 3 law_game, 4 law_k, 5 law_pair -/
def b_law_K02_0 : SM := (sseq (ssetD 5 (mtup (mcons (mop gsub (mfz (mcallN 2 f_law_out (maI 2 (maE (mret (.int 6)) (mret []))))) (mret (.int 1))) (mcons (mop gsub (mfz (mcallN 2 f_law_out (maI 2 (maE (mret (.int 12)) (mret []))))) (mret (.int 1))) (mret [])))))
  (sif (mnotB (mtest (mfz (mcallN 3 f_law_right (maE (mvar 3) (maE (mfz (mcallN 1 f_law_odd (maI 2 (mret [])))) (maE (mvar 5) (mret [])))))))) (sretD (mret (.bl false))) snxt))
def b_law_K02_1 : SM := (sseq (ssetO 2 (mcallN 1 f_law_pot (maE (mvar 1) (mret []))))
  (sseq (ssetD 3 (mfz (mcallN 1 f_law_setup (maI 2 (mret [])))))
  (sseq (sfor (mrng1 (mcons (mret (.int 3)) (mret []))) (gset 4) b_law_K02_0)
  (sif (mnotB (mtest (mfz (mcallN 3 f_law_right (maE (mvar 3) (maE (mop gsub (mfz (mcallN 2 f_law_out (maI 2 (maE (mret (.int 7)) (mret []))))) (mret (.int 1))) (maE (mtup (mcons (mop gsub (mcb glen (mcons (mop gix (mvar 3) (mret (.int 0))) (mret []))) (mret (.int 1))) (mcons (mop gsub (mop gix (mop gix (mvar 3) (mret (.int 0))) (mop gsub (mcb glen (mcons (mop gix (mvar 3) (mret (.int 0))) (mret []))) (mret (.int 1)))) (mret (.int 1))) (mret [])))) (mret [])))))))) (sretD (mret (.bl false))) snxt))))
def m_law_K02 : SM := (sseq (sfor (mseq (mop gadd (mvar 0) (mlst (mcons (mop gadd (mop gpow (mret (.int 10)) (mret (.int 18))) (mret (.int 4))) (mret []))))) (gset 1) b_law_K02_1)
  (sretD (mret (.bl true))))
def f_law_K02 : List O → FR := runFn [false] 5 m_law_K02
end
end Rn

namespace Rn
open PySem PySem.Spec L2 Z
noncomputable section
/-- slots: 0 law_pot_here, 1 law_game, 2 law_deck, 3 law_players, 4 law_each, 5 law_way, 6 law_at, 7 law_place, 8 law_wrong, 9 law_more -/
def m_law_bent : SM := (sseq (sasg (mslice (mvar 1) (mret none) (mpartS (mret (.int 3)))) (gtup 3 (gscons (gset 2) (gscons (gset 3) (gscons (gset 4) gsnil)))))
  (sseq (spar 5 6 (mfz (mcallN 2 f_law_out (maI 0 (maE (mret (.int 9)) (mret []))))) (mfz (mcallN 2 f_law_out (maI 0 (maE (mret (.int 7)) (mret []))))))
  (sseq (sif (mtest (mop glt (mvar 5) (mret (.int 3)))) (sretD (mop gadd (mop gadd (mslice (mvar 1) (mret none) (mpartS (mvar 6))) (mtup (mcons (mfz (mcallN 1 f_law_odd (maI 0 (mret [])))) (mret [])))) (mslice (mvar 1) (mpartS (mop gadd (mvar 6) (mret (.int 1)))) (mret none)))) snxt)
  (sseq (sif (mtest (mop geq (mvar 5) (mret (.int 3)))) (sseq (ssetD 7 (mfz (mcallN 2 f_law_out (maI 0 (maE (mcb glen (mcons (mvar 2) (mret []))) (mret []))))))
  (sseq (ssetD 8 (mop gix (mlst (mcons (mret (.int 0)) (mcons (mun gneg (mret (.int 1))) (mcons (mret (.int 11)) (mcons (mret (.bl true)) (mcons (mret .non) (mcons (mret (.str "3")) (mcons (mop gpow (mret (.int 10)) (mret (.int 30))) (mcons (mtup (mcons (mret (.int 1)) (mret []))) (mcons (mret (.int 2)) (mret []))))))))))) (mfz (mcallN 2 f_law_out (maI 0 (maE (mret (.int 9)) (mret [])))))))
  (sretD (mop gadd (mtup (mcons (mop gadd (mop gadd (mslice (mvar 2) (mret none) (mpartS (mvar 7))) (mtup (mcons (mvar 8) (mret [])))) (mslice (mvar 2) (mpartS (mop gadd (mvar 7) (mret (.int 1)))) (mret none))) (mret []))) (mslice (mvar 1) (mpartS (mret (.int 1))) (mret none)))))) snxt)
  (sseq (sif (mtest (mop geq (mvar 5) (mret (.int 4)))) (sretD (mop gix (mlst (mcons (mcb glist (mcons (mvar 1) (mret []))) (mcons (mslice (mvar 1) (mret none) (mpartS (mret (.int 6)))) (mcons (mop gadd (mvar 1) (mtup (mcons (mret (.int 0)) (mret [])))) (mcons (mtup (mcons (mvar 1) (mret []))) (mcons (mun grev (mvar 1)) (mcons (mop gadd (mtup (mcons (mcb glist (mcons (mvar 2) (mret []))) (mret []))) (mslice (mvar 1) (mpartS (mret (.int 1))) (mret none))) (mret [])))))))) (mfz (mcallN 2 f_law_out (maI 0 (maE (mret (.int 6)) (mret []))))))) snxt)
  (sseq (sif (mtest (mop geq (mvar 5) (mret (.int 5)))) (sseq (ssetD 9 (mlst (mcons (mtup (mcons (mop gadd (mvar 2) (mtup (mcons (mret (.int 1)) (mret [])))) (mret []))) (mcons (mtup (mcons (mop gadd (mvar 2) (mtup (mcons (mret (.int 1)) (mcons (mret (.int 1)) (mcons (mret (.int 1)) (mret [])))))) (mret []))) (mcons (mtup (mcons (mtup (mcons (mret (.int 10)) (mcons (mret (.int 10)) (mcons (mret (.int 10)) (mcons (mret (.int 3)) (mret [])))))) (mret []))) (mcons (mtup (mcons (mtup (mcons (mret (.int 10)) (mcons (mret (.int 10)) (mcons (mret (.int 10)) (mcons (mret (.int 2)) (mret [])))))) (mret []))) (mcons (mtup (mcons (mtup (mret [])) (mret []))) (mcons (mtup (mcons (mtup (mcons (mret (.int 33)) (mret []))) (mret []))) (mret [])))))))))
  (sretD (mop gadd (mop gix (mvar 9) (mfz (mcallN 2 f_law_out (maI 0 (maE (mret (.int 6)) (mret [])))))) (mslice (mvar 1) (mpartS (mret (.int 1))) (mret none))))) snxt)
  (sseq (sif (mtest (mop geq (mvar 5) (mret (.int 6)))) (sretD (mop gadd (mtup (mcons (mvar 2) (mcons (mop gix (mlst (mcons (mret (.int 1)) (mcons (mret (.int 5)) (mcons (mvar 3) (mcons (mret (.bl true)) (mcons (mret (.int 2)) (mcons (mret (.int 3)) (mcons (mret (.int 4)) (mret []))))))))) (mfz (mcallN 2 f_law_out (maI 0 (maE (mret (.int 7)) (mret [])))))) (mcons (mop gadd (mret (.int 1)) (mfz (mcallN 2 f_law_out (maI 0 (maE (mret (.int 9)) (mret [])))))) (mret []))))) (mslice (mvar 1) (mpartS (mret (.int 3))) (mret none)))) snxt)
  (sseq (sif (mtest (mop geq (mvar 5) (mret (.int 7)))) (sretD (mop gadd (mop gadd (mslice (mvar 1) (mret none) (mpartS (mret (.int 3)))) (mtup (mcons (mop gix (mlst (mcons (mcb glen (mcons (mvar 2) (mret []))) (mcons (mun gneg (mret (.int 1))) (mcons (mret (.bl true)) (mcons (mret (.bl false)) (mcons (mret (.str "a")) (mcons (mop gpow (mret (.int 10)) (mret (.int 30))) (mret [])))))))) (mfz (mcallN 2 f_law_out (maI 0 (maE (mret (.int 6)) (mret [])))))) (mret [])))) (mslice (mvar 1) (mpartS (mret (.int 4))) (mret none)))) snxt)
  (sretD (mop gadd (mslice (mvar 1) (mret none) (mpartS (mret (.int 6)))) (mtup (mcons (mop gix (mlst (mcons (mvar 3) (mcons (mun gneg (mret (.int 1))) (mcons (mret .non) (mcons (mret (.bl true)) (mcons (mop gadd (mvar 3) (mret (.int 1))) (mret []))))))) (mfz (mcallN 2 f_law_out (maI 0 (maE (mret (.int 5)) (mret [])))))) (mret [])))))))))))))
def f_law_bent : List O → FR := runFn [true, false] 8 m_law_bent
/-- slots: 0 law_thing, 1 law_least, 2 law_most -/
def m_law_whole : SM := (sretD (mand (mcb gisi (mcons (mvar 0) (mcons (mret (.opq (.ty "int"))) (mret [])))) (mand (mnotV (mcb gisi (mcons (mvar 0) (mcons (mret (.opq (.ty "bool"))) (mret []))))) (mand (mop gle (mvar 1) (mvar 0)) (mop gle (mvar 0) (mvar 2))))))
def f_law_whole : List O → FR := runFn [false, false, false] 0 m_law_whole
/-- slots: 0 law_thing, 1 law_deck, 2 law_players, 3 law_each, 4 law_count -/
def c_law_is_setup_0 : M O := (mlc [4] (mseq (mvar 1)) (gset 4) (mnotB (mtest (mfz (mcallN 3 f_law_whole (maE (mvar 4) (maE (mret (.int 1)) (maE (mret (.int 10)) (mret [])))))))) (mvar 4))
def m_law_is_setup : SM := (sseq (sif (mif (mnotB (mtest (mcb gisi (mcons (mvar 0) (mcons (mret (.opq (.ty "tuple"))) (mret [])))))) (mret true) (mif (mtest (mop gne (mcb glen (mcons (mvar 0) (mret []))) (mret (.int 7)))) (mret true) (mnotB (mtest (mcb gisi (mcons (mop gix (mvar 0) (mret (.int 0))) (mcons (mret (.opq (.ty "tuple"))) (mret [])))))))) (sretD (mret (.bl false))) snxt)
  (sseq (sasg (mslice (mvar 0) (mret none) (mpartS (mret (.int 3)))) (gtup 3 (gscons (gset 1) (gscons (gset 2) (gscons (gset 3) gsnil)))))
  (sseq (sif (mif (mtest (mop gne (mfz c_law_is_setup_0) (mlst (mret [])))) (mret true) (mif (mtest (mop glt (mcb glen (mcons (mvar 1) (mret []))) (mret (.int 1)))) (mret true) (mtest (mop ggt (mcb glen (mcons (mvar 1) (mret []))) (mret (.int 4)))))) (sretD (mret (.bl false))) snxt)
  (sseq (sif (mif (mtest (mop ggt (mcb gsum (mcons (mvar 1) (mret []))) (mret (.int 32)))) (mret true) (mif (mnotB (mtest (mfz (mcallN 3 f_law_whole (maE (mvar 2) (maE (mret (.int 2)) (maE (mret (.int 4)) (mret [])))))))) (mret true) (mif (mnotB (mtest (mfz (mcallN 3 f_law_whole (maE (mvar 3) (maE (mret (.int 1)) (maE (mret (.int 8)) (mret [])))))))) (mret true) (mtest (mop ggt (mop gmul (mvar 2) (mvar 3)) (mcb gsum (mcons (mvar 1) (mret [])))))))) (sretD (mret (.bl false))) snxt)
  (sseq (sif (mif (mtest (mop gisn (mop gix (mvar 0) (mret (.int 3))) (mret .non))) (mnotB (mtest (mfz (mcallN 3 f_law_whole (maE (mop gix (mvar 0) (mret (.int 3))) (maE (mret (.int 0)) (maE (mop gsub (mcb glen (mcons (mvar 1) (mret []))) (mret (.int 1))) (mret [])))))))) (mret false)) (sretD (mret (.bl false))) snxt)
  (sretD (mand (mcb gisi (mcons (mop gix (mvar 0) (mret (.int 4))) (mcons (mret (.opq (.ty "bool"))) (mret [])))) (mand (mcb gisi (mcons (mop gix (mvar 0) (mret (.int 5))) (mcons (mret (.opq (.ty "bool"))) (mret [])))) (mfz (mcallN 3 f_law_whole (maE (mop gix (mvar 0) (mret (.int 6))) (maE (mret (.int 0)) (maE (mop gsub (mvar 2) (mret (.int 1))) (mret []))))))))))))))
def f_law_is_setup : List O → FR := runFn [false] 4 m_law_is_setup
/-- slots: 0 law_thing, 1 law_k -/
def b_law_deep_0 : SM := (ssetD 0 (mtup (mcons (mvar 0) (mret []))))
def m_law_deep : SM := (sseq (ssetD 0 (mtup (mcons (mret (.int 0)) (mcons (mret (.int 0)) (mret [])))))
  (sseq (sfor (mrng1 (mcons (mret (.int 28)) (mret []))) (gset 1) b_law_deep_0)
  (sretD (mvar 0))))
def f_law_deep : List O → FR := runFn [] 2 m_law_deep
/-- slots: 0 law_script, 1 law_game, 2 law_odd_here, 3 law_cell, 4 law_pot_here, 5 law_k -/
def b_law_K01_0 : SM := (sif (mtest (mop gisn (mfz (mcallN 1 f_is_setup (maE (mvar 2) (mret [])))) (mret (.bl false)))) (sretD (mret (.bl false))) snxt)
def b_law_K01_1 : SM := (sseq (ssetD 2 (mif (mtest (mop ggt (mfz (mcallN 2 f_law_out (maI 4 (maE (mret (.int 9)) (mret []))))) (mret (.int 0)))) (mfz (mcallN 2 f_law_bent (maI 4 (maE (mvar 1) (mret []))))) (mfz (mcallN 1 f_law_odd (maI 4 (mret []))))))
  (sif (mtest (mop gne (mcb grepr (mcons (mlst (mcons (mfz (mcallN 1 f_is_setup (maE (mvar 2) (mret [])))) (mcons (mfz (mcallK0 1 1 [0] f_is_setup (maE (mvar 2) (mret [])))) (mret [])))) (mret []))) (mcb grepr (mcons (mrep 2 (mcons (mfz (mcallN 1 f_law_is_setup (maE (mvar 2) (mret [])))) (mret []))) (mret []))))) (sretD (mret (.bl false))) snxt))
def b_law_K01_2 : SM := (sseq (ssetO 4 (mcallN 1 f_law_pot (maE (mvar 3) (mret []))))
  (sseq (ssetD 1 (mfz (mcallN 1 f_law_setup (maI 4 (mret [])))))
  (sseq (sif (mif (mtest (mop gisn (mfz (mcallN 1 f_is_setup (maE (mvar 1) (mret [])))) (mret (.bl true)))) (mret true) (mtest (mop gisn (mfz (mcallK0 1 1 [0] f_is_setup (maE (mvar 1) (mret [])))) (mret (.bl true))))) (sretD (mret (.bl false))) snxt)
  (sfor (mrng1 (mcons (mret (.int 3)) (mret []))) (gset 5) b_law_K01_1))))
def m_law_K01 : SM := (sseq (ssetD 1 (mtup (mcons (mtup (mcons (mret (.int 2)) (mcons (mret (.int 2)) (mret [])))) (mcons (mret (.int 2)) (mcons (mret (.int 1)) (mcons (mret .non) (mcons (mret (.bl false)) (mcons (mret (.bl true)) (mcons (mret (.int 0)) (mret []))))))))))
  (sseq (sfor (mseq (mlst (mcons (mfz (mcallN 0 f_law_deep (mret []))) (mcons (mrep 1999 (mcons (mret .non) (mret []))) (mcons (mop gadd (mtup (mcons (mfz (mcallN 0 f_law_deep (mret []))) (mret []))) (mslice (mvar 1) (mpartS (mret (.int 1))) (mret none))) (mcons (mop gadd (mtup (mcons (mrepT 1900 (mcons (mret (.int 1)) (mret []))) (mret []))) (mslice (mvar 1) (mpartS (mret (.int 1))) (mret none))) (mret []))))))) (gset 2) b_law_K01_0)
  (sseq (sfor (mseq (mop gadd (mvar 0) (mlst (mcons (mop gadd (mop gpow (mret (.int 10)) (mret (.int 18))) (mret (.int 4))) (mret []))))) (gset 3) b_law_K01_2)
  (sretD (mret (.bl true))))))
def f_law_K01 : List O → FR := runFn [false] 5 m_law_K01
end
end Rn

namespace Rn
open PySem PySem.Spec L2 Z
noncomputable section
/-- slots: 0 setup, 1 value, 2 place, 3 card -/
def b_fits_cards_0 : SM := (sif (mif (mnotB (mtest (mfz (mcallN 2 f_fits_card (maE (mvar 0) (maE (mvar 3) (mret []))))))) (mret true) (mif (mtest (mop ggt (mvar 2) (mret (.int 0)))) (mtest (mop gle (mvar 3) (mop gix (mvar 1) (mop gsub (mvar 2) (mret (.int 1)))))) (mret false))) (sretD (mret (.bl false))) snxt)
def m_fits_cards : SM := (sseq (sif (mnotB (mtest (mcb gisi (mcons (mvar 1) (mcons (mret (.opq (.ty "tuple"))) (mret [])))))) (sretD (mret (.bl false))) snxt)
  (sseq (sfor (menumM (mcons (mvar 1) (mret []))) (gtup 2 (gscons (gset 2) (gscons (gset 3) gsnil))) b_fits_cards_0)
  (sretD (mret (.bl true)))))
def f_fits_cards : List O → FR := runFn [false, false] 2 m_fits_cards
/-- slots: 0 setup, 1 value -/
def m_need_cards : SM := (sseq (sif (mnotB (mtest (mfz (mcallN 2 f_fits_cards (maE (mvar 0) (maE (mvar 1) (mret []))))))) sbad snxt)
  (sretD (mvar 1)))
def f_need_cards : List O → FR := runFn [false, false] 0 m_need_cards
/-- slots: 0 setup, 1 cards, 2 led, 3 best, 4 trump, 5 ruff, 6 head, 7 left, 8 beating, 9 card -/
def c_playable_0 : M O := (mlc [9] (mseq (mvar 1)) (gset 9) (mtest (mop geq (mop gix (mvar 9) (mret (.int 0))) (mop gix (mvar 2) (mret (.int 0))))) (mvar 9))
def c_playable_1 : M O := (mlc [9] (mseq (mvar 1)) (gset 9) (mif (mtest (mvar 5)) (mtest (mop geq (mop gix (mvar 9) (mret (.int 0))) (mvar 4))) (mret false)) (mvar 9))
def c_playable_2 : M O := (mlc [9] (mseq (mvar 7)) (gset 9) (mif (mtest (mvar 6)) (mtest (mfz (mcallN 3 f_stronger (maE (mvar 4) (maE (mvar 9) (maE (mvar 3) (mret []))))))) (mret false)) (mvar 9))
def m_playable : SM := (sseq (sasg (mslice (mvar 0) (mpartS (mret (.int 3))) (mpartS (mret (.int 6)))) (gtup 3 (gscons (gset 4) (gscons (gset 5) (gscons (gset 6) gsnil)))))
  (sseq (sif (mtest (mop gis (mvar 2) (mret .non))) (sretO (mlistO (mcons (mvar 1) (mret [])))) snxt)
  (sseq (ssetO 7 c_playable_0)
  (sseq (sif (mbor (fun _ => true) 7 (mtest (mop geq (mvar 7) (mlst (mret []))))) (ssetO 7 c_playable_1) snxt)
  (sseq (sif (mbor (fun _ => true) 7 (mtest (mop geq (mvar 7) (mlst (mret []))))) (ssetO 7 (mlistO (mcons (mvar 1) (mret [])))) snxt)
  (sseq (ssetO 8 (mbor lfo 7 c_playable_2))
  (sretO (mif (mbor (fun _ => true) 8 (mtest (mop geq (mvar 8) (mlst (mret []))))) (mtake 7) (mtake 8)))))))))
def f_playable : List O → FR := runFn [false, false, false, false] 6 m_playable
/-- slots: 0 setup, 1 cards, 2 led, 3 best -/
def m_allowed : SM := (sseq (sexpr (mfz (mcallN 1 f_need_setup (maE (mvar 0) (mret [])))))
  (sseq (sexpr (mfz (mcallN 2 f_need_cards (maE (mvar 0) (maE (mvar 1) (mret []))))))
  (sseq (sif (mif (mtest (mop gisn (mvar 2) (mret .non))) (mret true) (mtest (mop gisn (mvar 3) (mret .non)))) (sseq (sexpr (mfz (mcallN 2 f_need_card (maE (mvar 0) (maE (mvar 2) (mret []))))))
  (sexpr (mfz (mcallN 2 f_need_card (maE (mvar 0) (maE (mvar 3) (mret []))))))) snxt)
  (sretO (mcallN 4 f_playable (maE (mvar 0) (maE (mvar 1) (maE (mvar 2) (maE (mvar 3) (mret []))))))))))
def f_allowed : List O → FR := runFn [false, false, false, false] 0 m_allowed
/-- slots: 0 law_trump, 1 law_trick, 2 law_lot, 3 law_card_here -/
def c_law_winner_0 : M O := (mlc [3] (mseq (mvar 1)) (gset 3) (mtest (mop geq (mop gix (mvar 3) (mret (.int 0))) (mvar 0))) (mvar 3))
def c_law_winner_1 : M O := (mlc [3] (mseq (mvar 1)) (gset 3) (mtest (mop geq (mop gix (mvar 3) (mret (.int 0))) (mop gix (mop gix (mvar 1) (mret (.int 0))) (mret (.int 0))))) (mvar 3))
def m_law_winner : SM := (sseq (ssetD 2 (mfz c_law_winner_0))
  (sseq (sif (mtest (mop geq (mvar 2) (mlst (mret [])))) (ssetD 2 (mfz c_law_winner_1)) snxt)
  (sretD (midx (mvar 1) (mcons (mop gix (mcb gsorted (mcons (mvar 2) (mret []))) (mop gsub (mcb glen (mcons (mvar 2) (mret []))) (mret (.int 1)))) (mret []))))))
def f_law_winner : List O → FR := runFn [false, false] 2 m_law_winner
/-- slots: 0 law_game, 1 law_one, 2 law_other, 3 law_trick, 4 law_trump, 5 law_ruff, 6 law_head, 7 law_lead, 8 law_top, 9 law_follows -/
def m_law_ahead : SM := (sseq (sasg (mslice (mvar 0) (mpartS (mret (.int 3))) (mpartS (mret (.int 6)))) (gtup 3 (gscons (gset 4) (gscons (gset 5) (gscons (gset 6) gsnil)))))
  (sseq (spar 7 8 (mop gix (mvar 3) (mret (.int 0))) (mop gix (mvar 3) (mfz (mcallN 2 f_law_winner (maE (mvar 4) (maE (mvar 3) (mret [])))))))
  (sseq (ssetD 9 (mop geq (mop gix (mvar 1) (mret (.int 0))) (mop gix (mvar 7) (mret (.int 0)))))
  (sseq (sif (mif (mnotB (mtest (mvar 9))) (mtest (mop geq (mop gix (mvar 2) (mret (.int 0))) (mop gix (mvar 7) (mret (.int 0))))) (mret false)) (sretD (mret (.bl true))) snxt)
  (sseq (sif (mif (mtest (mvar 5)) (mif (mnotB (mtest (mvar 9))) (mif (mtest (mop gne (mop gix (mvar 1) (mret (.int 0))) (mvar 4))) (mtest (mop geq (mop gix (mvar 2) (mret (.int 0))) (mvar 4))) (mret false)) (mret false)) (mret false)) (sretD (mret (.bl true))) snxt)
  (sseq (sif (mif (mnotB (mtest (mvar 6))) (mret true) (mif (mtest (mfz (mcallN 3 f_law_over (maE (mvar 4) (maE (mvar 1) (maE (mvar 8) (mret []))))))) (mret true) (mnotB (mtest (mfz (mcallN 3 f_law_over (maE (mvar 4) (maE (mvar 2) (maE (mvar 8) (mret [])))))))))) (sretD (mret (.bl false))) snxt)
  (sretD (mor (mnotV (mvar 9)) (mop geq (mop gix (mvar 2) (mret (.int 0))) (mop gix (mvar 7) (mret (.int 0))))))))))))
def f_law_ahead : List O → FR := runFn [false, false, false, false] 6 m_law_ahead
/-- slots: 0 law_game, 1 law_hand, 2 law_trick, 3 law_one, 4 law_other -/
def c_law_due_0 : M O := (mlc [4] (mseq (mvar 1)) (gset 4) (mtest (mfz (mcallN 4 f_law_ahead (maE (mvar 0) (maE (mvar 3) (maE (mvar 4) (maE (mvar 2) (mret [])))))))) (mvar 4))
def c_law_due_1 : M O := (mlc [3] (mseq (mvar 1)) (gset 3) (mtest (mop geq (mfz c_law_due_0) (mlst (mret [])))) (mvar 3))
def m_law_due : SM := (sretD (mfz c_law_due_1))
def f_law_due : List O → FR := runFn [false, false, false] 2 m_law_due
/-- slots: 0 law_pot_here, 1 law_game, 2 law_left, 3 law_many, 4 law_trick, 5 law_near, 6 law_pool, 7 law_hand, 8 law_top, 9 law_due_here, 10 law_told, 11 law_again, 12 law_k, 13 law_one -/
def c_law_right_2_0 : M O := (mlc [12] (mrng1 (mcons (mvar 3) (mret []))) (gset 12) (mret true) (mpop 2 (mfz (mcallN 2 f_law_out (maI 0 (maE (mcbo glen 2) (mret [])))))))
def c_law_right_2_1 : M O := (mlc [13] (mseq (mvar 2)) (gset 13) (mif (mtest (mop geq (mop gix (mvar 13) (mret (.int 0))) (mop gix (mop gix (mvar 4) (mret (.int 0))) (mret (.int 0))))) (mret true) (mtest (mop geq (mop gix (mvar 13) (mret (.int 0))) (mop gix (mvar 1) (mret (.int 3)))))) (mvar 13))
def c_law_right_2_2 : M O := (mlc [12] (mrng1 (mcons (mcb glen (mcons (mvar 6) (mret []))) (mret []))) (gset 12) (mtest (mop geq (mfz (mcallN 2 f_law_out (maI 0 (maE (mret (.int 3)) (mret []))))) (mret (.int 0)))) (mop gix (mvar 6) (mvar 12)))
def c_law_right_2_3 : M O := (mlc [13] (mseq (mvar 2)) (gset 13) (mif (mtest (mop gin (mvar 13) (mvar 7))) (mret true) (mtest (mop geq (mfz (mcallN 2 f_law_out (maI 0 (maE (mret (.int 4)) (mret []))))) (mret (.int 0))))) (mvar 13))
def m_law_right_2 : SM := (sseq (ssetO 2 (mcallN 1 f_law_cards (maE (mvar 1) (mret []))))
  (sseq (ssetD 3 (mcb gmin2 (mcons (mcbo glen 2) (mcons (mop gadd (mret (.int 1)) (mfz (mcallN 2 f_law_out (maI 0 (maE (mop gsub (mop gix (mvar 1) (mret (.int 1))) (mret (.int 1))) (mret [])))))) (mret [])))))
  (sseq (ssetD 4 (mfz c_law_right_2_0))
  (sseq (ssetD 5 (mfz c_law_right_2_1))
  (sseq (ssetD 6 (mif (mif (mtest (mop gne (mvar 5) (mlst (mret [])))) (mtest (mop ggt (mfz (mcallN 2 f_law_out (maI 0 (maE (mret (.int 3)) (mret []))))) (mret (.int 0)))) (mret false)) (mvar 5) (mvar 2)))
  (sseq (ssetD 7 (mfz c_law_right_2_2))
  (sseq (sif (mtest (mop geq (mfz (mcallN 2 f_law_out (maI 0 (maE (mret (.int 2)) (mret []))))) (mret (.int 0)))) (ssetD 7 (mfz c_law_right_2_3)) snxt)
  (sseq (ssetD 7 (mcb gtuple (mcons (mslice (mvar 7) (mret none) (mpartS (mret (.int 8)))) (mret []))))
  (sseq (ssetD 8 (mop gix (mvar 4) (mfz (mcallN 2 f_law_winner (maE (mop gix (mvar 1) (mret (.int 3))) (maE (mvar 4) (mret [])))))))
  (sseq (ssetD 9 (mfz (mcallN 3 f_law_due (maE (mvar 1) (maE (mvar 7) (maE (mvar 4) (mret [])))))))
  (sseq (ssetO 10 (mcallC 4 0 [0, 1, 2, 3] [.non, .non] 4 f_allowed (maE (mvar 1) (maE (mvar 7) (maE (mop gix (mvar 4) (mret (.int 0))) (maE (mvar 8) (mret []))))) (mret [])))
  (sseq (ssetD 11 (mfz (mcallC 0 4 [3, 2, 1, 0] [.non, .non] 4 f_allowed (mret []) (maE (mvar 8) (maE (mop gix (mvar 4) (mret (.int 0))) (maE (mvar 7) (maE (mvar 1) (mret []))))))))
  (sseq (sif (mbor (fun _ => true) 10 (mif (mtest (mop gne (mcb grepr (mcons (mvar 10) (mret []))) (mcb grepr (mcons (mvar 9) (mret []))))) (mret true) (mtest (mop gne (mcb grepr (mcons (mvar 11) (mret []))) (mcb grepr (mcons (mvar 9) (mret []))))))) (sretD (mret (.bl false))) snxt)
  (sseq (sapp 10 (mvar 8))
  (sseq (sif (mtest (mop gne (mcb grepr (mcons (mfz (mcallC 4 0 [0, 1, 2, 3] [.non, .non] 4 f_allowed (maE (mvar 1) (maE (mvar 7) (maE (mop gix (mvar 4) (mret (.int 0))) (maE (mvar 8) (mret []))))) (mret []))) (mret []))) (mcb grepr (mcons (mvar 9) (mret []))))) (sretD (mret (.bl false))) snxt)
  (sretD (mop geq (mcb grepr (mcons (mlst (mcons (mfz (mcallC 2 0 [0, 1, 2, 3] [.non, .non] 4 f_allowed (maE (mvar 1) (maE (mvar 7) (mret []))) (mret []))) (mcons (mfz (mcallC 4 0 [0, 1, 2, 3] [.non, .non] 4 f_allowed (maE (mvar 1) (maE (mvar 7) (maE (mret .non) (maE (mret .non) (mret []))))) (mret []))) (mret [])))) (mret []))) (mcb grepr (mcons (mrep 2 (mcons (mcb glist (mcons (mvar 7) (mret []))) (mret []))) (mret []))))))))))))))))))))
def f_law_right_2 : List O → FR := runFn [true, false] 12 m_law_right_2
/-- slots: 0 law_script, 1 law_cell, 2 law_pot_here, 3 law_game -/
def b_law_K05_0 : SM := (sseq (ssetO 2 (mcallN 1 f_law_pot (maE (mvar 1) (mret []))))
  (sseq (ssetD 3 (mfz (mcallN 1 f_law_setup (maI 2 (mret [])))))
  (sif (mif (mnotB (mtest (mfz (mcallN 2 f_law_right_2 (maI 2 (maE (mvar 3) (mret []))))))) (mret true) (mnotB (mtest (mfz (mcallN 2 f_law_right_2 (maI 2 (maE (mvar 3) (mret [])))))))) (sretD (mret (.bl false))) snxt)))
def m_law_K05 : SM := (sseq (sfor (mseq (mop gadd (mslice (mvar 0) (mret none) (mpartS (mret (.int 30)))) (mlst (mcons (mop gadd (mop gpow (mret (.int 10)) (mret (.int 18))) (mret (.int 4))) (mret []))))) (gset 1) b_law_K05_0)
  (sretD (mret (.bl true))))
def f_law_K05 : List O → FR := runFn [false] 3 m_law_K05
end
end Rn

namespace Rn
open PySem PySem.Spec L2 Z
noncomputable section
/-- slots: 0 trump, 1 played, 2 best, 3 place, 4 card -/
def b_best_of_0 : SM := (sif (mtest (mfz (mcallN 3 f_stronger (maE (mvar 0) (maE (mvar 4) (maE (mop gix (mvar 1) (mvar 2)) (mret []))))))) (ssetD 2 (mvar 3)) snxt)
def m_best_of : SM := (sseq (ssetD 2 (mret (.int 0)))
  (sseq (sfor (menumM (mcons (mvar 1) (mret []))) (gtup 2 (gscons (gset 3) (gscons (gset 4) gsnil))) b_best_of_0)
  (sretD (mvar 2))))
def f_best_of : List O → FR := runFn [false, false] 3 m_best_of
/-- slots: 0 setup, 1 played, 2 card -/
def b_best_place_0 : SM := (sexpr (mfz (mcallN 2 f_need_card (maE (mvar 0) (maE (mvar 2) (mret []))))))
def m_best_place : SM := (sseq (sexpr (mfz (mcallN 1 f_need_setup (maE (mvar 0) (mret [])))))
  (sseq (sfor (mseq (mvar 1)) (gset 2) b_best_place_0)
  (sseq (sif (mif (mnotB (mtest (mchain gle gle (mret (.int 1)) (mcb glen (mcons (mvar 1) (mret []))) (mop gix (mvar 0) (mret (.int 1)))))) (mret true) (mtest (mop glt (mlenset (mvar 1)) (mcb glen (mcons (mvar 1) (mret [])))))) sbad snxt)
  (sretD (mfz (mcallN 2 f_best_of (maE (mop gix (mvar 0) (mret (.int 3))) (maE (mvar 1) (mret [])))))))))
def f_best_place : List O → FR := runFn [false, false] 1 m_best_place
/-- slots: 0 law_game, 1 law_trick -/
def m_law_told : SM := (sseq (sif (mtest (mop geq (mcb glen (mcons (mvar 1) (mret []))) (mret (.int 1)))) (sretD (mfz (mcallV 1 f_best_place (maE (mvar 0) (maE (mop gix (mvar 1) (mret (.int 0))) (mret [])))))) snxt)
  (sseq (sif (mtest (mop geq (mcb glen (mcons (mvar 1) (mret []))) (mret (.int 2)))) (sretD (mfz (mcallV 1 f_best_place (maE (mvar 0) (maE (mop gix (mvar 1) (mret (.int 0))) (maE (mop gix (mvar 1) (mret (.int 1))) (mret []))))))) snxt)
  (sseq (sif (mtest (mop geq (mcb glen (mcons (mvar 1) (mret []))) (mret (.int 3)))) (sretD (mfz (mcallV 1 f_best_place (maE (mvar 0) (maE (mop gix (mvar 1) (mret (.int 0))) (maE (mop gix (mvar 1) (mret (.int 1))) (maE (mop gix (mvar 1) (mret (.int 2))) (mret [])))))))) snxt)
  (sretD (mfz (mcallV 1 f_best_place (maE (mvar 0) (maE (mop gix (mvar 1) (mret (.int 0))) (maE (mop gix (mvar 1) (mret (.int 1))) (maE (mop gix (mvar 1) (mret (.int 2))) (maE (mop gix (mvar 1) (mret (.int 3))) (mret []))))))))))))
def f_law_told : List O → FR := runFn [false, false] 0 m_law_told
/-- slots: 0 law_script, 1 law_cell, 2 law_pot_here, 3 law_game, 4 law_k, 5 law_left, 6 law_trick, 7 law_told_here, 8 law_at, 9 law_one -/
def c_law_K04_0 : M O := (mlc [8] (mrng1 (mcons (mop gadd (mret (.int 1)) (mfz (mcallN 2 f_law_out (maI 2 (maE (mop gix (mvar 3) (mret (.int 1))) (mret [])))))) (mret []))) (gset 8) (mret true) (mpop 5 (mfz (mcallN 2 f_law_out (maI 2 (maE (mcbo glen 5) (mret [])))))))
def c_law_K04_1 : M O := (mlc [9] (mseq (mvar 6)) (gset 9) (mtest (mfz (mcallN 3 f_beats (maE (mvar 3) (maE (mvar 9) (maE (mop gix (mvar 6) (mvar 7)) (mret []))))))) (mvar 9))
def b_law_K04_2 : SM := (sseq (ssetO 5 (mcallN 1 f_law_cards (maE (mvar 3) (mret []))))
  (sseq (ssetD 6 (mfz c_law_K04_0))
  (sseq (ssetD 7 (mfz (mcallN 2 f_law_told (maE (mvar 3) (maE (mvar 6) (mret []))))))
  (sseq (sif (mtest (mop gne (mcb grepr (mcons (mvar 7) (mret []))) (mcb grepr (mcons (mfz (mcallN 2 f_law_winner (maE (mop gix (mvar 3) (mret (.int 3))) (maE (mvar 6) (mret []))))) (mret []))))) (sretD (mret (.bl false))) snxt)
  (sif (mtest (mop gne (mfz c_law_K04_1) (mlst (mret [])))) (sretD (mret (.bl false))) snxt)))))
def b_law_K04_3 : SM := (sseq (ssetO 2 (mcallN 1 f_law_pot (maE (mvar 1) (mret []))))
  (sseq (ssetD 3 (mfz (mcallN 1 f_law_setup (maI 2 (mret [])))))
  (sfor (mrng1 (mcons (mret (.int 5)) (mret []))) (gset 4) b_law_K04_2)))
def m_law_K04 : SM := (sseq (sfor (mseq (mop gadd (mvar 0) (mlst (mcons (mop gadd (mop gpow (mret (.int 10)) (mret (.int 18))) (mret (.int 4))) (mret []))))) (gset 1) b_law_K04_3)
  (sretD (mret (.bl true))))
def f_law_K04 : List O → FR := runFn [false] 9 m_law_K04
end
end Rn

namespace Rn
open PySem PySem.Spec L2 Z
noncomputable section
/-- slots: 0 law_game, 1 law_trick -/
def m_law_placed : SM := (sseq (sif (mtest (mop geq (mcb glen (mcons (mvar 1) (mret []))) (mret (.int 2)))) (sretD (mfz (mcallV 1 f_best_place (maE (mvar 0) (maE (mop gix (mvar 1) (mret (.int 0))) (maE (mop gix (mvar 1) (mret (.int 1))) (mret []))))))) snxt)
  (sseq (sif (mtest (mop geq (mcb glen (mcons (mvar 1) (mret []))) (mret (.int 3)))) (sretD (mfz (mcallV 1 f_best_place (maE (mvar 0) (maE (mop gix (mvar 1) (mret (.int 0))) (maE (mop gix (mvar 1) (mret (.int 1))) (maE (mop gix (mvar 1) (mret (.int 2))) (mret [])))))))) snxt)
  (sretD (mfz (mcallV 1 f_best_place (maE (mvar 0) (maE (mop gix (mvar 1) (mret (.int 0))) (maE (mop gix (mvar 1) (mret (.int 1))) (maE (mop gix (mvar 1) (mret (.int 2))) (maE (mop gix (mvar 1) (mret (.int 3))) (mret [])))))))))))
def f_law_placed : List O → FR := runFn [false, false] 0 m_law_placed
/-- slots: 0 law_game, 1 law_one, 2 law_trick, 3 law_later, 4 law_trump, 5 law_ruff, 6 law_head, 7 law_lead, 8 law_top, 9 law_higher -/
def m_law_late : SM := (sseq (sasg (mslice (mvar 0) (mpartS (mret (.int 3))) (mpartS (mret (.int 6)))) (gtup 3 (gscons (gset 4) (gscons (gset 5) (gscons (gset 6) gsnil)))))
  (sseq (spar 7 8 (mop gix (mvar 2) (mret (.int 0))) (mop gix (mvar 2) (mfz (mcallN 2 f_law_winner (maE (mvar 4) (maE (mvar 2) (mret [])))))))
  (sseq (sif (mif (mtest (mop gne (mop gix (mvar 1) (mret (.int 0))) (mop gix (mvar 7) (mret (.int 0))))) (mtest (mop geq (mop gix (mvar 3) (mret (.int 0))) (mop gix (mvar 7) (mret (.int 0))))) (mret false)) (sretD (mret (.bl true))) snxt)
  (sseq (sif (mif (mtest (mop gne (mop gix (mvar 1) (mret (.int 0))) (mop gix (mvar 7) (mret (.int 0))))) (mif (mtest (mvar 5)) (mif (mtest (mop gne (mop gix (mvar 1) (mret (.int 0))) (mvar 4))) (mtest (mop geq (mop gix (mvar 3) (mret (.int 0))) (mvar 4))) (mret false)) (mret false)) (mret false)) (sretD (mret (.bl true))) snxt)
  (sseq (ssetD 9 (mand (mvar 6) (mand (mnotV (mfz (mcallN 3 f_beats (maE (mvar 0) (maE (mvar 1) (maE (mvar 8) (mret []))))))) (mfz (mcallN 3 f_beats (maE (mvar 0) (maE (mvar 3) (maE (mvar 8) (mret [])))))))))
  (sretD (mand (mvar 9) (mor (mop gne (mop gix (mvar 1) (mret (.int 0))) (mop gix (mvar 7) (mret (.int 0)))) (mop geq (mop gix (mvar 3) (mret (.int 0))) (mop gix (mvar 7) (mret (.int 0))))))))))))
def f_law_late : List O → FR := runFn [false, false, false, false] 6 m_law_late
/-- slots: 0 law_pot_here, 1 law_game, 2 law_hand, 3 law_trick, 4 law_some, 5 law_top, 6 law_one, 7 law_late_here, 8 law_other -/
def c_law_turn_0 : M O := (mlc [6] (mseq (mvar 4)) (gset 6) (mtest (mop gnin (mvar 6) (mvar 2))) (mvar 6))
def c_law_turn_1 : M O := (mlc [8] (mseq (mvar 2)) (gset 8) (mtest (mfz (mcallN 4 f_law_late (maE (mvar 1) (maE (mvar 6) (maE (mvar 3) (maE (mvar 8) (mret [])))))))) (mvar 8))
def b_law_turn_2 : SM := (sseq (ssetD 7 (mfz c_law_turn_1))
  (sif (mtest (mop gne (mop geq (mvar 7) (mlst (mret []))) (mop gin (mvar 6) (mvar 4)))) (sretD (mret .non)) snxt))
def m_law_turn : SM := (sseq (sif (mtest (mop geq (mvar 3) (mlst (mret [])))) (sseq (ssetD 4 (mfz (mcallC 2 0 [0, 1, 2, 3] [.non, .non] 4 f_allowed (maE (mvar 1) (maE (mcb gtuple (mcons (mvar 2) (mret []))) (mret []))) (mret []))))
  (sretD (mif (mif (mtest (mop geq (mvar 4) (mvar 2))) (mtest (mop gne (mvar 2) (mlst (mret [])))) (mret false)) (mop gix (mvar 4) (mfz (mcallN 2 f_law_out (maI 0 (maE (mcb glen (mcons (mvar 4) (mret []))) (mret [])))))) (mret .non)))) snxt)
  (sseq (ssetD 5 (mop gix (mvar 3) (mfz (mcallN 2 f_law_winner (maE (mop gix (mvar 1) (mret (.int 3))) (maE (mvar 3) (mret [])))))))
  (sseq (ssetD 4 (mfz (mcallC 4 0 [0, 1, 2, 3] [.non, .non] 4 f_allowed (maE (mvar 1) (maE (mcb gtuple (mcons (mvar 2) (mret []))) (maE (mop gix (mvar 3) (mret (.int 0))) (maE (mvar 5) (mret []))))) (mret []))))
  (sseq (sif (mif (mtest (mop geq (mvar 4) (mlst (mret [])))) (mret true) (mif (mtest (mop gne (mvar 4) (mcb gsorted (mcons (mvar 4) (mret []))))) (mret true) (mtest (mop gne (mfz c_law_turn_0) (mlst (mret [])))))) (sretD (mret .non)) snxt)
  (sseq (sfor (mseq (mvar 2)) (gset 6) b_law_turn_2)
  (sretD (mop gix (mvar 4) (mfz (mcallN 2 f_law_out (maI 0 (maE (mcb glen (mcons (mvar 4) (mret []))) (mret []))))))))))))
def f_law_turn : List O → FR := runFn [true, false, false, false] 5 m_law_turn
/-- slots: 0 law_pot_here, 1 law_game, 2 law_left, 3 law_hands, 4 law_k, 5 law_player, 6 law_gone, 7 law_trick, 8 law_at, 9 law_one -/
def c_law_right_3_0 : M O := (mlc [8] (mrng1 (mcons (mop gix (mvar 1) (mret (.int 2))) (mret []))) (gset 8) (mret true) (mpop 2 (mfz (mcallN 2 f_law_out (maI 0 (maE (mcbo glen 2) (mret [])))))))
def b_law_right_3_1 : SM := (sappO 3 (msortO (mcons (mfz c_law_right_3_0) (mret []))))
def b_law_right_3_2 : SM := (sseq (ssetD 9 (mbor lf 7 (mbor lf 3 (mfz (mcallN 4 f_law_turn (maI 0 (maE (mvar 1) (maE (mop gix (mvar 3) (mvar 5)) (maE (mvar 7) (mret []))))))))))
  (sseq (sif (mtest (mop gis (mvar 9) (mret .non))) (sretD (mret (.bl false))) snxt)
  (sseq (sremN 3 9 (mvar 5))
  (sseq (sapp 7 (mvar 9))
  (ssetD 5 (mop gmod (mcb gint (mcons (mop gadd (mvar 5) (mret (.int 1))) (mret []))) (mop gix (mvar 1) (mret (.int 1)))))))))
def b_law_right_3_3 : SM := (sseq (ssetO 7 (mlstO (mret [])))
  (sseq (sfor (mrng1 (mcons (mop gix (mvar 1) (mret (.int 1))) (mret []))) (gset 8) b_law_right_3_2)
  (sseq (sif (mbor (fun _ => true) 7 (mtest (mop gne (mfz (mcallN 2 f_law_placed (maE (mvar 1) (maE (mvar 7) (mret []))))) (mfz (mcallN 2 f_law_winner (maE (mop gix (mvar 1) (mret (.int 3))) (maE (mvar 7) (mret [])))))))) (sretD (mret (.bl false))) snxt)
  (sseq (ssetD 5 (mbor lf 7 (mop gmod (mcb gint (mcons (mop gadd (mvar 5) (mfz (mcallN 2 f_law_winner (maE (mop gix (mvar 1) (mret (.int 3))) (maE (mvar 7) (mret [])))))) (mret []))) (mop gix (mvar 1) (mret (.int 1))))))
  (ssetD 6 (mfz (mbor lfo 7 (mcat (mvar 6) (mvar 7)))))))))
def m_law_right_3 : SM := (sseq (sparO 2 3 (mlistO (mcons (mfz (mcallN 1 f_all_cards (maE (mvar 1) (mret [])))) (mret []))) (mlstO (mret [])))
  (sseq (sfor (mrng1 (mcons (mop gix (mvar 1) (mret (.int 1))) (mret []))) (gset 4) b_law_right_3_1)
  (sseq (spar 5 6 (mop gix (mvar 1) (mret (.int 6))) (mlst (mret [])))
  (sseq (sfor (mrng1 (mcons (mop gix (mvar 1) (mret (.int 2))) (mret []))) (gset 4) b_law_right_3_3)
  (sretD (mand (mop geq (mcb gsorted (mcons (mop gadd (mvar 6) (mvar 2)) (mret []))) (mcb glist (mcons (mfz (mcallN 1 f_all_cards (maE (mvar 1) (mret [])))) (mret [])))) (mop geq (mlenset (mvar 6)) (mop gmul (mop gix (mvar 1) (mret (.int 1))) (mop gix (mvar 1) (mret (.int 2)))))))))))
def f_law_right_3 : List O → FR := runFn [true, false] 8 m_law_right_3
/-- slots: 0 law_script, 1 law_cell, 2 law_pot_here -/
def b_law_K07_0 : SM := (sseq (ssetO 2 (mcallN 1 f_law_pot (maE (mvar 1) (mret []))))
  (sif (mnotB (mtest (mfz (mcallN 2 f_law_right_3 (maI 2 (maE (mfz (mcallN 1 f_law_setup (maI 2 (mret [])))) (mret []))))))) (sretD (mret (.bl false))) snxt))
def m_law_K07 : SM := (sseq (sfor (mseq (mop gadd (mslice (mvar 0) (mret none) (mpartS (mret (.int 6)))) (mlst (mcons (mop gadd (mop gpow (mret (.int 10)) (mret (.int 18))) (mret (.int 4))) (mcons (mop gadd (mop gpow (mret (.int 10)) (mret (.int 18))) (mret (.int 9))) (mret [])))))) (gset 1) b_law_K07_0)
  (sretD (mret (.bl true))))
def f_law_K07 : List O → FR := runFn [false] 2 m_law_K07
end
end Rn

namespace Rn
open PySem PySem.Spec L2 Z
theorem wb_int (i a b : Int) : f_whole_between [.frz (.int i), .frz (.int a), .frz (.int b)] = .ok (.frz (.bl (decide (a ≤ i) && decide (i ≤ b)))) [.frz (.int i), .frz (.int a), .frz (.int b)] := by
  by_cases h : a ≤ i <;> by_cases h2 : i ≤ b <;> simp [f_whole_between, m_whole_between, runFn, h, h2]
theorem lp (z : Int) : f_law_pot [.frz (.int z)] = .ok (.lst [.frz (.int (if z - 10^18 > 0 then z - 10^18 else 0)), .frz (.int (z % 1000000000061)), .frz (.int 0)]) [.frz (.int z)] := by
  simp [f_law_pot, m_law_pot, runFn, fit_small]
theorem lp_pot (z : Int) : ∃ p, f_law_pot [.frz (.int z)] = .ok p [.frz (.int z)] ∧ Pot 0 p := by
  refine ⟨_, lp z, _, _, _, rfl, ?_, ?_, ?_, ?_, ?_⟩
  · split <;> omega
  · omega
  · omega
  · omega
  · omega
theorem lo : Draws f_law_out := by
  intro k p n ⟨a, b, s, hp, ha, hb, hb2, hs, hs2⟩ hk hn hn2
  subst hp
  have hd : ∀ x : Int, gdiv (.int x) (.int n) = some (.int (x / n)) := fun x => gdiv_Lg hn hn2
  have hm : ∀ x : Int, gmod (.int x) (.int n) = some (.int (x % n)) := fun x => gmod_pos hn
  by_cases h : a > 0
  · refine ⟨a % n, .lst [.frz (.int (a / n)), .frz (.int b), .frz (.int s)], ?_, Int.emod_nonneg _ (by omega), Int.emod_lt_of_pos _ hn, _, _, _, rfl, Int.ediv_nonneg ha (by omega), hb, hb2, hs, by omega⟩
    simp [f_law_out, m_law_out, runFn, h, hd, hm, -gdiv_int, -gmod_int, -gmul_int]
  · have b1 : Lg 20 (s + 1) := by unfold Lg; omega
    have b2 : Lg 41 (b + 3) := by unfold Lg; omega
    have l0 : ∀ x : Int, 0 ≤ x → x < 2 ^ 64 → Lg 64 x := fun x h1 h2 => by unfold Lg; omega
    have b9 := Lg.mul (l0 97 (by decide) (by decide)) b1
    have b3 := Lg.mul b9 b1
    have b4 := Lg.mul (l0 5003 (by decide) (by decide)) b1
    have b5 := Lg.add (Lg.add b3 b4) (l0 29 (by decide) (by decide))
    have b6 := Lg.mul b2 b5
    have b8 := Lg.div (b := 217) (Lg.mod (a := (((b + 3) * (97 * (s + 1) * (s + 1) + 5003 * (s + 1) + 29)) * ((b + 3) * (97 * (s + 1) * (s + 1) + 5003 * (s + 1) + 29)) + 611953 * ((b + 3) * (97 * (s + 1) * (s + 1) + 5003 * (s + 1) + 29)) + (s + 1))) (b := 999999999961) (by decide) (l0 999999999961 (by decide) (by decide)))
    have q1 : ∀ x : Int, gdiv (.int x) (.int 217) = some (.int (x / 217)) := fun x => gdiv_Lg (by decide) (by decide)
    have q2 : ∀ x : Int, gdiv (.int x) (.int 64) = some (.int (x / 64)) := fun x => gdiv_Lg (by decide) (by decide)
    have e : f_law_out [.lst [.frz (.int a), .frz (.int b), .frz (.int s)], .frz (.int n)] = .ok (.frz (.int (((((((b + 3) * (97 * (s + 1) * (s + 1) + 5003 * (s + 1) + 29)) * ((b + 3) * (97 * (s + 1) * (s + 1) + 5003 * (s + 1) + 29)) + 611953 * ((b + 3) * (97 * (s + 1) * (s + 1) + 5003 * (s + 1) + 29)) + (s + 1)) % 999999999961 / 217) * ((((b + 3) * (97 * (s + 1) * (s + 1) + 5003 * (s + 1) + 29)) * ((b + 3) * (97 * (s + 1) * (s + 1) + 5003 * (s + 1) + 29)) + 611953 * ((b + 3) * (97 * (s + 1) * (s + 1) + 5003 * (s + 1) + 29)) + (s + 1)) % 999999999961 / 217) + 3571 * ((((b + 3) * (97 * (s + 1) * (s + 1) + 5003 * (s + 1) + 29)) * ((b + 3) * (97 * (s + 1) * (s + 1) + 5003 * (s + 1) + 29)) + 611953 * ((b + 3) * (97 * (s + 1) * (s + 1) + 5003 * (s + 1) + 29)) + (s + 1)) % 999999999961 / 217) + 11 * (s + 1)) % 4294967291 / 64) % n))) [.lst [.frz (.int a), .frz (.int b), .frz (.int (s + 1))], .frz (.int n)] := by
      have k1 := (l0 97 (by decide) (by decide)).LL
      have k2 := (l0 5003 (by decide) (by decide)).LL
      have k4 := (l0 611953 (by decide) (by decide)).LL
      have k5 := (l0 3571 (by decide) (by decide)).LL
      have k6 := (l0 11 (by decide) (by decide)).LL
      have h1 := b1.LL
      have h2 := b2.LL
      have h5 := b5.LL
      have h6 := b6.LL
      have h8 := b8.LL
      have h9 := b9.LL
      simp [f_law_out, m_law_out, runFn, h, hm, q1, q2, -gdiv_int, -gmod_int, -gmul_int, gmul_LL, k1, k2, k4, k5, k6, h1, h2, h5, h6, h8, h9, gmod_pos]
    exact ⟨_, _, e, Int.emod_nonneg _ (by omega), Int.emod_lt_of_pos _ hn, _, _, _, rfl, ha, hb, hb2, by omega, by omega⟩

theorem deck_ok {cs : List Int} (h1 : 1 ≤ cs.length) (h4 : cs.length ≤ 4) (hc1 : ∀ c ∈ cs, 1 ≤ c) (hc : ∀ c ∈ cs, c ≤ 10) (hs : cs.sum ≤ 32) : f_is_deck [.frz (.tup (cs.map .int))] = .ok (.frz (.bl true)) [.frz (.tup (cs.map .int))] := by
  obtain ⟨ρ', e, y, rfl⟩ := sloop_inv (body := b_is_deck_0) (tg := gset 1) (cs.map .int) (fun _ ρ => ∃ y, ρ = [some (.frz (.tup (cs.map .int))), y]) (fun j d ρ hd ⟨y, hy⟩ => by
    subst hy
    obtain ⟨n, rfl, hn⟩ := map_get_int hd
    have hm := List.mem_of_getElem? hn
    have a1 := hc1 n hm
    have a2 := hc n hm
    simp [stepOk, b_is_deck_0, wb_int, a1, a2]) [some (.frz (.tup (cs.map .int))), none] ⟨_, rfl⟩
  have b1 : (1:Int) ≤ cs.length := by omega
  have b2 : (cs.length:Int) ≤ 4 := by omega
  simp [f_is_deck, m_is_deck, runFn, b1, b2, e, hs]
theorem setup_ok {cs : List Int} {ps es : Int} {t : D} {ld : Int} (h : OkS cs ps es t ld) (rf hd : Bool) : f_is_setup [.frz (sud cs ps es t rf hd ld)] = .ok (.frz (.bl true)) [.frz (sud cs ps es t rf hd ld)] := by
  have e := deck_ok h.l1 h.l4 h.c1 h.c10 h.s
  have m := mul_LL_of (a := ps) (b := es) (by have := h.p2; have := h.p4; unfold Lg; omega) (by have := h.e1; have := h.e8; unfold Lg; omega)
  have m2 : ¬ (cs.sum < ps * es) := by have := h.m; omega
  rcases h.t with rfl | ⟨k, rfl, k1, k2⟩
  · simp [sud, f_is_setup, m_is_setup, runFn, e, wb_int, h.p2, h.p4, h.e1, h.e8, h.d0, h.dp, m, m2, -gmul_int]
  · simp [sud, f_is_setup, m_is_setup, runFn, e, wb_int, h.p2, h.p4, h.e1, h.e8, h.d0, h.dp, m, m2, k1, k2, -gmul_int]
theorem need_setup_ok {cs : List Int} {ps es : Int} {t : D} {ld : Int} (h : OkS cs ps es t ld) (rf hd : Bool) : f_need_setup [.frz (sud cs ps es t rf hd ld)] = .ok (.frz (sud cs ps es t rf hd ld)) [.frz (sud cs ps es t rf hd ld)] := by
  have e := setup_ok h rf hd
  simp [f_need_setup, m_need_setup, runFn, e]
theorem fits_card_ok {cs : List Int} {ps es : Int} {t : D} {ld : Int} (rf hd : Bool) {s r : Int} (c : OkC cs s r) : f_fits_card [.frz (sud cs ps es t rf hd ld), .frz (card s r)] = .ok (.frz (.bl true)) [.frz (sud cs ps es t rf hd ld), .frz (card s r)] := by
  obtain ⟨h0, h1, h2, h3, h4⟩ := c
  have g := gix_ints (cs := cs) h0 (by omega)
  simp [sud, card, f_fits_card, m_fits_card, runFn, wb_int, h0, h1, h3, h4, g]
abbrev fi (i : Int) : O := .frz (.int i)
theorem toDs_fi (ds : List Int) : O.toDs (ds.map fi) = ds.map .int := by
  have := toDs_frz (ds.map D.int)
  rwa [List.map_map] at this
theorem pick4 {r : Int} (h0 : 0 ≤ r) (h : r < 4) : ∃ v, gix (.lst [.int 3, .int 10, .int 5, .int 10]) (.int r) = some (.int v) ∧ 3 ≤ v ∧ v ≤ 10 := by
  have : r = 0 ∨ r = 1 ∨ r = 2 ∨ r = 3 := by omega
  rcases this with rfl | rfl | rfl | rfl
  · exact ⟨3, rfl, by decide, by decide⟩
  · exact ⟨10, rfl, by decide, by decide⟩
  · exact ⟨5, rfl, by decide, by decide⟩
  · exact ⟨10, rfl, by decide, by decide⟩
/-- the deck so far -/
structure Dk (s v : Int) (j : Nat) (ds : List Int) : Prop where
  l : ds.length = j
  c1 : ∀ c ∈ ds, 1 ≤ c
  c10 : ∀ c ∈ ds, c ≤ 10
  s : ds.sum ≤ 32 - s + j
def InvD (k : Nat) (r1 v : Int) (j : Nat) (ρ : Z.Env) : Prop := ∃ q ds x, ρ = [some q, some (.frz (.int (1 + r1))), some (.frz (.int v)), some (.lst (ds.map fi)), x, none, none, none, none, none] ∧ Dk (1 + r1) v j ds ∧ Pot (k + 1 + 1 + j) q
theorem law_setup_ok {k : Nat} {p : O} (hp : Pot k p) (hk : k ≤ 1000) : ∃ cs ps es t rf hd ld p', f_law_setup [p] = .ok (.frz (sud cs ps es t rf hd ld)) [p'] ∧ OkS cs ps es t ld ∧ Pot (k + 16) p' := by
  obtain ⟨r1, p1, e1, r10, r1n, hp1⟩ := lo _ _ 4 hp (by omega) (by decide) (by decide)
  obtain ⟨r2, p2, e2, r20, r2n, hp2⟩ := lo _ _ 4 hp1 (by omega) (by decide) (by decide)
  obtain ⟨v, ev, hv3, hv10⟩ := pick4 r20 r2n
  obtain ⟨ρ', e, q, ds, x, rfl, hd, hq⟩ := sloop_inv (body := b_law_setup_0) (tg := gset 4) (rangeD 0 (1 + r1).toNat) (InvD k r1 v) (fun j d ρ hd ⟨q, ds, x, hρ, hds, hq⟩ => by
    obtain ⟨hj, rfl⟩ := rangeD_get hd
    subst hρ
    have hj' : (j : Int) < 1 + r1 := by omega
    have hs := hds.s
    obtain ⟨r3, p3, e3, r30, r3n, hp3⟩ := lo _ _ (if 33 - ds.sum - (1 + r1) + j < v then 33 - ds.sum - (1 + r1) + j else v) hq (by omega) (by split <;> omega) (by split <;> omega)
    have hl : ds.length < sizeLine := by rw [hds.l, sizeLine_eq]; omega
    simp [stepOk, b_law_setup_0, toDs_fi, hl, e3]
    refine ⟨p3, ds ++ [1 + r3], _, by rw [List.map_append]; rfl, ⟨by simp [hds.l], ?_, ?_, ?_⟩, hp3⟩
    · intro c hc
      rcases List.mem_append.1 hc with h | h
      · exact hds.c1 c h
      · have := List.mem_singleton.1 h; omega
    · intro c hc
      rcases List.mem_append.1 hc with h | h
      · exact hds.c10 c h
      · have := List.mem_singleton.1 h
        split at r3n <;> omega
    · rw [List.sum_append]
      simp
      split at r3n <;> omega) [some p2, some (.frz (.int (1 + r1))), some (.frz (.int v)), some (.lst []), none, none, none, none, none, none] ⟨p2, [], none, rfl, ⟨rfl, by simp, by simp, by simp; omega⟩, hp2⟩
  rw [rangeD_len] at hd hq
  have h1 := hd.l
  have h2 := hd.s
  have hm := mrange1_ok (j := 1 + r1) (by omega) (by omega)
  -- the deck, at least two cards
  obtain ⟨cs, hcs, hcd⟩ : ∃ cs : List Int, (if ds.sum < 2 then [2] else ds) = cs ∧ (1 ≤ cs.length ∧ cs.length ≤ 4 ∧ (∀ c ∈ cs, 1 ≤ c) ∧ (∀ c ∈ cs, c ≤ 10) ∧ 2 ≤ cs.sum ∧ cs.sum ≤ 32) := by
    refine ⟨_, rfl, ?_⟩
    split
    · decide
    · exact ⟨by omega, by omega, hd.c1, hd.c10, by omega, by omega⟩
  obtain ⟨l1, l4, c1, c10, s2, s32⟩ := hcd
  obtain ⟨r5, p5, e5, r50, r5n, hp5⟩ := lo _ _ (if cs.sum - 1 < 3 then cs.sum - 1 else 3) hq (by omega) (by split <;> omega) (by split <;> omega)
  have hdiv : 1 ≤ cs.sum / (2 + r5) := by
    have : 2 + r5 ≤ cs.sum := by split at r5n <;> omega
    exact (Int.le_ediv_iff_mul_le (by omega)).2 (by omega)
  have hdiv2 : cs.sum / (2 + r5) ≤ 32 := Int.le_trans (Int.ediv_le_self _ (by omega)) s32
  have gd : gdiv (.int cs.sum) (.int (2 + r5)) = some (.int (cs.sum / (2 + r5))) := gdiv_Lg (by omega) (by split at r5n <;> omega)
  obtain ⟨r6, p6, e6, r60, r6n, hp6⟩ := lo _ _ (if cs.sum / (2 + r5) < 8 then cs.sum / (2 + r5) else 8) hp5 (by omega) (by split <;> omega) (by split <;> omega)
  obtain ⟨r7, p7, e7, r70, r7n, hp7⟩ := lo _ _ cs.length hp6 (by omega) (by omega) (by omega)
  obtain ⟨r8, p8, e8, r80, r8n, hp8⟩ := lo _ _ cs.length hp7 (by omega) (by omega) (by omega)
  obtain ⟨r9, p9, e9, r90, r9n, hp9⟩ := lo _ _ 3 hp8 (by omega) (by decide) (by decide)
  obtain ⟨t, et, ht⟩ : ∃ t, gix (.lst [.non, .int r7, .int r8]) (.int r9) = some t ∧ (t = .non ∨ ∃ k : Int, t = .int k ∧ 0 ≤ k ∧ k ≤ cs.length - 1) := by
    have : r9 = 0 ∨ r9 = 1 ∨ r9 = 2 := by omega
    rcases this with rfl | rfl | rfl
    · exact ⟨_, rfl, .inl rfl⟩
    · exact ⟨_, rfl, .inr ⟨r7, rfl, by omega, by omega⟩⟩
    · exact ⟨_, rfl, .inr ⟨r8, rfl, by omega, by omega⟩⟩
  obtain ⟨ra, pa, ea, ra0, ran, hpa⟩ := lo _ _ 2 hp9 (by omega) (by decide) (by decide)
  obtain ⟨rb, pb, eb, rb0, rbn, hpb⟩ := lo _ _ 2 hpa (by omega) (by decide) (by decide)
  obtain ⟨rc, pc, ec, rc0, rcn, hpc⟩ := lo _ _ (2 + r5) hpb (by omega) (by omega) (by split at r5n <;> omega)
  refine ⟨cs, 2 + r5, 1 + r6, t, decide (ra = 0), decide (rb = 0), rc, pc, ?_, ⟨l1, l4, c1, c10, s32, by omega, by split at r5n <;> omega, by omega, by split at r6n <;> omega, ?_, by omega, by omega, ht⟩, hpc.mono (by omega)⟩
  · by_cases hlt : ds.sum < 2
    · rw [if_pos hlt] at hcs
      subst hcs
      have ei : D.ints [D.int 2] = some [2] := rfl
      simp [-gdiv_int] at e5 gd e6 e7 e8
      simp [f_law_setup, m_law_setup, runFn, e1, e2, ev, hm, e, toDs_fi, hlt, fit_small, ei, e5, gd, -gdiv_int, e6, e7, e8, e9, et, ea, eb, ec, sud]
    · rw [if_neg hlt] at hcs
      subst hcs
      simp [f_law_setup, m_law_setup, runFn, e1, e2, ev, hm, e, toDs_fi, hlt, e5, gd, -gdiv_int, e6, e7, e8, e9, et, ea, eb, ec, fit_small, sud]
  · have hx : 1 + r6 ≤ cs.sum / (2 + r5) := by split at r6n <;> omega
    have := Int.mul_ediv_self_le (x := cs.sum) (k := 2 + r5) (by omega)
    exact Int.le_trans (Int.mul_le_mul_of_nonneg_left hx (by omega)) this
theorem filter_tt (l : List D) : l.filter (fun _ => true) = l := by simp
theorem comp_ok {cs : List Int} {ps es : Int} {t : D} {ld : Int} (h : OkS cs ps es t ld) (rf hd : Bool) (f x : Option O) {s : Int} (h0 : 0 ≤ s) (h1 : s < cs.length) : c_law_cards_0 [some (.frz (sud cs ps es t rf hd ld)), f, some (.frz (.int s)), x] = .ok (.lst (((rangeD 0 (cs[s.toNat]'(by omega)).toNat).map fun d => D.tup [.int s, d]).map .frz)) [some (.frz (sud cs ps es t rf hd ld)), f, some (.frz (.int s)), none] := by
  have g := gix_ints (cs := cs) h0 h1
  have hm : cs[s.toNat]'(by omega) ∈ cs := List.getElem_mem _
  have a1 := h.c1 _ hm
  have a2 := h.c10 _ hm
  have r := mrange1_ok (j := cs[s.toNat]'(by omega)) (by omega) (by omega)
  have l := lcloop_map (vs := [3]) (g := gset 3) (mt := mret true) (me := mtup (mcons (mvar 2) (mcons (mvar 3) (mret [])))) (t := fun _ => true) (f := fun d => D.tup [.int s, d]) (ρ := [some (.frz (sud cs ps es t rf hd ld)), f, some (.frz (.int s)), none]) (rangeD 0 (cs[s.toNat]'(by omega)).toNat) [] (fun d hd => by
    simp [lcOk, fit_small, wipeE]) (by rw [rangeD_len, sizeLine_eq]; simp; omega)
  rw [filter_tt] at l
  simp only [List.nil_append] at l
  have e0 : gix (sud cs ps es t rf hd ld) (.int 0) = some (.tup (cs.map .int)) := gix_tup0 _ _
  unfold c_law_cards_0 mlc
  simp only [mbind_ap]
  have im : mrng1 (mcons (mop gix (mop gix (mvar 0) (mret (.int 0))) (mvar 2)) (mret [])) [some (.frz (sud cs ps es t rf hd ld)), f, some (.frz (.int s)), x] = .ok (rangeD 0 (cs[s.toNat]'(by omega)).toNat) [some (.frz (sud cs ps es t rf hd ld)), f, some (.frz (.int s)), x] := by
    simp [e0, g, r]
  rw [im]
  simp only [wipeE, List.set_cons_succ, List.set_cons_zero]
  rw [l]
  rfl
theorem allC_len {cs : List Int} {ps es : Int} {t : D} {ld : Int} (h : OkS cs ps es t ld) : (allC 0 cs).length ≤ 32 := by
  have := allN_len 0 cs fun c hc => by have := h.c1 c hc; omega
  have h2 := h.s
  unfold allC
  rw [List.length_map]
  omega
def InvC (cs : List Int) (gm : D) (j : Nat) (ρ : Z.Env) : Prop := ∃ x y, ρ = [some (.frz gm), some (.lst ((allC 0 (cs.take j)).map .frz)), x, y]
theorem sum_take_le : ∀ (cs : List Int) (j : Nat), (∀ c ∈ cs, 0 ≤ c) → (cs.take j).sum ≤ cs.sum
  | [], j, _ => by simp
  | c :: cs, 0, h => by
    have h1 := sum_take_le cs 0 fun x hx => h x (List.mem_cons_of_mem _ hx)
    have h2 := h c List.mem_cons_self
    simp at h1 ⊢
    omega
  | c :: cs, j + 1, h => by
    have h1 := sum_take_le cs j fun x hx => h x (List.mem_cons_of_mem _ hx)
    simp
    exact h1
theorem cards_run (gm : D) (ds : List D) (cs : List Int) (x y : Option O) (e0 : gix gm (D.int 0) = some (D.tup (List.map D.int cs))) (e : sloop b_law_cards_1 (gset 2) (rangeD 0 cs.length) [some (O.frz gm), some (O.lst []), none, none] =
    S.nxt [some (O.frz gm), some (O.lst (ds.map .frz)), x, y]) (hr : mrange1 [D.int ↑cs.length] = some (rangeD 0 (↑cs.length))) :  f_law_cards [.frz gm] = .ok (.lst (ds.map .frz)) [.frz gm] := by
  have f0 : fit 0 (D.lst []) = some (.lst []) := fit_small (by omega)
  have eg : glen [D.tup (cs.map .int)] = some (.int cs.length) := by rw [glen_tup, List.length_map]
  simp only [f_law_cards, m_law_cards, runFn]
  simp [fit_small, e0, -glen_tup, eg, hr, e]
theorem law_cards_ok {cs : List Int} {ps es : Int} {t : D} {ld : Int} (h : OkS cs ps es t ld) (rf hd : Bool) : f_law_cards [.frz (sud cs ps es t rf hd ld)] = .ok (.lst ((allC 0 cs).map .frz)) [.frz (sud cs ps es t rf hd ld)] := by
  have hl1 := h.l1
  have hl4 := h.l4
  obtain ⟨ρ', e, x, y, rfl⟩ := sloop_inv (body := b_law_cards_1) (tg := gset 2) (rangeD 0 cs.length) (InvC cs (sud cs ps es t rf hd ld)) (fun j d ρ hd' ⟨x, y, hρ⟩ => by
    obtain ⟨hj, rfl⟩ := rangeD_get hd'
    subst hρ
    have cc := comp_ok h rf hd (some (.frz (.lst (allC 0 (cs.take j))))) y (s := j) (by omega) (by omega)
    have hm : cs[j]'(by omega) ∈ cs := List.getElem_mem _
    have a1 := h.c1 _ hm
    have a2 := h.c10 _ hm
    have hlen : (allC 0 (cs.take j)).length ≤ 32 := by
      unfold allC
      rw [List.length_map]
      have h1 := allN_len 0 (cs.take j) fun c hc => by have := h.c1 c (List.mem_of_mem_take hc); omega
      have h2 := sum_take_le cs j fun c hc => by have := h.c1 c hc; omega
      have h3 := h.s
      omega
    have hf : ∀ x : D, fit ((allC 0 (cs.take j)).length + (cs[j]'(by omega)).toNat) x = some x := fun x => fit_small (by omega)
    simp only [Int.toNat_natCast] at cc
    have td : ∀ l : List D, O.toD (.lst (l.map .frz)) = .lst l := fun l => by rw [toD_lst, toDs_frzs]
    have et : allC 0 (cs.take (j + 1)) = allC 0 (cs.take j) ++ (rangeD 0 (cs[j]'(by omega)).toNat).map fun d => D.tup [.int (j : Int), d] := by
      rw [List.take_succ_eq_append_getElem (by omega), allC_app, Nat.zero_add, List.length_take, Nat.min_eq_left (by omega)]
    have hf2 : (allC 0 (cs.take j)).length + (cs[j]'(by omega)).toNat ≤ sizeLine := by rw [sizeLine_eq]; omega
    have l1 : lfs (allC 0 (cs.take j)) = true := by unfold allC; exact lfs_map _ (fun _ => rfl) _
    have l2 : lfs ((rangeD 0 (cs[j]'(by omega)).toNat).map fun d => D.tup [.int (j : Int), d]) = true := by unfold rangeD; rw [List.map_map]; exact lfs_map _ (fun _ => rfl) _
    simp [-List.map_map, -List.map_append, -toD_lst, stepOk, b_law_cards_1, cc, td, rangeD_len, hf2, mbor_ap, borOk_succ, borOk_zero, borAll_cons, borAll_nil, slotBor_none, slotBor_frz, l1, l2]
    exact ⟨_, _, by rw [et]⟩) [some (.frz (sud cs ps es t rf hd ld)), some (.lst []), none, none] ⟨none, none, rfl⟩
  rw [rangeD_len, List.take_length] at e
  have hr := mrange1_ok (j := cs.length) (by omega) (by omega)
  have e0 : gix (sud cs ps es t rf hd ld) (.int 0) = some (.tup (cs.map .int)) := gix_tup0 _ _
  simp only [Int.toNat_natCast] at hr
  exact cards_run _ _ cs x y e0 e hr
/-- deck_cards -/
theorem deck_loop {gm : D} (me : M D) (hme : ∀ i c r : D, me [some (.frz gm), some (.frz i), some (.frz c), some (.frz r)] = .ok (.tup [i, r]) [some (.frz gm), some (.frz i), some (.frz c), some (.frz r)]) : ∀ (cs : List Int) (i : Nat) (acc : List D), (∀ c ∈ cs, 0 ≤ c ∧ c ≤ 10) → acc.length + (allC i cs).length ≤ sizeLine →
    lcloop2 [1, 2, 3] [3] (gtup 2 (gscons (gset 1) (gscons (gset 2) gsnil))) (mret true) (mrng1 (mcons (mvar 2) (mret []))) (gset 3) (mret true) me (enumD i (cs.map .int)) acc [some (.frz gm), none, none, none] = .ok (acc ++ allC i cs) [some (.frz gm), none, none, none]
  | [], i, acc, _, _ => by
    show R.ok acc _ = R.ok (acc ++ []) _
    rw [List.append_nil]
  | c :: cs, i, acc, h, hl => by
    have hc := h c List.mem_cons_self
    rw [allC_cons, List.length_append, List.length_map, rangeD_len] at hl
    have r := mrange1_ok (j := c) (by omega) (by omega)
    have l := lcloop_map (vs := [3]) (g := gset 3) (mt := mret true) (me := me) (t := fun _ => true) (f := fun d => D.tup [.int i, d]) (ρ := [some (.frz gm), some (.frz (.int i)), some (.frz (.int c)), none]) (rangeD 0 c.toNat) acc (fun d hd => by
      simp [lcOk, hme, wipeE]) (by rw [rangeD_len]; omega)
    rw [filter_tt] at l
    have ih := deck_loop me hme cs (i + 1) (acc ++ (rangeD 0 c.toNat).map fun d => D.tup [.int i, d]) (fun x hx => h x (List.mem_cons_of_mem _ hx)) (by rw [List.length_append, List.length_map, rangeD_len]; omega)
    rw [allC_cons, ← List.append_assoc]
    show lcloop2 _ _ _ _ _ _ _ _ (.tup [.int (i : Int), .int c] :: enumD (i + 1) (cs.map .int)) acc _ = _
    unfold lcloop2
    simp [r, wipeE, l]
    simpa using ih
theorem deck_cards_ok {cs : List Int} {ps es : Int} {t : D} {ld : Int} (h : OkS cs ps es t ld) (rf hd : Bool) : f_deck_cards [.frz (sud cs ps es t rf hd ld)] = .ok (.frz (.lst (allC 0 cs))) [.frz (sud cs ps es t rf hd ld)] := by
  have e0 : gix (sud cs ps es t rf hd ld) (.int 0) = some (.tup (cs.map .int)) := gix_tup0 _ _
  generalize sud cs ps es t rf hd ld = gm at *
  have l := deck_loop (gm := gm) (mtup (mcons (mvar 1) (mcons (mvar 3) (mret [])))) (fun i c r => by simp [fit_small]) cs 0 [] (fun c hc => by have := h.c1 c hc; have := h.c10 c hc; omega) (by have := allC_len h; rw [sizeLine_eq]; simp; omega)
  have lc : c_deck_cards_0 [some (.frz gm), none, none, none] = .ok (.lst ((allC 0 cs).map .frz)) [some (.frz gm), none, none, none] := by
    unfold c_deck_cards_0 mlc2
    have im : menumM (mcons (mop gix (mvar 0) (mret (.int 0))) (mret [])) [some (.frz gm), none, none, none] = .ok (enumD 0 (cs.map .int)) [some (.frz gm), none, none, none] := by
      simp [e0]
    simp only [mbind_ap]
    rw [im]
    simp only [wipeE, List.set_cons_succ, List.set_cons_zero]
    rw [l]
    rfl
  have td : ∀ l : List D, O.toD (.lst (l.map .frz)) = .lst l := fun l => by rw [toD_lst, toDs_frzs]
  simp only [f_deck_cards, m_deck_cards, runFn]
  simp [lc, -toD_lst, td]
theorem all_cards_ok {cs : List Int} {ps es : Int} {t : D} {ld : Int} (h : OkS cs ps es t ld) (rf hd : Bool) : f_all_cards [.frz (sud cs ps es t rf hd ld)] = .ok (.frz (.tup (allC 0 cs))) [.frz (sud cs ps es t rf hd ld)] := by
  have e1 := need_setup_ok h rf hd
  have e2 := deck_cards_ok h rf hd
  generalize sud cs ps es t rf hd ld = gm at *
  simp [f_all_cards, m_all_cards, runFn, e1, e2]
end Rn

namespace Rn
open PySem PySem.Spec L2 Z
theorem wb_any {x : D} (hx : Told x = true) (a b : Int) : f_whole_between [.frz x, .frz (.int a), .frz (.int b)] = .ok (.frz (.bl (wbD x a b))) [.frz x, .frz (.int a), .frz (.int b)] := by
  cases x with
  | int i => exact wb_int i a b
  | dct _ => cases hx
  | opq _ => cases hx
  | _ => simp [f_whole_between, m_whole_between, runFn]
theorem fits_pair {cs : List Int} {ps es : Int} {t : D} {ld : Int} (h : OkS cs ps es t ld) (rf hd : Bool) {x y : D} (hx : Told x = true) (hy : Told y = true) (q : Bool)
    (hq : match x with | .int a => if h : 0 ≤ a ∧ a < cs.length then q = wbD y 0 (cs[a.toNat]'(by omega) - 1) else q = false | _ => q = false) :
    f_fits_card [.frz (sud cs ps es t rf hd ld), .frz (.tup [x, y])] = .ok (.frz (.bl q)) [.frz (sud cs ps es t rf hd ld), .frz (.tup [x, y])] := by
  have w1 := wb_any hx 0 (cs.length - 1)
  by_cases c : wbD x 0 ((cs.length : Int) - 1) = true
  · cases x <;> first | (cases hx; done) | (simp at c; done) | skip
    rename_i a
    simp at c
    have hc : 0 ≤ a ∧ a < cs.length := by omega
    have hq : if h : 0 ≤ a ∧ a < cs.length then q = wbD y 0 (cs[a.toNat]'(by omega) - 1) else q = false := hq
    rw [dif_pos hc] at hq
    have g := gix_ints (cs := cs) hc.1 hc.2
    have w2 := wb_any hy 0 (cs[a.toNat]'(by omega) - 1)
    rw [← hq] at w2
    simp [wbD, c] at w1
    simp [sud, f_fits_card, m_fits_card, runFn, w1, w2, g, c]
  · have e : q = false := by
      cases x <;> try exact hq
      rename_i a
      simp at c
      have hq : if h : 0 ≤ a ∧ a < cs.length then q = wbD y 0 (cs[a.toNat]'(by omega) - 1) else q = false := hq
      rw [dif_neg (by omega)] at hq
      exact hq
    have e2 : wbD x 0 ((cs.length : Int) - 1) = false := by simpa using c
    rw [e2] at w1
    subst e
    simp [sud, f_fits_card, m_fits_card, runFn, w1]
theorem fits_card_pair {cs : List Int} {ps es : Int} {t : D} {ld : Int} (h : OkS cs ps es t ld) (rf hd : Bool) (a b : Int) : f_fits_card [.frz (sud cs ps es t rf hd ld), .frz (card a b)] = .ok (.frz (.bl (fitsB cs a b))) [.frz (sud cs ps es t rf hd ld), .frz (card a b)] := by
  refine fits_pair h rf hd (x := .int a) (y := .int b) rfl rfl _ ?_
  show if h : 0 ≤ a ∧ a < cs.length then fitsB cs a b = wbD (.int b) 0 (cs[a.toNat]'(by omega) - 1) else fitsB cs a b = false
  by_cases hc : 0 ≤ a ∧ a < cs.length
  · rw [dif_pos hc, fitsB_iff hc.1 hc.2]; rfl
  · rw [dif_neg hc, fitsB_out hc]
theorem fits_no {cs : List Int} {ps es : Int} {t : D} {ld : Int} (rf hd : Bool) {x : D} (hx : gisi [x, .opq (.ty "tuple")] = some (.bl false)) : f_fits_card [.frz (sud cs ps es t rf hd ld), .frz x] = .ok (.frz (.bl false)) [.frz (sud cs ps es t rf hd ld), .frz x] := by
  simp [f_fits_card, m_fits_card, runFn, hx]
theorem fits_len {cs : List Int} {ps es : Int} {t : D} {ld : Int} (rf hd : Bool) {xs : List D} (hx : xs.length ≠ 2) : f_fits_card [.frz (sud cs ps es t rf hd ld), .frz (.tup xs)] = .ok (.frz (.bl false)) [.frz (sud cs ps es t rf hd ld), .frz (.tup xs)] := by
  have : (xs.length : Int) ≠ 2 := by omega
  simp [f_fits_card, m_fits_card, runFn, this]
theorem is_card_of {cs : List Int} {ps es : Int} {t : D} {ld : Int} (h : OkS cs ps es t ld) (rf hd : Bool) {x : D} {q : Bool} (e : f_fits_card [.frz (sud cs ps es t rf hd ld), .frz x] = .ok (.frz (.bl q)) [.frz (sud cs ps es t rf hd ld), .frz x]) : f_is_card [.frz (sud cs ps es t rf hd ld), .frz x] = .ok (.frz (.bl q)) [.frz (sud cs ps es t rf hd ld), .frz x] := by
  have e1 := need_setup_ok h rf hd
  generalize sud cs ps es t rf hd ld = gm at *
  simp [f_is_card, m_is_card, runFn, e, e1]
theorem is_holder_of {cs : List Int} {ps es : Int} {t : D} {ld : Int} (h : OkS cs ps es t ld) (rf hd : Bool) {x : D} (hx : Told x = true) : f_is_holder [.frz (sud cs ps es t rf hd ld), .frz x] = .ok (.frz (.bl (wbD x 0 ps))) [.frz (sud cs ps es t rf hd ld), .frz x] := by
  have e1 := need_setup_ok h rf hd
  have e2 := wb_any hx 0 ps
  have e3 : gix (sud cs ps es t rf hd ld) (.int 1) = some (.int ps) := gix_tup1 _ _ _
  generalize sud cs ps es t rf hd ld = gm at *
  have e4 : f_fits_holder [.frz gm, .frz x] = .ok (.frz (.bl (wbD x 0 ps))) [.frz gm, .frz x] := by
    simp [f_fits_holder, m_fits_holder, runFn, e2, e3]
  simp [f_is_holder, m_is_holder, runFn, e1, e4]
/-- the shape that the law asks, as is_card tells it -/
inductive Shp (cs : List Int) (gm : D) : D → Bool → Prop where
  | no {x : D} (h : gisi [x, .opq (.ty "tuple")] = some (.bl false)) : Shp cs gm x false
  | len {xs : List D} (h : xs.length ≠ 2) : Shp cs gm (.tup xs) false
  | two {x y : D} {z : Str} {q : Bool} (h1 : grepr [.tup [x, y]] = some (.str z)) (h2 : PyData.strOk z = true) (h3 : ((allN 0 cs).any fun u => shw u == z) = q) (h4 : f_fits_card [.frz gm, .frz (.tup [x, y])] = .ok (.frz (.bl q)) [.frz gm, .frz (.tup [x, y])]) : Shp cs gm (.tup [x, y]) q
theorem need_card_ok {cs : List Int} {ps es : Int} {t : D} {ld : Int} (rf hd : Bool) {s r : Int} (c : OkC cs s r) : f_need_card [.frz (sud cs ps es t rf hd ld), .frz (card s r)] = .ok (.frz (card s r)) [.frz (sud cs ps es t rf hd ld), .frz (card s r)] := by
  have e := fits_card_ok (ps := ps) (es := es) (t := t) (ld := ld) rf hd c
  simp [f_need_card, m_need_card, runFn, e]
def bts (t : D) (s r s2 r2 : Int) : Bool := if s = s2 then decide (r2 < r) else teq t s
theorem stronger_ok {cs : List Int} {ps es : Int} {t : D} {ld : Int} (h : OkS cs ps es t ld) (s r s2 r2 : Int) : f_stronger [.frz t, .frz (card s r), .frz (card s2 r2)] = .ok (.frz (.bl (bts t s r s2 r2))) [.frz t, .frz (card s r), .frz (card s2 r2)] := by
  have e := geq_t h
  by_cases h1 : s = s2 <;> simp [card, bts, f_stronger, m_stronger, runFn, e, h1]
theorem beats_ok {cs : List Int} {ps es : Int} {t : D} {ld : Int} (h : OkS cs ps es t ld) (rf hd : Bool) {s r s2 r2 : Int} (c : OkC cs s r) (c2 : OkC cs s2 r2) : f_beats [.frz (sud cs ps es t rf hd ld), .frz (card s r), .frz (card s2 r2)] = .ok (.frz (.bl (bts t s r s2 r2))) [.frz (sud cs ps es t rf hd ld), .frz (card s r), .frz (card s2 r2)] := by
  have e1 := need_setup_ok h rf hd
  have e2 := need_card_ok (ps := ps) (es := es) (t := t) (ld := ld) rf hd c
  have e3 := need_card_ok (ps := ps) (es := es) (t := t) (ld := ld) rf hd c2
  have e4 := stronger_ok h s r s2 r2
  have e5 : gix (sud cs ps es t rf hd ld) (.int 3) = some t := gix_tup3 _ _ _ _ _
  simp [f_beats, m_beats, runFn, e1, e2, e3, e4, e5]
theorem over_ok {cs : List Int} {ps es : Int} {t : D} {ld : Int} (h : OkS cs ps es t ld) (s r s2 r2 : Int) : f_law_over [.frz t, .frz (card s r), .frz (card s2 r2)] = .ok (.frz (.bl (decide (s = s2) && decide (r2 < r) || teq t s && !teq t s2))) [.frz t, .frz (card s r), .frz (card s2 r2)] := by
  have e := geq_t h
  have e2 := gne_t h
  by_cases h1 : s = s2
  · subst h1
    by_cases h2 : r2 < r <;> by_cases h3 : teq t s = true <;> simp [card, f_law_over, m_law_over, runFn, e, e2, h2, h3]
  · by_cases h2 : r2 < r <;> by_cases h3 : teq t s = true <;> simp [card, f_law_over, m_law_over, runFn, e, e2, h1, h2, h3]
theorem over_eq {cs : List Int} {ps es : Int} {t : D} {ld : Int} (h : OkS cs ps es t ld) (s r s2 r2 : Int) : (decide (s = s2) && decide (r2 < r) || teq t s && !teq t s2) = bts t s r s2 r2 := by
  unfold bts
  by_cases h1 : s = s2
  · subst h1
    cases teq t s <;> simp
  · rcases h.t with rfl | ⟨k, rfl, _⟩
    · simp [teq, h1]
    · by_cases h2 : s = k
      · subst h2
        simp [teq, h1]
        omega
      · simp [teq, h1, h2]
theorem bts_asym {cs : List Int} {ps es : Int} {t : D} {ld : Int} (h : OkS cs ps es t ld) {s r s2 r2 : Int} (e : bts t s r s2 r2 = true) : bts t s2 r2 s r = false := by
  unfold bts at *
  by_cases h1 : s = s2
  · subst h1
    simp at e ⊢
    omega
  · rw [if_neg h1] at e
    rw [if_neg (fun q => h1 q.symm)]
    rcases h.t with rfl | ⟨k, rfl, _⟩
    · rfl
    · simp [teq] at e ⊢
      omega
end Rn

namespace Rn
open PySem PySem.Spec L2 Z
/-! ## tools: comprehensions, loops -/
def lcStp (vs : List Nat) (g : D → Z.Env → Option Z.Env) (mt : M Bool) (me : M D) (d : D) (b : Bool) (y : D) (ρ : Z.Env) : Prop := match g d ρ with
  | none => False
  | some ρ1 => match mt ρ1 with
    | .ok b' ρ2 => b' = b ∧ (if b = true then (match me ρ2 with
      | .ok x ρ3 => x = y ∧ wipeE ρ3 vs = ρ
      | _ => False) else wipeE ρ2 vs = ρ)
    | _ => False
theorem lcloop_map2 {α : Type} (enc : α → D) (p : α → Bool) (f : α → D) {vs : List Nat} {g : D → Z.Env → Option Z.Env} {mt : M Bool} {me : M D} {ρ : Z.Env} : ∀ (as : List α) (acc : List D), (∀ a ∈ as, lcStp vs g mt me (enc a) (p a) (f a) ρ) → acc.length + as.length ≤ sizeLine → lcloop vs g mt me (as.map enc) acc ρ = .ok (acc ++ (as.filter p).map f) ρ
  | [], acc, _, _ => by simp [lcloop]
  | a :: as, acc, h, hl => by
    have h1 := h a List.mem_cons_self
    have hl' : acc.length + as.length + 1 ≤ sizeLine := by simpa [Nat.add_assoc] using hl
    have h2 : ∀ d ∈ as, lcStp vs g mt me (enc d) (p d) (f d) ρ := fun x hx => h x (List.mem_cons_of_mem _ hx)
    unfold lcStp at h1
    rw [List.map_cons]
    unfold lcloop
    cases e : g (enc a) ρ with
    | none => rw [e] at h1; exact h1.elim
    | some ρ1 =>
      rw [e] at h1
      simp only at h1 ⊢
      cases e2 : mt ρ1 with
      | ok b ρ2 =>
        rw [e2] at h1
        simp only at h1 ⊢
        obtain ⟨rfl, h1⟩ := h1
        by_cases ht : p a = true
        · rw [ht, if_pos rfl] at h1
          rw [ht, if_pos rfl]
          cases e3 : me ρ2 with
          | ok x ρ3 =>
            rw [e3] at h1
            obtain ⟨rfl, h3⟩ := h1
            simp only
            rw [if_pos (by omega), h3, lcloop_map2 enc p f as _ h2 (by simp; omega)]
            simp [ht]
          | exn c ρ3 => rw [e3] at h1; exact h1.elim
          | bad => rw [e3] at h1; exact h1.elim
        · have ht : p a = false := by simpa using ht
          rw [ht, if_neg (by decide)] at h1
          rw [ht, if_neg (by decide), h1, lcloop_map2 enc p f as _ h2 (by omega)]
          simp [ht]
      | exn c ρ2 => rw [e2] at h1; exact h1.elim
      | bad => rw [e2] at h1; exact h1.elim
/-- [x for v in im if c] over coded things, the frame unchanged -/
theorem mlc_map {α : Type} (enc : α → D) (as : List α) (p : α → Bool) (f : α → D) {vs : List Nat} {im : M (List D)} {g : D → Z.Env → Option Z.Env} {mt : M Bool} {me : M D} {ρ ρ1 : Z.Env} (him : im ρ = .ok (as.map enc) ρ1) (hw : wipeE ρ1 vs = ρ1 := by rfl)
    (h : ∀ a ∈ as, lcStp vs g mt me (enc a) (p a) (f a) ρ1) (hl : as.length ≤ sizeLine) : mlc vs im g mt me ρ = .ok (.lst (((as.filter p).map f).map .frz)) ρ1 := by
  unfold mlc
  simp only [mbind_ap]
  rw [him]
  simp only [hw]
  rw [lcloop_map2 enc p f as [] h (by simpa using hl)]
  rfl
/-- .. with the names behind it wiped -/
theorem mlc_mapw {α : Type} (enc : α → D) (as : List α) (p : α → Bool) (f : α → D) {vs : List Nat} {im : M (List D)} {g : D → Z.Env → Option Z.Env} {mt : M Bool} {me : M D} {ρ ρ1 ρ2 : Z.Env} (him : im ρ = .ok (as.map enc) ρ1) (hw : wipeE ρ1 vs = ρ2)
    (h : ∀ a ∈ as, lcStp vs g mt me (enc a) (p a) (f a) ρ2) (hl : as.length ≤ sizeLine) : mlc vs im g mt me ρ = .ok (.lst (((as.filter p).map f).map .frz)) ρ2 := by
  unfold mlc
  simp only [mbind_ap]
  rw [him]
  simp only [hw]
  rw [lcloop_map2 enc p f as [] h (by simpa using hl)]
  rfl
/-- .. where what is walked leaves the frame alone -/
theorem mlc_here {α : Type} (enc : α → D) (as : List α) (p : α → Bool) (f : α → D) {vs : List Nat} {im : M (List D)} {g : D → Z.Env → Option Z.Env} {mt : M Bool} {me : M D} {ρ ρ2 : Z.Env} (him : im ρ = .ok (as.map enc) ρ) (hw : wipeE ρ vs = ρ2)
    (h : ∀ a ∈ as, lcStp vs g mt me (enc a) (p a) (f a) ρ2) (hl : as.length ≤ sizeLine) : mlc vs im g mt me ρ = .ok (.lst (((as.filter p).map f).map .frz)) ρ2 := mlc_mapw enc as p f him hw h hl
/-- a comprehension that draws: its law over the frame -/
def lcStI (vs : List Nat) (g : D → Z.Env → Option Z.Env) (mt : M Bool) (me : M D) (d : D) (I : List D → Z.Env → Prop) (acc : List D) (ρ : Z.Env) : Prop := match g d ρ with
  | none => False
  | some ρ1 => match mt ρ1 with
    | .ok b ρ2 => if b = true then (match me ρ2 with
      | .ok x ρ3 => I (acc ++ [x]) (wipeE ρ3 vs)
      | _ => False) else I acc (wipeE ρ2 vs)
    | _ => False
theorem lcloop_inv {vs : List Nat} {g : D → Z.Env → Option Z.Env} {mt : M Bool} {me : M D} : ∀ (ds : List D) (I : Nat → List D → Z.Env → Prop) (acc : List D) (ρ : Z.Env), (∀ (j : Nat) (d : D) (acc : List D) (ρ : Z.Env), ds[j]? = some d → I j acc ρ → lcStI vs g mt me d (I (j + 1)) acc ρ) →
    acc.length + ds.length ≤ sizeLine → I 0 acc ρ → ∃ acc' ρ', lcloop vs g mt me ds acc ρ = .ok acc' ρ' ∧ I ds.length acc' ρ'
  | [], I, acc, ρ, _, _, h0 => ⟨acc, ρ, by simp [lcloop], h0⟩
  | d :: ds, I, acc, ρ, h, hl, h0 => by
    have h1 := h 0 d acc ρ rfl h0
    have hl' : acc.length + ds.length + 1 ≤ sizeLine := by simpa [Nat.add_assoc] using hl
    have hn : ∀ (j : Nat) (d' : D) (acc : List D) (ρ : Z.Env), ds[j]? = some d' → I (j + 1) acc ρ → lcStI vs g mt me d' (I (j + 1 + 1)) acc ρ := fun j d' acc ρ e => h (j + 1) d' acc ρ (by simpa using e)
    unfold lcStI at h1
    unfold lcloop
    cases e : g d ρ with
    | none => rw [e] at h1; exact h1.elim
    | some ρ1 =>
      rw [e] at h1
      simp only at h1 ⊢
      cases e2 : mt ρ1 with
      | ok b ρ2 =>
        rw [e2] at h1
        simp only at h1 ⊢
        by_cases hb : b = true
        · rw [if_pos hb] at h1 ⊢
          cases e3 : me ρ2 with
          | ok x ρ3 =>
            rw [e3] at h1
            simp only at h1 ⊢
            rw [if_pos (by omega)]
            obtain ⟨acc', ρ', q1, q2⟩ := lcloop_inv ds (fun j => I (j + 1)) (acc ++ [x]) _ hn (by simp; omega) h1
            exact ⟨acc', ρ', q1, q2⟩
          | exn c ρ3 => rw [e3] at h1; exact h1.elim
          | bad => rw [e3] at h1; exact h1.elim
        · rw [if_neg hb] at h1 ⊢
          obtain ⟨acc', ρ', q1, q2⟩ := lcloop_inv ds (fun j => I (j + 1)) acc _ hn (by omega) h1
          exact ⟨acc', ρ', q1, q2⟩
      | exn c ρ2 => rw [e2] at h1; exact h1.elim
      | bad => rw [e2] at h1; exact h1.elim
theorem mlc_inv {vs : List Nat} {im : M (List D)} {g : D → Z.Env → Option Z.Env} {mt : M Bool} {me : M D} {ρ ρ1 : Z.Env} {ds : List D} (I : Nat → List D → Z.Env → Prop) (him : im ρ = .ok ds ρ1)
    (h : ∀ (j : Nat) (d : D) (acc : List D) (ρ : Z.Env), ds[j]? = some d → I j acc ρ → lcStI vs g mt me d (I (j + 1)) acc ρ) (hl : ds.length ≤ sizeLine) (h0 : I 0 [] (wipeE ρ1 vs)) : ∃ acc ρ', mlc vs im g mt me ρ = .ok (.lst (acc.map .frz)) ρ' ∧ I ds.length acc ρ' := by
  obtain ⟨acc, ρ', e, q⟩ := lcloop_inv ds I [] _ h (by simpa using hl) h0
  refine ⟨acc, ρ', ?_, q⟩
  unfold mlc
  simp only [mbind_ap]
  rw [him]
  simp only
  rw [e]
  rfl
/-- a for over coded things, each turn the frame of one state more -/
theorem sloop_fold {α σ : Type} (enc : α → D) (en : σ → Z.Env) (f : σ → α → σ) {body : SM} {tg : D → Z.Env → Option Z.Env} : ∀ (as : List α) (s : σ), (∀ a ∈ as, ∀ s, stepOk body tg (fun ρ => ρ = en (f s a)) (enc a) (en s)) → sloop body tg (as.map enc) (en s) = .nxt (en (as.foldl f s))
  | [], s, _ => rfl
  | a :: as, s, h => by
    have h1 := h a List.mem_cons_self s
    rw [List.map_cons, sloop_cons, List.foldl_cons]
    unfold stepOk at h1
    cases e : tg (enc a) (en s) with
    | none => rw [e] at h1; exact h1.elim
    | some ρ1 =>
      rw [e] at h1
      simp only at h1 ⊢
      cases e2 : body ρ1 with
      | nxt ρ2 =>
        rw [e2] at h1
        simp only at h1 ⊢
        rw [h1]
        exact sloop_fold enc en f as _ fun x hx => h x (List.mem_cons_of_mem _ hx)
      | cnt ρ2 =>
        rw [e2] at h1
        simp only at h1 ⊢
        rw [h1]
        exact sloop_fold enc en f as _ fun x hx => h x (List.mem_cons_of_mem _ hx)
      | brk ρ2 => rw [e2] at h1; exact h1.elim
      | ret o ρ2 => rw [e2] at h1; exact h1.elim
      | exn c ρ2 => rw [e2] at h1; exact h1.elim
      | bad => rw [e2] at h1; exact h1.elim
/-! ## set-ups and cards as things of their own -/
structure Su where
  cs : List Int
  ps : Int
  es : Int
  t : D
  rf : Bool
  hd : Bool
  ld : Int
  ok : OkS cs ps es t ld
def Su.d (S : Su) : D := sud S.cs S.ps S.es S.t S.rf S.hd S.ld
abbrev Cd : Type := Int × Int
/-- a card of the set-up -/
def Su.has (S : Su) (c : Cd) : Bool := fitsB S.cs c.1 c.2
def Su.bt (S : Su) (c c' : Cd) : Bool := bts S.t c.1 c.2 c'.1 c'.2
def CB (c : Cd) : Prop := 0 ≤ c.1 ∧ c.1 < 4 ∧ 0 ≤ c.2 ∧ c.2 < 10
theorem Su.has_mem {S : Su} {c : Cd} (h : S.has c = true) : c ∈ allN 0 S.cs := of_decide_eq_true h
theorem Su.mem_has {S : Su} {c : Cd} (h : c ∈ allN 0 S.cs) : S.has c = true := decide_eq_true h
theorem Su.cb {S : Su} {c : Cd} (h : S.has c = true) : CB c := allN_bound S.ok (S.has_mem h)
section
variable (S : Su)
@[simp] theorem Su.g0 : gix S.d (.int 0) = some (.tup (S.cs.map .int)) := gix_tup0 _ _
@[simp] theorem Su.g1 : gix S.d (.int 1) = some (.int S.ps) := gix_tup1 _ _ _
@[simp] theorem Su.g2 : gix S.d (.int 2) = some (.int S.es) := gix_tup2 _ _ _ _
@[simp] theorem Su.g3 : gix S.d (.int 3) = some S.t := gix_tup3 _ _ _ _ _
@[simp] theorem Su.g4 : gix S.d (.int 4) = some (.bl S.rf) := gix_tup4 _ _ _ _ _ _
@[simp] theorem Su.g5 : gix S.d (.int 5) = some (.bl S.hd) := gix_tup5 _ _ _ _ _ _ _
@[simp] theorem Su.g6 : gix S.d (.int 6) = some (.int S.ld) := gix_tup6 _ _ _ _ _ _ _ _
@[simp] theorem Su.s36 : gsl S.d (some 3) (some 6) = some (.tup [S.t, .bl S.rf, .bl S.hd]) := rfl
@[simp] theorem Su.s13 : gsl S.d (some 1) (some 3) = some (.tup [.int S.ps, .int S.es]) := rfl
@[simp] theorem Su.geqT (a : Int) : geq (.int a) S.t = some (.bl (teq S.t a)) := geq_t S.ok a
@[simp] theorem Su.gneT (a : Int) : gne (.int a) S.t = some (.bl (!teq S.t a)) := gne_t S.ok a
@[simp] theorem c0 (c : Cd) : gix (cardD c) (.int 0) = some (.int c.1) := gix_tup0 _ _
@[simp] theorem c1 (c : Cd) : gix (cardD c) (.int 1) = some (.int c.2) := gix_tup1 _ _ _
@[simp] theorem mpart_int (i : Int) : mpart (.int i) = some i := rfl
@[simp] theorem need_setup_S : f_need_setup [.frz S.d] = .ok (.frz S.d) [.frz S.d] := need_setup_ok S.ok _ _
@[simp] theorem fits_card_S (c : Cd) : f_fits_card [.frz S.d, .frz (cardD c)] = .ok (.frz (.bl (S.has c))) [.frz S.d, .frz (cardD c)] := fits_card_pair S.ok _ _ _ _
theorem need_card_S {c : Cd} (h : S.has c = true) : f_need_card [.frz S.d, .frz (cardD c)] = .ok (.frz (cardD c)) [.frz S.d, .frz (cardD c)] := by
  have e := fits_card_S S c
  rw [h] at e
  simp [f_need_card, m_need_card, runFn, e]
@[simp] theorem stronger_S (c c' : Cd) : f_stronger [.frz S.t, .frz (cardD c), .frz (cardD c')] = .ok (.frz (.bl (S.bt c c'))) [.frz S.t, .frz (cardD c), .frz (cardD c')] := stronger_ok S.ok _ _ _ _
@[simp] theorem over_S (c c' : Cd) : f_law_over [.frz S.t, .frz (cardD c), .frz (cardD c')] = .ok (.frz (.bl (S.bt c c'))) [.frz S.t, .frz (cardD c), .frz (cardD c')] := by
  have e := over_ok S.ok c.1 c.2 c'.1 c'.2
  rw [over_eq S.ok] at e
  exact e
theorem beats_S {c c' : Cd} (h : S.has c = true) (h' : S.has c' = true) : f_beats [.frz S.d, .frz (cardD c), .frz (cardD c')] = .ok (.frz (.bl (S.bt c c'))) [.frz S.d, .frz (cardD c), .frz (cardD c')] := by
  simp [f_beats, m_beats, runFn, need_card_S S h, need_card_S S h']
@[simp] theorem law_cards_S : f_law_cards [.frz S.d] = .ok (.lst (((allN 0 S.cs).map cardD).map .frz)) [.frz S.d] := law_cards_ok S.ok _ _
@[simp] theorem deck_cards_S : f_deck_cards [.frz S.d] = .ok (.frz (.lst ((allN 0 S.cs).map cardD))) [.frz S.d] := deck_cards_ok S.ok _ _
@[simp] theorem all_cards_S : f_all_cards [.frz S.d] = .ok (.frz (.tup ((allN 0 S.cs).map cardD))) [.frz S.d] := all_cards_ok S.ok _ _
end
theorem law_setup_S {k : Nat} {p : O} (hp : Pot k p) (hk : k ≤ 1000) : ∃ (S : Su) (p' : O), f_law_setup [p] = .ok (.frz S.d) [p'] ∧ Pot (k + 16) p' := by
  obtain ⟨cs, ps, es, t, rf, hd, ld, p', e, ok, hp'⟩ := law_setup_ok hp hk
  exact ⟨⟨cs, ps, es, t, rf, hd, ld, ok⟩, p', e, hp'⟩
/-! ## == and in of cards and lists of cards, their texts -/
theorem CB.gd {c : Cd} (h : CB c) (n : Nat) : Gd (n + 1) 18 (cardD c) (cardP c) := Gd.card (by have := h.1; omega) (by have := h.2.1; omega) (by have := h.2.2.1; omega) (by have := h.2.2.2; omega) n
theorem gdl {l : List Cd} (h : ∀ c ∈ l, CB c) : GdA 1 (l.length * 19) (l.map cardD) (l.map cardP) := GdA.map fun z hz => (h z hz).gd 0
theorem eqv_cards (c c' : Cd) : PyData.eqv (cardP c) (cardP c') = decide (c = c') := by
  obtain ⟨a, b⟩ := c
  obtain ⟨a', b'⟩ := c'
  rw [eqv_card]
  by_cases h1 : a = a' <;> by_cases h2 : b = b' <;> simp [h1, h2]
theorem eqvAll_cards : ∀ l l' : List Cd, PyData.eqvAll (l.map cardP) (l'.map cardP) = decide (l = l')
  | [], [] => rfl
  | [], _ :: _ => rfl
  | _ :: _, [] => rfl
  | c :: l, c' :: l' => by
    show (PyData.eqv (cardP c) (cardP c') && PyData.eqvAll (l.map cardP) (l'.map cardP)) = _
    rw [eqv_cards, eqvAll_cards l l']
    by_cases h1 : c = c' <;> by_cases h2 : l = l' <;> simp [h1, h2]
theorem geq_of {a b : D} {p q : PyData} (h1 : pyOk a = some p) (h2 : pyOk b = some q) (h : ∀ x, a ≠ .str x) : geq a b = some (.bl (PyData.eqv p q)) := by
  have e : geqB a b = geqP a b := by
    unfold geqB
    split
    · exact absurd rfl (h _)
    · rfl
  unfold geq
  rw [e]
  unfold geqP
  rw [h1, h2]
  rfl
theorem gne_of {a b : D} {k : Bool} (h : geq a b = some (.bl k)) : gne a b = some (.bl (!k)) := by
  unfold geq at h
  unfold gne
  cases e : geqB a b with
  | none => rw [e] at h; cases h
  | some j => rw [e] at h; cases h; rfl
theorem geq_cards {l l' : List Cd} (h : ∀ c ∈ l, CB c) (h' : ∀ c ∈ l', CB c) : geq (.lst (l.map cardD)) (.lst (l'.map cardD)) = some (.bl (decide (l = l'))) := by
  rw [geq_of ((gdl h).lst.pyOk (by decide)) ((gdl h').lst.pyOk (by decide)) (fun x z => by cases z)]
  show some (D.bl (PyData.eqvAll (l.map cardP) (l'.map cardP))) = _
  rw [eqvAll_cards]
theorem geq_cards0 {l : List Cd} (h : ∀ c ∈ l, CB c) : geq (.lst (l.map cardD)) (.lst []) = some (.bl (decide (l = []))) := geq_cards h (l' := []) (fun _ z => by cases z)
theorem geq_tcards {l l' : List Cd} (h : ∀ c ∈ l, CB c) (h' : ∀ c ∈ l', CB c) : geq (.tup (l.map cardD)) (.tup (l'.map cardD)) = some (.bl (decide (l = l'))) := by
  rw [geq_of ((gdl h).tup.pyOk (by decide)) ((gdl h').tup.pyOk (by decide)) (fun x z => by cases z)]
  show some (D.bl (PyData.eqvAll (l.map cardP) (l'.map cardP))) = _
  rw [eqvAll_cards]
theorem geq_card {c c' : Cd} (h : CB c) (h' : CB c') : geq (cardD c) (cardD c') = some (.bl (decide (c = c'))) := by
  rw [geq_of ((h.gd 0).pyOk (by decide)) ((h'.gd 0).pyOk (by decide)) (fun x z => by cases z), eqv_cards]
theorem any_cards (l : List Cd) (c : Cd) : ((l.map cardP).any fun z => PyData.eqv z (cardP c)) = decide (c ∈ l) := by
  rw [List.any_map]
  induction l with
  | nil => rfl
  | cons a l ih =>
    rw [List.any_cons, ih]
    show (PyData.eqv (cardP a) (cardP c) || _) = _
    rw [eqv_cards]
    by_cases h1 : a = c
    · subst h1; simp
    · have : ¬ c = a := fun z => h1 z.symm
      simp [h1, this]
theorem gin_cardsL {l : List Cd} {c : Cd} (h : ∀ c ∈ l, CB c) (hc : CB c) : gin (cardD c) (.lst (l.map cardD)) = some (.bl (decide (c ∈ l))) := by
  unfold gin
  rw [(hc.gd 0).pyOk (by decide), (gdl h).lst.pyOk (by decide)]
  show some (D.bl _) = _
  rw [any_cards]
theorem gnin_cardsL {l : List Cd} {c : Cd} (h : ∀ c ∈ l, CB c) (hc : CB c) : gnin (cardD c) (.lst (l.map cardD)) = some (.bl (!decide (c ∈ l))) := by
  unfold gnin
  rw [(hc.gd 0).pyOk (by decide), (gdl h).lst.pyOk (by decide)]
  show some (D.bl _) = _
  rw [any_cards]
theorem repr_cards {l : List Cd} (h : ∀ c ∈ l, CB c) (hl : l.length ≤ 1000) : ∃ x, grepr [.lst (l.map cardD)] = some (.str x) := ⟨_, (gdl h).lst.reprL (by decide) (by omega)⟩
end Rn

namespace Rn
open PySem PySem.Spec L2 Z
/-! ## which cards may be played -/
/-- a list or tuple of cards, as the runs take it -/
def Seqc (w : D) (l : List Cd) : Prop := w = .lst (l.map cardD) ∨ w = .tup (l.map cardD)
theorem Seqc.items {w : D} {l : List Cd} (h : Seqc w l) : mitems w = some (l.map cardD) := by rcases h with rfl | rfl <;> rfl
theorem Seqc.klist {w : D} {l : List Cd} (h : Seqc w l) : klist [w] = mret (.lst ((l.map cardD).map .frz)) := by rcases h with rfl | rfl <;> rfl
def Su.l0 (S : Su) (cards : List Cd) (led : Cd) : List Cd := cards.filter fun c => decide (c.1 = led.1)
def Su.l1 (S : Su) (cards : List Cd) : List Cd := cards.filter fun c => S.rf && teq S.t c.1
def Su.left (S : Su) (cards : List Cd) (led : Cd) : List Cd := if S.l0 cards led = [] then (if S.l1 cards = [] then cards else S.l1 cards) else S.l0 cards led
def Su.bs (S : Su) (l : List Cd) (best : Cd) : List Cd := l.filter fun c => S.hd && S.bt c best
def Su.play (S : Su) (cards : List Cd) (led best : Cd) : List Cd := if S.bs (S.left cards led) best = [] then S.left cards led else S.bs (S.left cards led) best
section
variable (S : Su) {cards : List Cd} (hl : cards.length ≤ 1000)
include hl
theorem pl0 {w : D} (h : Seqc w cards) (led : Cd) (x0 x3 x4 x5 x6 x7 x8 x9 : Option O) : c_playable_0 [x0, some (.frz w), some (.frz (cardD led)), x3, x4, x5, x6, x7, x8, x9] = .ok (.lst (((S.l0 cards led).map cardD).map .frz)) [x0, some (.frz w), some (.frz (cardD led)), x3, x4, x5, x6, x7, x8, none] := by
  unfold c_playable_0
  exact mlc_here cardD cards (fun c => decide (c.1 = led.1)) cardD (by simp [h.items]) rfl (fun c hc => by by_cases q : c.1 = led.1 <;> simp [lcStp, wipeE, q]) (by rw [sizeLine_eq]; omega)
theorem pl1 {w : D} (h : Seqc w cards) (x0 x2 x3 x6 x7 x8 x9 : Option O) : c_playable_1 [x0, some (.frz w), x2, x3, some (.frz S.t), some (.frz (.bl S.rf)), x6, x7, x8, x9] = .ok (.lst (((S.l1 cards).map cardD).map .frz)) [x0, some (.frz w), x2, x3, some (.frz S.t), some (.frz (.bl S.rf)), x6, x7, x8, none] := by
  unfold c_playable_1
  exact mlc_here cardD cards (fun c => S.rf && teq S.t c.1) cardD (by simp [h.items]) rfl (fun c hc => by cases q : S.rf <;> cases q2 : teq S.t c.1 <;> simp [lcStp, wipeE, q, q2]) (by rw [sizeLine_eq]; omega)
theorem pl2 (best : Cd) (x0 x1 x2 x5 x8 x9 : Option O) : c_playable_2 [x0, x1, x2, some (.frz (cardD best)), some (.frz S.t), x5, some (.frz (.bl S.hd)), some (.frz (.lst (cards.map cardD))), x8, x9] = .ok (.lst (((S.bs cards best).map cardD).map .frz)) [x0, x1, x2, some (.frz (cardD best)), some (.frz S.t), x5, some (.frz (.bl S.hd)), some (.frz (.lst (cards.map cardD))), x8, none] := by
  unfold c_playable_2
  exact mlc_here cardD cards (fun c => S.hd && S.bt c best) cardD (by simp) rfl (fun c hc => by cases q : S.hd <;> cases q2 : S.bt c best <;> simp [lcStp, wipeE, q, q2]) (by rw [sizeLine_eq]; omega)
end
theorem gis_card (c : Cd) : gis (cardD c) .non = some (.bl false) := rfl
theorem gisn_card (c : Cd) : gisn (cardD c) .non = some (.bl true) := rfl
theorem lf_t (S : Su) : lf S.t = true := by
  rcases S.ok.t with h | ⟨k, h, _⟩ <;> rw [h] <;> rfl
/-- playable's run from what its comprehensions give -/
theorem playable_run (S : Su) {w : D} {cards a0 a1 a2 a3 : List Cd} {led best : Cd} (h : Seqc w cards)
    (p0 : ∀ x7 x8 x9 : Option O, c_playable_0 [some (.frz S.d), some (.frz w), some (.frz (cardD led)), some (.frz (cardD best)), some (.frz S.t), some (.frz (.bl S.rf)), some (.frz (.bl S.hd)), x7, x8, x9] = .ok (.lst ((a0.map cardD).map .frz)) [some (.frz S.d), some (.frz w), some (.frz (cardD led)), some (.frz (cardD best)), some (.frz S.t), some (.frz (.bl S.rf)), some (.frz (.bl S.hd)), x7, x8, none])
    (p1 : ∀ x7 x8 x9 : Option O, c_playable_1 [some (.frz S.d), some (.frz w), some (.frz (cardD led)), some (.frz (cardD best)), some (.frz S.t), some (.frz (.bl S.rf)), some (.frz (.bl S.hd)), x7, x8, x9] = .ok (.lst ((a1.map cardD).map .frz)) [some (.frz S.d), some (.frz w), some (.frz (cardD led)), some (.frz (cardD best)), some (.frz S.t), some (.frz (.bl S.rf)), some (.frz (.bl S.hd)), x7, x8, none])
    (e2 : a2 = if a0 = [] then (if a1 = [] then cards else a1) else a0)
    (p2 : ∀ x8 x9 : Option O, c_playable_2 [some (.frz S.d), some (.frz w), some (.frz (cardD led)), some (.frz (cardD best)), some (.frz S.t), some (.frz (.bl S.rf)), some (.frz (.bl S.hd)), some (.frz (.lst (a2.map cardD))), x8, x9] = .ok (.lst ((a3.map cardD).map .frz)) [some (.frz S.d), some (.frz w), some (.frz (cardD led)), some (.frz (cardD best)), some (.frz S.t), some (.frz (.bl S.rf)), some (.frz (.bl S.hd)), some (.frz (.lst (a2.map cardD))), x8, none])
    (g0 : geq (.lst (a0.map cardD)) (.lst []) = some (.bl (decide (a0 = [])))) (g1 : geq (.lst (a1.map cardD)) (.lst []) = some (.bl (decide (a1 = [])))) (g3 : geq (.lst (a3.map cardD)) (.lst []) = some (.bl (decide (a3 = [])))) :
    f_playable [.frz S.d, .frz w, .frz (cardD led), .frz (cardD best)] = .ok (.lst (((if a3 = [] then a2 else a3).map cardD).map .frz)) [.frz S.d, .frz w, .frz (cardD led), .frz (cardD best)] := by
  have k := h.klist
  have lt := lf_t S
  by_cases h0 : a0 = []
  · subst h0
    by_cases h1 : a1 = []
    · subst h1
      rw [if_pos rfl, if_pos rfl] at e2
      subst e2
      by_cases h3 : a3 = []
      · subst h3
        simp [-List.map_map] at p0 p1 p2 g0 g1 g3
        simp [f_playable, m_playable, runFn, p0, p1, p2, g0, k, fit_small, gis_card, lt, -List.map_map]
      · simp [h3, -List.map_map] at p0 p1 p2 g0 g1 g3
        simp [f_playable, m_playable, runFn, p0, p1, p2, g0, g3, h3, k, fit_small, gis_card, lt, -List.map_map]
    · rw [if_pos rfl, if_neg h1] at e2
      subst e2
      by_cases h3 : a3 = []
      · subst h3
        simp [h1, -List.map_map] at p0 p1 p2 g0 g1 g3
        simp [f_playable, m_playable, runFn, p0, p1, p2, g0, g1, h1, k, fit_small, gis_card, lt, -List.map_map]
      · simp [h1, h3, -List.map_map] at p0 p1 p2 g0 g1 g3
        simp [f_playable, m_playable, runFn, p0, p1, p2, g0, g1, g3, h1, h3, k, fit_small, gis_card, lt, -List.map_map]
  · rw [if_neg h0] at e2
    subst e2
    by_cases h3 : a3 = []
    · subst h3
      simp [h0, -List.map_map] at p0 p1 p2 g0 g1 g3
      simp [f_playable, m_playable, runFn, p0, p2, g0, g3, h0, k, fit_small, gis_card, lt, -List.map_map]
    · simp [h0, h3, -List.map_map] at p0 p1 p2 g0 g1 g3
      simp [f_playable, m_playable, runFn, p0, p2, g0, g3, h0, h3, k, fit_small, gis_card, lt, -List.map_map]
theorem Su.l0_sub {S : Su} {cards : List Cd} {led : Cd} {c : Cd} (h : c ∈ S.l0 cards led) : c ∈ cards := (List.mem_filter.1 h).1
theorem Su.l1_sub {S : Su} {cards : List Cd} {c : Cd} (h : c ∈ S.l1 cards) : c ∈ cards := (List.mem_filter.1 h).1
theorem Su.left_sub {S : Su} {cards : List Cd} {led : Cd} {c : Cd} (h : c ∈ S.left cards led) : c ∈ cards := by
  unfold Su.left at h
  split at h
  · split at h
    · exact h
    · exact S.l1_sub h
  · exact S.l0_sub h
theorem Su.bs_sub {S : Su} {cards : List Cd} {led : Cd} {c : Cd} (h : c ∈ S.bs cards led) : c ∈ cards := (List.mem_filter.1 h).1
theorem Su.play_sub {S : Su} {cards : List Cd} {led best : Cd} {c : Cd} (h : c ∈ S.play cards led best) : c ∈ cards := by
  unfold Su.play at h
  split at h
  · exact S.left_sub h
  · exact S.left_sub (S.bs_sub h)
theorem len_filter {α : Type} (p : α → Bool) (l : List α) : (l.filter p).length ≤ l.length := List.length_filter_le p l
theorem Su.left_len (S : Su) (cards : List Cd) (led : Cd) : (S.left cards led).length ≤ cards.length := by
  unfold Su.left Su.l0 Su.l1
  split
  · split
    · exact Nat.le_refl _
    · exact len_filter _ _
  · exact len_filter _ _
theorem Su.play_len (S : Su) (cards : List Cd) (led best : Cd) : (S.play cards led best).length ≤ cards.length := by
  unfold Su.play Su.bs
  split
  · exact S.left_len _ _
  · exact Nat.le_trans (len_filter _ _) (S.left_len _ _)
theorem playable_S (S : Su) {w : D} {cards : List Cd} (led best : Cd) (h : Seqc w cards) (hc : ∀ c ∈ cards, CB c) (hl : cards.length ≤ 1000) :
    f_playable [.frz S.d, .frz w, .frz (cardD led), .frz (cardD best)] = .ok (.lst (((S.play cards led best).map cardD).map .frz)) [.frz S.d, .frz w, .frz (cardD led), .frz (cardD best)] :=
  playable_run S h (fun x7 x8 x9 => pl0 S hl h led _ _ _ _ _ x7 x8 x9) (fun x7 x8 x9 => pl1 S hl h _ _ _ _ x7 x8 x9) rfl (fun x8 x9 => pl2 S (cards := S.left cards led) (Nat.le_trans (S.left_len cards led) hl) best _ _ _ _ x8 x9)
    (geq_cards0 fun c q => hc c (S.l0_sub q)) (geq_cards0 fun c q => hc c (S.l1_sub q)) (geq_cards0 fun c q => hc c (S.left_sub (S.bs_sub q)))
theorem playable_all (S : Su) {w : D} {cards : List Cd} (x : D) (h : Seqc w cards) : f_playable [.frz S.d, .frz w, .frz .non, .frz x] = .ok (.lst ((cards.map cardD).map .frz)) [.frz S.d, .frz w, .frz .non, .frz x] := by
  simp [f_playable, m_playable, runFn, h.klist]
end Rn

namespace Rn
open PySem PySem.Spec L2 Z
/-! ## ascending tuples of cards -/
def cle (c c' : Cd) : Bool := decide (c.1 < c'.1) || (decide (c.1 = c'.1) && decide (c.2 ≤ c'.2))
def clt (c c' : Cd) : Prop := c.1 < c'.1 ∨ (c.1 = c'.1 ∧ c.2 < c'.2)
theorem clt_cle {c c' : Cd} (h : clt c c') : cle c' c = false := by
  unfold cle
  rcases h with h | ⟨h1, h2⟩
  · have a : ¬ c'.1 < c.1 := by omega
    have b : ¬ c'.1 = c.1 := by omega
    simp [a, b]
  · have a : ¬ c'.1 < c.1 := by omega
    have b : ¬ c'.2 ≤ c.2 := by omega
    simp [a, b]
theorem cle_clt {c c' : Cd} (h : cle c' c = false) : clt c c' := by
  unfold cle at h
  unfold clt
  simp at h
  by_cases a : c.1 = c'.1
  · exact .inr ⟨a, by have := h.2 a.symm; omega⟩
  · exact .inl (by omega)
@[simp] theorem gle_card (c c' : Cd) : gle (cardD c) (cardD c') = some (.bl (cle c c')) := by
  show some (D.bl (lexN [c.1, c.2] [c'.1, c'.2])) = _
  congr 2
  unfold lexN cle
  by_cases h1 : c.1 = c'.1
  · by_cases h2 : c.2 = c'.2
    · simp [Ob.lexAt, h1, h2]
    · by_cases h3 : c.2 ≤ c'.2 <;> simp [Ob.lexAt, h1, h2, h3]
  · by_cases h3 : c.1 ≤ c'.1
    · have : c.1 < c'.1 := by omega
      simp [Ob.lexAt, h1, h3, this]
    · have : ¬ c.1 < c'.1 := by omega
      simp [Ob.lexAt, h1, h3, this]
def Su.okF (S : Su) : Option Cd → List Cd → Bool
  | _, [] => true
  | p, c :: r => S.has c && (match p with | none => true | some q => !cle c q) && S.okF (some c) r
theorem fits_loop (S : Su) (cards : List Cd) : ∀ (suf pre : List Cd) (x2 x3 : Option O), cards = pre ++ suf → ∃ y2 y3, sloop b_fits_cards_0 (gtup 2 (gscons (gset 2) (gscons (gset 3) gsnil))) (enumD pre.length (suf.map cardD)) [some (.frz S.d), some (.frz (.tup (cards.map cardD))), x2, x3] =
    if S.okF pre.getLast? suf = true then .nxt [some (.frz S.d), some (.frz (.tup (cards.map cardD))), y2, y3] else .ret (.frz (.bl false)) [some (.frz S.d), some (.frz (.tup (cards.map cardD))), y2, y3]
  | [], pre, x2, x3, _ => ⟨x2, x3, rfl⟩
  | c :: suf, pre, x2, x3, h => by
    have h' : cards = (pre ++ [c]) ++ suf := by rw [h, List.append_assoc]; rfl
    obtain ⟨y2, y3, ih⟩ := fits_loop S cards suf (pre ++ [c]) (some (.frz (.int pre.length))) (some (.frz (cardD c))) h'
    rw [List.length_append, List.length_singleton, List.getLast?_append] at ih
    have ih : sloop b_fits_cards_0 (gtup 2 (gscons (gset 2) (gscons (gset 3) gsnil))) (enumD (pre.length + 1) (suf.map cardD)) [some (.frz S.d), some (.frz (.tup (cards.map cardD))), some (.frz (.int pre.length)), some (.frz (cardD c))] =
      if S.okF (some c) suf = true then .nxt [some (.frz S.d), some (.frz (.tup (cards.map cardD))), y2, y3] else .ret (.frz (.bl false)) [some (.frz S.d), some (.frz (.tup (cards.map cardD))), y2, y3] := ih
    rw [List.map_cons]
    show ∃ y2 y3, sloop _ _ (.tup [.int (pre.length : Int), cardD c] :: enumD (pre.length + 1) (suf.map cardD)) _ = _
    rw [sloop_cons]
    unfold Su.okF
    have e0 := fits_card_S S c
    cases hc : S.has c
    · rw [hc] at e0
      refine ⟨some (.frz (.int pre.length)), some (.frz (cardD c)), ?_⟩
      simp [b_fits_cards_0, e0]
    · rw [hc] at e0
      cases hp : pre with
      | nil =>
        subst hp
        refine ⟨y2, y3, Eq.trans ?_ (ih.trans ?_)⟩
        · simp [b_fits_cards_0, e0]
        · simp
      | cons a r =>
        have hpos : 0 < (pre.length : Int) := by rw [hp, List.length_cons]; omega
        have hpn : 0 < pre.length := by omega
        have hl : pre.getLast? = some (pre.getLast (by rw [hp]; simp)) := List.getLast?_eq_some_getLast _
        have g : gix (.tup (cards.map cardD)) (.int ((pre.length : Int) - 1)) = some (cardD (pre.getLast (by rw [hp]; simp))) := by
          rw [gix_tup_lt (by omega) (by rw [List.length_map, h, List.length_append]; simp; omega)]
          congr 1
          rw [List.getElem_map]
          congr 1
          have e : ((pre.length : Int) - 1).toNat = pre.length - 1 := by omega
          rw [List.getLast_eq_getElem]
          have : (cards)[((pre.length : Int) - 1).toNat]? = pre[pre.length - 1]? := by
            rw [e, h, List.getElem?_append_left (by omega)]
          rw [List.getElem?_eq_getElem (by rw [h, List.length_append]; simp; omega), List.getElem?_eq_getElem (by omega)] at this
          exact Option.some.inj this
        rw [← hp, hl]
        generalize pre.getLast (by rw [hp]; simp) = q at g
        cases hq : cle c q
        · refine ⟨y2, y3, Eq.trans ?_ (ih.trans ?_)⟩
          · simp [b_fits_cards_0, e0, hpn, g, hq]
          · simp [hq]
        · refine ⟨some (.frz (.int pre.length)), some (.frz (cardD c)), ?_⟩
          simp [b_fits_cards_0, e0, hpn, g, hq]
theorem fits_cards_S (S : Su) (cards : List Cd) : f_fits_cards [.frz S.d, .frz (.tup (cards.map cardD))] = .ok (.frz (.bl (S.okF none cards))) [.frz S.d, .frz (.tup (cards.map cardD))] := by
  obtain ⟨y2, y3, e⟩ := fits_loop S cards cards [] none none rfl
  have e : sloop b_fits_cards_0 (gtup 2 (gscons (gset 2) (gscons (gset 3) gsnil))) (enumD 0 (cards.map cardD)) [some (.frz S.d), some (.frz (.tup (cards.map cardD))), none, none] =
    if S.okF none cards = true then .nxt [some (.frz S.d), some (.frz (.tup (cards.map cardD))), y2, y3] else .ret (.frz (.bl false)) [some (.frz S.d), some (.frz (.tup (cards.map cardD))), y2, y3] := e
  cases h : S.okF none cards
  · rw [h, if_neg (by decide)] at e
    simp [f_fits_cards, m_fits_cards, runFn, e]
  · rw [h, if_pos rfl] at e
    simp [f_fits_cards, m_fits_cards, runFn, e]
theorem need_cards_S {S : Su} {cards : List Cd} (h : S.okF none cards = true) : f_need_cards [.frz S.d, .frz (.tup (cards.map cardD))] = .ok (.frz (.tup (cards.map cardD))) [.frz S.d, .frz (.tup (cards.map cardD))] := by
  have e := fits_cards_S S cards
  rw [h] at e
  simp [f_need_cards, m_need_cards, runFn, e]
theorem okF_of {S : Su} : ∀ {l : List Cd} {p : Option Cd}, (∀ c ∈ l, S.has c = true) → l.Pairwise clt → (∀ q, p = some q → ∀ c ∈ l, clt q c) → S.okF p l = true
  | [], _, _, _, _ => rfl
  | c :: l, p, h1, h2, h3 => by
    have h2' := List.pairwise_cons.1 h2
    unfold Su.okF
    rw [h1 c List.mem_cons_self, okF_of (S := S) (l := l) (p := some c) (fun x hx => h1 x (List.mem_cons_of_mem _ hx)) h2'.2 (fun q e x hx => by cases e; exact h2'.1 x hx)]
    cases p with
    | none => rfl
    | some q =>
      have := clt_cle (h3 q rfl c List.mem_cons_self)
      simp [this]
/-- all cards of a deck ascend -/
theorem allN_asc : ∀ (cs : List Int) (i : Nat), (allN i cs).Pairwise clt
  | [], i => List.Pairwise.nil
  | c :: cs, i => by
    unfold allN
    refine List.pairwise_append.2 ⟨?_, allN_asc cs (i + 1), ?_⟩
    · rw [List.pairwise_map]
      exact List.Pairwise.imp (fun {a b} h => .inr ⟨rfl, by show (0 : Int) + (a : Int) < 0 + (b : Int); omega⟩) List.pairwise_lt_range
    · intro a ha b hb
      obtain ⟨j, hj, rfl⟩ := List.mem_map.1 ha
      obtain ⟨x, y⟩ := b
      obtain ⟨k, hk, e, _⟩ := (mem_allN _ _ _ _).1 hb
      exact .inl (by show (i : Int) < x; omega)
theorem allowed_S (S : Su) {cards : List Cd} {led best : Cd} (h : S.okF none cards = true) (hc : ∀ c ∈ cards, CB c) (hn : cards.length ≤ 1000) (h1 : S.has led = true) (h2 : S.has best = true) :
    f_allowed [.frz S.d, .frz (.tup (cards.map cardD)), .frz (cardD led), .frz (cardD best)] = .ok (.lst (((S.play cards led best).map cardD).map .frz)) [.frz S.d, .frz (.tup (cards.map cardD)), .frz (cardD led), .frz (cardD best)] := by
  have e1 := need_cards_S h
  have e2 := need_card_S S h1
  have e3 := need_card_S S h2
  have e4 := playable_S S led best (.inr rfl) hc hn
  simp [f_allowed, m_allowed, runFn, e1, e2, e3, e4, gisn_card, -List.map_map]
theorem allowed_0 (S : Su) {cards : List Cd} (h : S.okF none cards = true) :
    f_allowed [.frz S.d, .frz (.tup (cards.map cardD)), .frz .non, .frz .non] = .ok (.lst ((cards.map cardD).map .frz)) [.frz S.d, .frz (.tup (cards.map cardD)), .frz .non, .frz .non] := by
  have e1 := need_cards_S h
  have e4 := playable_all S .non (w := .tup (cards.map cardD)) (cards := cards) (.inr rfl)
  simp [f_allowed, m_allowed, runFn, e1, e4, -List.map_map]
end Rn

namespace Rn
open PySem PySem.Spec L2 Z
/-! ## the law's winner of a trick -/
theorem fstIx_cards (c : Cd) : ∀ l : List Cd, c ∈ l → fstIx (fun z => PyData.eqv z (cardP c)) (l.map cardP) = some (l.idxOf c)
  | [], h => by cases h
  | a :: l, h => by
    rw [List.map_cons]
    unfold fstIx
    rw [eqv_cards]
    by_cases e : a = c
    · subst e
      simp
    · have hl : c ∈ l := by
        rcases List.mem_cons.1 h with z | z
        · exact absurd z.symm e
        · exact z
      have e2 : ¬ c = a := fun z => e z.symm
      rw [decide_eq_false e, if_neg (by decide), fstIx_cards c l hl]
      have e3 : (a == c) = false := by simpa using e
      simp [List.idxOf_cons, e3]
theorem gidx_cards {l : List Cd} {c : Cd} (h : ∀ c ∈ l, CB c) (hc : c ∈ l) : gidx (.lst (l.map cardD)) [cardD c] = some (.int (l.idxOf c : Nat)) := by
  unfold gidx
  simp only
  rw [(gdl h).lst.pyOk (by decide), ((h c hc).gd 0).pyOk (by decide)]
  simp only [Option.bind_some]
  rw [fstIx_cards c l hc]
  rfl
def Su.tl (S : Su) (trick : List Cd) : List Cd := trick.filter fun c => teq S.t c.1
def ll (trick : List Cd) (led : Cd) : List Cd := trick.filter fun c => decide (c.1 = led.1)
def Su.lot (S : Su) (trick : List Cd) (led : Cd) : List Cd := if S.tl trick = [] then ll trick led else S.tl trick
/-- the greatest of a lot -/
def top (l : List Cd) : Cd := (isort SrtO.lexB l).getLastD (0, 0)
def Su.win (S : Su) (trick : List Cd) (led : Cd) : Cd := top (S.lot trick led)
theorem isort_mem {l : List Cd} {c : Cd} : c ∈ isort SrtO.lexB l ↔ c ∈ l := (isort_stb swo_pairs l).perm.mem_iff
theorem isort_len (l : List Cd) : (isort SrtO.lexB l).length = l.length := (isort_stb swo_pairs l).perm.length_eq
theorem top_mem {l : List Cd} (h : l ≠ []) : top l ∈ l := by
  have h2 : isort SrtO.lexB l ≠ [] := fun z => h (by
    have := isort_len l
    rw [z] at this
    exact List.eq_nil_of_length_eq_zero this.symm)
  unfold top
  rw [List.getLastD_eq_getLast?, List.getLast?_eq_some_getLast h2]
  exact isort_mem.1 (List.getLast_mem h2)
theorem gix_last {l : List Cd} (h : l ≠ []) : gix (.lst ((isort SrtO.lexB l).map cardD)) (.int ((l.length : Int) - 1)) = some (cardD (top l)) := by
  have hl : 0 < l.length := List.length_pos_iff.2 h
  have h2 : isort SrtO.lexB l ≠ [] := fun z => by
    have := isort_len l
    rw [z] at this
    simp at this
    omega
  rw [gix_lst_lt (by omega) (by rw [List.length_map, isort_len]; omega)]
  congr 1
  rw [List.getElem_map]
  congr 1
  unfold top
  rw [List.getLastD_eq_getLast?, List.getLast?_eq_some_getLast h2, List.getLast_eq_getElem]
  simp [isort_len]
section
variable (S : Su) {trick : List Cd} {led : Cd} {r : List Cd}
theorem lw0 (hl : trick.length ≤ 1000) (x2 x3 : Option O) : c_law_winner_0 [some (.frz S.t), some (.frz (.lst (trick.map cardD))), x2, x3] = .ok (.lst (((S.tl trick).map cardD).map .frz)) [some (.frz S.t), some (.frz (.lst (trick.map cardD))), x2, none] := by
  unfold c_law_winner_0
  exact mlc_here cardD trick (fun c => teq S.t c.1) cardD (by simp) rfl (fun c hc => by cases q : teq S.t c.1 <;> simp [lcStp, wipeE, q]) (by rw [sizeLine_eq]; omega)
theorem lw1 (hl : (led :: r).length ≤ 1000) (x0 x2 x3 : Option O) : c_law_winner_1 [x0, some (.frz (.lst ((led :: r).map cardD))), x2, x3] = .ok (.lst (((ll (led :: r) led).map cardD).map .frz)) [x0, some (.frz (.lst ((led :: r).map cardD))), x2, none] := by
  unfold c_law_winner_1
  have g : gix (.lst ((led :: r).map cardD)) (.int 0) = some (cardD led) := by
    rw [gix_lst_lt (by omega) (by simp)]
    rfl
  exact mlc_here cardD (led :: r) (fun c => decide (c.1 = led.1)) cardD (by simp) rfl (fun c hc => by by_cases q : c.1 = led.1 <;> simp [lcStp, wipeE, q, g, -List.map_cons]) (by rw [sizeLine_eq]; omega)
theorem ll_ne : ll (led :: r) led ≠ [] := by
  unfold ll
  rw [List.filter_cons_of_pos (by simp)]
  simp
theorem Su.lot_ne : S.lot (led :: r) led ≠ [] := by
  unfold Su.lot
  split
  · exact ll_ne
  · assumption
theorem Su.lot_sub {c : Cd} (h : c ∈ S.lot trick led) : c ∈ trick := by
  unfold Su.lot Su.tl ll at h
  split at h
  · exact (List.mem_filter.1 h).1
  · exact (List.mem_filter.1 h).1
theorem Su.win_mem : S.win (led :: r) led ∈ led :: r := S.lot_sub (top_mem (S.lot_ne))
/-- the winner is a trump, or of the led suit -/
theorem Su.win_suit : teq S.t (S.win (led :: r) led).1 = true ∨ (S.win (led :: r) led).1 = led.1 := by
  have h := top_mem (S.lot_ne (led := led) (r := r))
  unfold Su.win
  unfold Su.lot at h ⊢
  split
  · rename_i e
    rw [if_pos e] at h
    exact .inr (of_decide_eq_true (List.mem_filter.1 h).2)
  · rename_i e
    rw [if_neg e] at h
    exact .inl (List.mem_filter.1 h).2
theorem winner_run {t : D} {w : D} {a0 a1 lt : List Cd} {j : Int} (p0 : ∀ x2 x3 : Option O, c_law_winner_0 [some (.frz t), some (.frz w), x2, x3] = .ok (.lst ((a0.map cardD).map .frz)) [some (.frz t), some (.frz w), x2, none])
    (p1 : ∀ x0 x2 x3 : Option O, c_law_winner_1 [x0, some (.frz w), x2, x3] = .ok (.lst ((a1.map cardD).map .frz)) [x0, some (.frz w), x2, none]) (g0 : geq (.lst (a0.map cardD)) (.lst []) = some (.bl (decide (a0 = []))))
    (el : lt = if a0 = [] then a1 else a0) (gl : gix (.lst ((isort SrtO.lexB lt).map cardD)) (.int ((lt.length : Int) - 1)) = some (cardD (top lt))) (gi : gidx w [cardD (top lt)] = some (.int j)) (hw : ∃ ds, w = .lst ds) : f_law_winner [.frz t, .frz w] = .ok (.frz (.int j)) [.frz t, .frz w] := by
  obtain ⟨ds, rfl⟩ := hw
  by_cases h0 : a0 = []
  · subst h0
    rw [if_pos rfl] at el
    subst el
    simp [-List.map_map] at p0 p1 g0
    simp [f_law_winner, m_law_winner, runFn, p0, p1, g0, fit_small, gl, gi, -List.map_map]
  · rw [if_neg h0] at el
    subst el
    simp [h0, -List.map_map] at p0 p1 g0
    simp [f_law_winner, m_law_winner, runFn, p0, p1, g0, fit_small, gl, gi, -List.map_map]
theorem winner_S (hc : ∀ c ∈ led :: r, CB c) (hl : (led :: r).length ≤ 1000) : f_law_winner [.frz S.t, .frz (.lst ((led :: r).map cardD))] = .ok (.frz (.int ((led :: r).idxOf (S.win (led :: r) led) : Nat))) [.frz S.t, .frz (.lst ((led :: r).map cardD))] :=
  winner_run (lw0 S hl) (lw1 hl) (geq_cards0 fun c q => hc c (List.mem_filter.1 q).1) rfl (gix_last S.lot_ne) (gidx_cards hc S.win_mem) ⟨_, rfl⟩
theorem gix_win (hc : ∀ c ∈ led :: r, CB c) : gix (.lst ((led :: r).map cardD)) (.int ((led :: r).idxOf (S.win (led :: r) led) : Nat)) = some (cardD (S.win (led :: r) led)) := by
  have h := List.idxOf_lt_length_of_mem (S.win_mem (led := led) (r := r))
  rw [gix_lst_lt (by omega) (by rw [List.length_map]; omega)]
  congr 1
  rw [List.getElem_map]
  congr 1
  simp
end
end Rn

namespace Rn
open PySem PySem.Spec L2 Z
/-! ## the law's rule of what goes ahead -/
def Su.ahead (S : Su) (one other led best : Cd) : Bool :=
  if decide (one.1 ≠ led.1) && decide (other.1 = led.1) then true
  else if S.rf && decide (one.1 ≠ led.1) && !teq S.t one.1 && teq S.t other.1 then true
  else if !S.hd || S.bt one best || !S.bt other best then false
  else decide (one.1 ≠ led.1) || decide (other.1 = led.1)
theorem ahead_run (S : Su) {one other led best : Cd} {w : D} {j : Int} (hw : f_law_winner [.frz S.t, .frz w] = .ok (.frz (.int j)) [.frz S.t, .frz w]) (g0 : gix w (.int 0) = some (cardD led)) (gj : gix w (.int j) = some (cardD best)) :
    f_law_ahead [.frz S.d, .frz (cardD one), .frz (cardD other), .frz w] = .ok (.frz (.bl (S.ahead one other led best))) [.frz S.d, .frz (cardD one), .frz (cardD other), .frz w] := by
  by_cases h1 : one.1 = led.1
  · cases h2 : S.hd
    · simp [f_law_ahead, m_law_ahead, runFn, hw, g0, gj, h1, h2, Su.ahead]
      cases S.rf <;> simp
    · cases h3 : S.bt one best
      · cases h4 : S.bt other best
        · cases h5 : S.rf <;> simp [f_law_ahead, m_law_ahead, runFn, hw, g0, gj, h1, h2, h3, h4, h5, Su.ahead]
        · cases h5 : S.rf <;> simp [f_law_ahead, m_law_ahead, runFn, hw, g0, gj, h1, h2, h3, h4, h5, Su.ahead]
      · cases h5 : S.rf <;> simp [f_law_ahead, m_law_ahead, runFn, hw, g0, gj, h1, h2, h3, h5, Su.ahead]
  · by_cases h6 : other.1 = led.1
    · simp [f_law_ahead, m_law_ahead, runFn, hw, g0, gj, h1, h6, Su.ahead]
    · cases h5 : S.rf
      · cases h2 : S.hd
        · simp [f_law_ahead, m_law_ahead, runFn, hw, g0, gj, h1, h2, h5, h6, Su.ahead]
        · cases h3 : S.bt one best <;> cases h4 : S.bt other best <;> simp [f_law_ahead, m_law_ahead, runFn, hw, g0, gj, h1, h2, h3, h4, h5, h6, Su.ahead]
      · cases h7 : teq S.t one.1 <;> cases h8 : teq S.t other.1
        · cases h2 : S.hd
          · simp [f_law_ahead, m_law_ahead, runFn, hw, g0, gj, h1, h2, h5, h6, h7, h8, Su.ahead]
          · cases h3 : S.bt one best <;> cases h4 : S.bt other best <;> simp [f_law_ahead, m_law_ahead, runFn, hw, g0, gj, h1, h2, h3, h4, h5, h6, h7, h8, Su.ahead]
        · simp [f_law_ahead, m_law_ahead, runFn, hw, g0, gj, h1, h5, h6, h7, h8, Su.ahead]
        · cases h2 : S.hd
          · simp [f_law_ahead, m_law_ahead, runFn, hw, g0, gj, h1, h2, h5, h6, h7, h8, Su.ahead]
          · cases h3 : S.bt one best <;> cases h4 : S.bt other best <;> simp [f_law_ahead, m_law_ahead, runFn, hw, g0, gj, h1, h2, h3, h4, h5, h6, h7, h8, Su.ahead]
        · cases h2 : S.hd
          · simp [f_law_ahead, m_law_ahead, runFn, hw, g0, gj, h1, h2, h5, h6, h7, h8, Su.ahead]
          · cases h3 : S.bt one best <;> cases h4 : S.bt other best <;> simp [f_law_ahead, m_law_ahead, runFn, hw, g0, gj, h1, h2, h3, h4, h5, h6, h7, h8, Su.ahead]
def Su.due (S : Su) (hand : List Cd) (led best : Cd) : List Cd := hand.filter fun one => decide (hand.filter (fun other => S.ahead one other led best) = [])
theorem due_run (S : Su) {hand : List Cd} {led best : Cd} {w v : D} (ha : ∀ one other : Cd, f_law_ahead [.frz S.d, .frz (cardD one), .frz (cardD other), .frz w] = .ok (.frz (.bl (S.ahead one other led best))) [.frz S.d, .frz (cardD one), .frz (cardD other), .frz w])
    (hv : Seqc v hand) (hc : ∀ c ∈ hand, CB c) (hl : hand.length ≤ 1000) : f_law_due [.frz S.d, .frz v, .frz w] = .ok (.frz (.lst ((S.due hand led best).map cardD))) [.frz S.d, .frz v, .frz w] := by
  have hi := hv.items
  have i0 : ∀ (one : Cd) (x4 : Option O), c_law_due_0 [some (.frz S.d), some (.frz v), some (.frz w), some (.frz (cardD one)), x4] = .ok (.lst (((hand.filter (fun other => S.ahead one other led best)).map cardD).map .frz)) [some (.frz S.d), some (.frz v), some (.frz w), some (.frz (cardD one)), none] := by
    intro one x4
    unfold c_law_due_0
    exact mlc_here cardD hand (fun other => S.ahead one other led best) cardD (by simp [hi]) rfl (fun c hc' => by cases q : S.ahead one c led best <;> simp [lcStp, wipeE, q, ha]) (by rw [sizeLine_eq]; omega)
  have i1 : c_law_due_1 [some (.frz S.d), some (.frz v), some (.frz w), none, none] = .ok (.lst (((S.due hand led best).map cardD).map .frz)) [some (.frz S.d), some (.frz v), some (.frz w), none, none] := by
    unfold c_law_due_1
    refine mlc_here cardD hand (fun one => decide (hand.filter (fun other => S.ahead one other led best) = [])) cardD (by simp [hi]) rfl (fun c hc' => ?_) (by rw [sizeLine_eq]; omega)
    have g : geq (.lst ((hand.filter (fun other => S.ahead c other led best)).map cardD)) (.lst []) = some (.bl (decide (hand.filter (fun other => S.ahead c other led best) = []))) := geq_cards0 fun x hx => hc x (List.mem_filter.1 hx).1
    have i0 := i0 c
    generalize hand.filter (fun other => S.ahead c other led best) = q at g i0
    by_cases hq : q = []
    · subst hq
      simp [-List.map_map] at g i0
      simp [lcStp, wipeE, i0, g, fit_small, -List.map_map]
    · simp [hq, -List.map_map] at g
      simp [lcStp, wipeE, i0, g, hq, fit_small, -List.map_map]
  simp [f_law_due, m_law_due, runFn, i1, -List.map_map]
/-- a card that beats what wins, where nothing of the led suit and no trump beats, beats nothing -/
theorem Su.bt_suit {S : Su} {c best led : Cd} (h : S.bt c best = true) (hb : teq S.t best.1 = true ∨ best.1 = led.1) : teq S.t c.1 = true ∨ c.1 = led.1 := by
  unfold Su.bt bts at h
  split at h
  · rename_i e
    rw [e]
    exact hb
  · exact .inl h
/-- THE LAW of k05 -/
theorem Su.play_due (S : Su) (hand : List Cd) {led best : Cd} (hb : teq S.t best.1 = true ∨ best.1 = led.1) : S.play hand led best = S.due hand led best := by
  have nil : ∀ (p : Cd → Bool), hand.filter p = [] ↔ ∀ c ∈ hand, p c = false := fun p => by
    rw [List.filter_eq_nil_iff]
    simp
  unfold Su.due
  by_cases h0 : S.l0 hand led = []
  · have n0 := (nil _).1 h0
    have f0 : ∀ c ∈ hand, c.1 ≠ led.1 := fun c hc => by simpa using n0 c hc
    by_cases h1 : S.l1 hand = []
    · -- any card
      have n1 := (nil _).1 h1
      have e : S.left hand led = hand := by unfold Su.left; rw [if_pos h0, if_pos h1]
      unfold Su.play
      rw [e]
      have key : ∀ one ∈ hand, ∀ other ∈ hand, S.ahead one other led best = (S.hd && !S.bt one best && S.bt other best) := fun one ho other hx => by
        have a := f0 one ho
        have b := f0 other hx
        have c := n1 other hx
        unfold Su.ahead
        cases h : S.rf
        · simp [a, b]
        · simp [h] at c
          simp [a, b, c]
      split
      · rename_i hb0
        have nb := (nil _).1 hb0
        symm
        rw [List.filter_eq_self]
        intro one ho
        rw [decide_eq_true_eq, nil]
        intro other hx
        rw [key one ho other hx]
        have := nb other hx
        cases q : S.hd <;> cases q2 : S.bt other best <;> simp [q, q2] at this ⊢
      · rename_i hb0
        unfold Su.bs
        apply List.filter_congr
        intro one ho
        have ex : ∃ c ∈ hand, (S.hd && S.bt c best) = true := by
          rcases List.exists_mem_of_ne_nil _ hb0 with ⟨c, hc⟩
          exact ⟨c, (List.mem_filter.1 hc).1, (List.mem_filter.1 hc).2⟩
        obtain ⟨c, hc, hcb⟩ := ex
        rw [Bool.and_eq_true] at hcb
        rw [hcb.1, Bool.true_and]
        cases q : S.bt one best
        · symm
          rw [decide_eq_false_iff_not, nil]
          intro z
          have := z c hc
          rw [key one ho c hc, hcb.1, q, hcb.2] at this
          cases this
        · symm
          rw [decide_eq_true_eq, nil]
          intro other hx
          rw [key one ho other hx, q]
          simp
    · -- a trump
      have n1 : S.rf = true := by
        rcases List.exists_mem_of_ne_nil _ h1 with ⟨c, hc⟩
        have := (List.mem_filter.1 hc).2
        rw [Bool.and_eq_true] at this
        exact this.1
      obtain ⟨c0, hc0, ht0⟩ : ∃ c ∈ hand, teq S.t c.1 = true := by
        rcases List.exists_mem_of_ne_nil _ h1 with ⟨c, hc⟩
        have := (List.mem_filter.1 hc).2
        rw [Bool.and_eq_true] at this
        exact ⟨c, (List.mem_filter.1 hc).1, this.2⟩
      have e : S.left hand led = S.l1 hand := by unfold Su.left; rw [if_pos h0, if_neg h1]
      have el : S.l1 hand = hand.filter fun c => teq S.t c.1 := by unfold Su.l1; rw [n1]; simp
      have key : ∀ one ∈ hand, ∀ other ∈ hand, S.ahead one other led best = if !teq S.t one.1 && teq S.t other.1 then true else (S.hd && !S.bt one best && S.bt other best) := fun one ho other hx => by
        have a := f0 one ho
        have b := f0 other hx
        unfold Su.ahead
        simp [a, b, n1]
      have bt_t : ∀ c ∈ hand, S.bt c best = true → teq S.t c.1 = true := fun c hc h => by
        rcases S.bt_suit h hb with z | z
        · exact z
        · exact absurd z (f0 c hc)
      unfold Su.play
      rw [e, el]
      unfold Su.bs
      rw [List.filter_filter]
      split
      · rename_i hb0
        have nb := (nil _).1 hb0
        apply List.filter_congr
        intro one ho
        cases q : teq S.t one.1
        · symm
          rw [decide_eq_false_iff_not, nil]
          intro z
          have := z c0 hc0
          rw [key one ho c0 hc0, q, ht0] at this
          cases this
        · symm
          rw [decide_eq_true_eq, nil]
          intro other hx
          rw [key one ho other hx, q]
          have := nb other hx
          have bt' := bt_t other hx
          cases q1 : S.hd <;> cases q2 : S.bt other best <;> simp [q1, q2] at this bt' ⊢
          rw [bt'] at this
          cases this
      · rename_i hb0
        apply List.filter_congr
        intro one ho
        obtain ⟨c, hc, hcb⟩ : ∃ c ∈ hand, (S.hd && S.bt c best && teq S.t c.1) = true := by
          rcases List.exists_mem_of_ne_nil _ hb0 with ⟨c, hc⟩
          exact ⟨c, (List.mem_filter.1 hc).1, (List.mem_filter.1 hc).2⟩
        rw [Bool.and_eq_true, Bool.and_eq_true] at hcb
        obtain ⟨⟨hd, hbt⟩, htr⟩ := hcb
        rw [hd, Bool.true_and]
        cases q : S.bt one best
        · symm
          simp only [Bool.false_and]
          rw [decide_eq_false_iff_not, nil]
          intro z
          have := z c hc
          rw [key one ho c hc, q, hd, hbt] at this
          cases q2 : teq S.t one.1 <;> simp [q2, htr] at this
        · have qt := bt_t one ho q
          symm
          rw [qt, Bool.and_self, decide_eq_true_eq, nil]
          intro other hx
          rw [key one ho other hx, q, qt]
          simp
  · -- the led suit
    obtain ⟨c0, hc0, hs0⟩ : ∃ c ∈ hand, c.1 = led.1 := by
      rcases List.exists_mem_of_ne_nil _ h0 with ⟨c, hc⟩
      exact ⟨c, (List.mem_filter.1 hc).1, of_decide_eq_true (List.mem_filter.1 hc).2⟩
    have e : S.left hand led = S.l0 hand led := by unfold Su.left; rw [if_neg h0]
    have key : ∀ one other : Cd, one.1 = led.1 → S.ahead one other led best = (S.hd && !S.bt one best && S.bt other best && decide (other.1 = led.1)) := fun one other h => by
      unfold Su.ahead
      simp [h]
    have key2 : ∀ one : Cd, one.1 ≠ led.1 → S.ahead one c0 led best = true := fun one h => by
      unfold Su.ahead
      simp [h, hs0]
    unfold Su.play
    rw [e]
    unfold Su.l0 Su.bs
    rw [List.filter_filter]
    split
    · rename_i hb0
      have nb := (nil _).1 hb0
      apply List.filter_congr
      intro one ho
      by_cases q : one.1 = led.1
      · rw [decide_eq_true q]
        symm
        rw [decide_eq_true_eq, nil]
        intro other hx
        rw [key one other q]
        have := nb other hx
        cases q1 : S.hd <;> cases q2 : S.bt other best <;> simp [q1, q2] at this ⊢
        intro _
        exact this
      · rw [decide_eq_false q]
        symm
        rw [decide_eq_false_iff_not, nil]
        intro z
        have := z c0 hc0
        rw [key2 one q] at this
        cases this
    · rename_i hb0
      obtain ⟨c, hc, hcb⟩ : ∃ c ∈ hand, (S.hd && S.bt c best && decide (c.1 = led.1)) = true := by
        rcases List.exists_mem_of_ne_nil _ hb0 with ⟨c, hc⟩
        exact ⟨c, (List.mem_filter.1 hc).1, (List.mem_filter.1 hc).2⟩
      rw [Bool.and_eq_true, Bool.and_eq_true] at hcb
      obtain ⟨⟨hd, hbt⟩, hs⟩ := hcb
      apply List.filter_congr
      intro one ho
      by_cases q : one.1 = led.1
      · rw [decide_eq_true q, hd, Bool.true_and, Bool.and_true]
        cases q2 : S.bt one best
        · symm
          rw [decide_eq_false_iff_not, nil]
          intro z
          have := z c hc
          rw [key one c q, hd, q2, hbt, hs] at this
          cases this
        · symm
          rw [decide_eq_true_eq, nil]
          intro other hx
          rw [key one other q, q2]
          simp
      · rw [decide_eq_false q, Bool.and_false]
        symm
        rw [decide_eq_false_iff_not, nil]
        intro z
        have := z c0 hc0
        rw [key2 one q] at this
        cases this
end Rn

namespace Rn
open PySem PySem.Spec L2 Z
/-! ## drawing cards -/
theorem getElem_eraseIdx_perm : ∀ (L : List Cd) (r : Nat) (h : r < L.length), (L[r] :: L.eraseIdx r).Perm L
  | [], _, h => absurd h (by simp)
  | a :: L, 0, _ => List.Perm.refl _
  | a :: L, r + 1, h => (List.Perm.swap a (L[r]'(by simpa using h)) (L.eraseIdx r)).trans ((getElem_eraseIdx_perm L r (by simpa using h)).cons a)
theorem pop_perm {T L A : List Cd} (h : (T ++ L).Perm A) {r : Nat} (hr : r < L.length) : ((T ++ [L[r]]) ++ L.eraseIdx r).Perm A := by
  refine List.Perm.trans ?_ h
  rw [List.append_assoc]
  refine List.Perm.append_left T ?_
  rw [List.singleton_append]
  exact getElem_eraseIdx_perm L r hr
/-- how far cards have been drawn: T drawn, L left of A -/
structure Drawn (A : List Cd) (j : Nat) (T L : List Cd) : Prop where
  n : T.length = j
  p : (T ++ L).Perm A
  s : L.Sublist A
theorem Drawn.zero (A : List Cd) : Drawn A 0 [] A := ⟨rfl, List.Perm.refl _, List.Sublist.refl _⟩
theorem Drawn.step {A : List Cd} {j : Nat} {T L : List Cd} (h : Drawn A j T L) {r : Nat} (hr : r < L.length) : Drawn A (j + 1) (T ++ [L[r]]) (L.eraseIdx r) :=
  ⟨by rw [List.length_append, h.n]; rfl, pop_perm h.p hr, (List.eraseIdx_sublist L r).trans h.s⟩
theorem Drawn.len {A : List Cd} {j : Nat} {T L : List Cd} (h : Drawn A j T L) : j + L.length = A.length := by
  have := h.p.length_eq
  rw [List.length_append, h.n] at this
  exact this
theorem Drawn.memT {A : List Cd} {j : Nat} {T L : List Cd} (h : Drawn A j T L) {c : Cd} (hc : c ∈ T) : c ∈ A := h.p.mem_iff.1 (List.mem_append_left _ hc)
theorem Drawn.memL {A : List Cd} {j : Nat} {T L : List Cd} (h : Drawn A j T L) {c : Cd} (hc : c ∈ L) : c ∈ A := h.s.mem hc
theorem mlc_invh {vs : List Nat} {im : M (List D)} {g : D → Z.Env → Option Z.Env} {mt : M Bool} {me : M D} {ρ : Z.Env} {ds : List D} (I : Nat → List D → Z.Env → Prop) (him : im ρ = .ok ds ρ)
    (h : ∀ (j : Nat) (d : D) (acc : List D) (ρ : Z.Env), ds[j]? = some d → I j acc ρ → lcStI vs g mt me d (I (j + 1)) acc ρ) (hl : ds.length ≤ sizeLine) (h0 : I 0 [] (wipeE ρ vs)) : ∃ acc ρ', mlc vs im g mt me ρ = .ok (.lst (acc.map .frz)) ρ' ∧ I ds.length acc ρ' := mlc_inv I him h hl h0
abbrev Su.A (S : Su) : List Cd := allN 0 S.cs
theorem Su.A_len (S : Su) : S.A.length ≤ 32 := allN_le S.ok
theorem Su.A_sum (S : Su) : (S.A.length : Int) = S.cs.sum := allN_len 0 S.cs fun c hc => by have := S.ok.c1 c hc; omega
theorem Su.A_cb (S : Su) : ∀ c ∈ S.A, CB c := fun c hc => S.cb (S.mem_has hc)
theorem Su.A_asc (S : Su) : S.A.Pairwise clt := allN_asc S.cs 0
abbrev oC (l : List Cd) : O := .lst ((l.map cardD).map .frz)
abbrev fC (l : List Cd) : O := .frz (.lst (l.map cardD))
theorem eraseIdx_map' : ∀ (L : List Cd) (n : Nat), (L.map cardD).eraseIdx n = (L.eraseIdx n).map cardD
  | [], _ => rfl
  | a :: L, 0 => rfl
  | a :: L, n + 1 => by
    show cardD a :: (L.map cardD).eraseIdx n = cardD a :: (L.eraseIdx n).map cardD
    rw [eraseIdx_map' L n]
theorem kpop_cards {ρ : Z.Env} {i : Nat} {L : List Cd} {j : Int} (h : slotOf ρ i = some (oC L)) (h0 : 0 ≤ j) (h1 : j < L.length) (h2 : L.length ≤ 1000) : kpop i (.int j) ρ = .ok (cardD (L[j.toNat]'(by omega))) (ρ.set i (some (oC (L.eraseIdx j.toNat)))) := by
  rw [kpop_frz (ρ := ρ) i (L.map cardD) j h h0 (by rw [List.length_map]; exact h1) (by rw [List.length_map]; omega)]
  congr 1
  · rw [List.getElem_map]
  · congr 4
    exact eraseIdx_map' L j.toNat
/-! ## k05: the right answers -/
def Inv0 (A : List Cd) (k m : Nat) (g : O) (j : Nat) (acc : List D) (ρ : Z.Env) : Prop := ∃ p T L, ρ = [some p, some g, some (oC L), some (.frz (.int m)), none, none, none, none, none, none, none, none, none, none] ∧ acc = T.map cardD ∧ Drawn A j T L ∧ Pot (k + j) p
theorem st5_0 {I : List D → Z.Env → Prop} {acc : List D} {d c : D} {q q2 : O} {L L2 : List D} {x1 x3 : Option O} {r : Int} (e : f_law_out [q, .frz (.int L.length)] = .ok (.frz (.int r)) [q2, .frz (.int L.length)])
    (hp : kpop 2 (.int r) [some q2, x1, some (.lst (L.map .frz)), x3, none, none, none, none, none, none, none, none, some (.frz d), none] = .ok c [some q2, x1, some (.lst (L2.map .frz)), x3, none, none, none, none, none, none, none, none, some (.frz d), none])
    (h : I (acc ++ [c]) [some q2, x1, some (.lst (L2.map .frz)), x3, none, none, none, none, none, none, none, none, none, none]) :
    lcStI [12] (gset 12) (mret true) (mpop 2 (mfz (mcallN 2 f_law_out (maI 0 (maE (mcbo glen 2) (mret [])))))) d I acc [some q, x1, some (.lst (L.map .frz)), x3, none, none, none, none, none, none, none, none, none, none] := by
  simp [lcStI, e, hp, wipeE]
  exact h
theorem st5_2 {I : List D → Z.Env → Prop} {acc : List D} {d c : D} {q q2 : O} {P : D} {x1 x2 x3 x4 x5 : Option O} {r : Int} (e : f_law_out [q, .frz (.int 3)] = .ok (.frz (.int r)) [q2, .frz (.int 3)]) (g : gix P d = some c)
    (h : I (if r = 0 then acc ++ [c] else acc) [some q2, x1, x2, x3, x4, x5, some (.frz P), none, none, none, none, none, none, none]) :
    lcStI [12] (gset 12) (mtest (mop geq (mfz (mcallN 2 f_law_out (maI 0 (maE (mret (.int 3)) (mret []))))) (mret (.int 0)))) (mop gix (mvar 6) (mvar 12)) d I acc [some q, x1, x2, x3, x4, x5, some (.frz P), none, none, none, none, none, none, none] := by
  by_cases h0 : r = 0
  · rw [if_pos h0] at h
    simp [lcStI, e, h0, wipeE, g]
    exact h
  · rw [if_neg h0] at h
    simp [lcStI, e, h0, wipeE]
    exact h
theorem st5_3 {I : List D → Z.Env → Prop} {acc : List D} {c : D} {q q2 : O} {H : D} {x1 x2 x3 x4 x5 x6 : Option O} {r : Int} {b : Bool} (e : f_law_out [q, .frz (.int 4)] = .ok (.frz (.int r)) [q2, .frz (.int 4)]) (g : gin c H = some (.bl b))
    (h : I (if b = true ∨ r = 0 then acc ++ [c] else acc) [some (if b = true then q else q2), x1, x2, x3, x4, x5, x6, some (.frz H), none, none, none, none, none, none]) :
    lcStI [13] (gset 13) (mif (mtest (mop gin (mvar 13) (mvar 7))) (mret true) (mtest (mop geq (mfz (mcallN 2 f_law_out (maI 0 (maE (mret (.int 4)) (mret []))))) (mret (.int 0))))) (mvar 13) c I acc [some q, x1, x2, x3, x4, x5, x6, some (.frz H), none, none, none, none, none, none] := by
  cases b
  · by_cases h0 : r = 0
    · simp [h0] at h
      simp [lcStI, e, g, h0, wipeE]
      exact h
    · simp [h0] at h
      simp [lcStI, e, g, h0, wipeE]
      exact h
  · simp at h
    simp [lcStI, g, wipeE]
    exact h
theorem right5_0 {S : Su} {k m : Nat} {p : O} (hp : Pot k p) (hk : k ≤ 900) (hm : m ≤ S.A.length) : ∃ p' T L, c_law_right_2_0 [some p, some (.frz S.d), some (oC S.A), some (.frz (.int m)), none, none, none, none, none, none, none, none, none, none] =
    .ok (oC T) [some p', some (.frz S.d), some (oC L), some (.frz (.int m)), none, none, none, none, none, none, none, none, none, none] ∧ Drawn S.A m T L ∧ Pot (k + m) p' := by
  have hA := S.A_len
  have hr := mrange1_ok (j := (m : Int)) (by omega) (by omega)
  simp only [Int.toNat_natCast] at hr
  obtain ⟨acc, ρ', e, p', T, L, rfl, rfl, hd, hp'⟩ := mlc_invh (vs := [12]) (im := mrng1 (mcons (mvar 3) (mret []))) (g := gset 12) (mt := mret true) (me := mpop 2 (mfz (mcallN 2 f_law_out (maI 0 (maE (mcbo glen 2) (mret []))))))
    (ρ := [some p, some (.frz S.d), some (oC S.A), some (.frz (.int m)), none, none, none, none, none, none, none, none, none, none]) (ds := rangeD 0 m) (Inv0 S.A k m (.frz S.d)) (by simp [hr])
    (fun j d acc ρ hd' ⟨q, T, L, hρ, hacc, hd, hq⟩ => by
      obtain ⟨hj, rfl⟩ := rangeD_get hd'
      subst hρ
      subst hacc
      have hL := hd.len
      obtain ⟨r, q2, e, r0, rn, hq2⟩ := lo _ _ L.length hq (by omega) (by omega) (by omega)
      exact st5_0 (L := L.map cardD) (L2 := (L.eraseIdx r.toNat).map cardD) (by rw [List.length_map]; exact e) (kpop_cards (L := L) (j := r) rfl r0 rn (by omega)) ⟨q2, T ++ [L[r.toNat]'(by omega)], L.eraseIdx r.toNat, rfl, by simp, hd.step (by omega), hq2⟩)
    (by rw [rangeD_len, sizeLine_eq]; omega) ⟨p, [], S.A, rfl, rfl, Drawn.zero _, hp⟩
  rw [rangeD_len] at hd hp'
  exact ⟨p', T, L, e, hd, hp'⟩
/-- a row of a comprehension that keeps some, by draws -/
structure Kept (P : List Cd) (j : Nat) (Q : List Cd) : Prop where
  s : Q.Sublist (P.take j)
theorem take_snoc {P : List Cd} {j : Nat} (h : j < P.length) : P.take (j + 1) = P.take j ++ [P[j]] := List.take_succ_eq_append_getElem h
theorem Kept.yes {P Q : List Cd} {j : Nat} (h : Kept P j Q) (hj : j < P.length) : Kept P (j + 1) (Q ++ [P[j]]) := ⟨by rw [take_snoc hj]; exact h.s.append (List.Sublist.refl _)⟩
theorem Kept.no {P Q : List Cd} {j : Nat} (h : Kept P j Q) (hj : j < P.length) : Kept P (j + 1) Q := ⟨by rw [take_snoc hj]; exact h.s.trans (List.sublist_append_left _ _)⟩
def Inv2 (P : List Cd) (k : Nat) (x1 x2 x3 x4 x5 : Option O) (j : Nat) (acc : List D) (ρ : Z.Env) : Prop := ∃ p Q, ρ = [some p, x1, x2, x3, x4, x5, some (fC P), none, none, none, none, none, none, none] ∧ acc = Q.map cardD ∧ Kept P j Q ∧ Pot (k + j) p
theorem right5_2 {P : List Cd} {k : Nat} {p : O} (x1 x2 x3 x4 x5 : Option O) (hp : Pot k p) (hk : k ≤ 900) (hP : P.length ≤ 32) : ∃ p' Q, c_law_right_2_2 [some p, x1, x2, x3, x4, x5, some (fC P), none, none, none, none, none, none, none] =
    .ok (oC Q) [some p', x1, x2, x3, x4, x5, some (fC P), none, none, none, none, none, none, none] ∧ Q.Sublist P ∧ Pot (k + 32) p' := by
  have hr := mrange1_ok (j := (P.length : Int)) (by omega) (by omega)
  simp only [Int.toNat_natCast] at hr
  obtain ⟨acc, ρ', e, p', Q, rfl, rfl, hd, hp'⟩ := mlc_invh (vs := [12]) (im := mrng1 (mcons (mcb glen (mcons (mvar 6) (mret []))) (mret []))) (g := gset 12) (mt := mtest (mop geq (mfz (mcallN 2 f_law_out (maI 0 (maE (mret (.int 3)) (mret []))))) (mret (.int 0)))) (me := mop gix (mvar 6) (mvar 12))
    (ρ := [some p, x1, x2, x3, x4, x5, some (fC P), none, none, none, none, none, none, none]) (ds := rangeD 0 P.length) (Inv2 P k x1 x2 x3 x4 x5) (by simp [hr])
    (fun j d acc ρ hd' ⟨q, Q, hρ, hacc, hd, hq⟩ => by
      obtain ⟨hj, rfl⟩ := rangeD_get hd'
      subst hρ
      subst hacc
      obtain ⟨r, q2, e, r0, rn, hq2⟩ := lo _ _ 3 hq (by omega) (by omega) (by omega)
      have g : gix (.lst (P.map cardD)) (.int (0 + (j : Int))) = some (cardD P[j]) := by
        rw [gix_lst_lt (by omega) (by rw [List.length_map]; omega)]
        simp
      refine st5_2 e g ?_
      by_cases h0 : r = 0
      · rw [if_pos h0]
        exact ⟨q2, Q ++ [P[j]], rfl, by simp, hd.yes hj, hq2⟩
      · rw [if_neg h0]
        exact ⟨q2, Q, rfl, rfl, hd.no hj, hq2⟩)
    (by rw [rangeD_len, sizeLine_eq]; omega) ⟨p, [], rfl, rfl, ⟨by simp⟩, hp⟩
  rw [rangeD_len] at hd hp'
  have hs := hd.s
  rw [List.take_length] at hs
  exact ⟨p', Q, e, hs, hp'.mono (by omega)⟩
def Inv3 (L H : List Cd) (k : Nat) (x1 x3 x4 x5 x6 : Option O) (j : Nat) (acc : List D) (ρ : Z.Env) : Prop := ∃ p Q, ρ = [some p, x1, some (fC L), x3, x4, x5, x6, some (fC H), none, none, none, none, none, none] ∧ acc = Q.map cardD ∧ Kept L j Q ∧ Pot (k + j) p
theorem right5_3 {L H : List Cd} {k : Nat} {p : O} (x1 x3 x4 x5 x6 : Option O) (hp : Pot k p) (hk : k ≤ 900) (hP : L.length ≤ 32) (cL : ∀ c ∈ L, CB c) (cH : ∀ c ∈ H, CB c) : ∃ p' Q, c_law_right_2_3 [some p, x1, some (fC L), x3, x4, x5, x6, some (fC H), none, none, none, none, none, none] =
    .ok (oC Q) [some p', x1, some (fC L), x3, x4, x5, x6, some (fC H), none, none, none, none, none, none] ∧ Q.Sublist L ∧ Pot (k + 32) p' := by
  obtain ⟨acc, ρ', e, p', Q, rfl, rfl, hd, hp'⟩ := mlc_invh (vs := [13]) (im := mseq (mvar 2)) (g := gset 13) (mt := mif (mtest (mop gin (mvar 13) (mvar 7))) (mret true) (mtest (mop geq (mfz (mcallN 2 f_law_out (maI 0 (maE (mret (.int 4)) (mret []))))) (mret (.int 0))))) (me := mvar 13)
    (ρ := [some p, x1, some (fC L), x3, x4, x5, x6, some (fC H), none, none, none, none, none, none]) (ds := L.map cardD) (Inv3 L H k x1 x3 x4 x5 x6) (by simp)
    (fun j d acc ρ hd' ⟨q, Q, hρ, hacc, hd, hq⟩ => by
      rw [List.getElem?_map] at hd'
      obtain ⟨c, hc, rfl⟩ := Option.map_eq_some_iff.1 hd'
      obtain ⟨hj, rfl⟩ := List.getElem?_eq_some_iff.1 hc
      subst hρ
      subst hacc
      obtain ⟨r, q2, e, r0, rn, hq2⟩ := lo _ _ 4 hq (by omega) (by omega) (by omega)
      have g := gin_cardsL cH (cL _ (List.getElem_mem hj))
      refine st5_3 e g ?_
      by_cases hm : decide (L[j] ∈ H) = true
      · rw [if_pos (.inl hm), if_pos hm]
        exact ⟨q, Q ++ [L[j]], rfl, by simp, hd.yes hj, hq.mono (by omega)⟩
      · rw [if_neg hm]
        by_cases h0 : r = 0
        · rw [if_pos (.inr h0)]
          exact ⟨q2, Q ++ [L[j]], rfl, by simp, hd.yes hj, hq2⟩
        · rw [if_neg (fun z => z.elim hm h0)]
          exact ⟨q2, Q, rfl, rfl, hd.no hj, hq2⟩)
    (by rw [List.length_map, sizeLine_eq]; omega) ⟨p, [], rfl, rfl, ⟨by simp⟩, hp⟩
  rw [List.length_map] at hd hp'
  have hs := hd.s
  rw [List.take_length] at hs
  exact ⟨p', Q, e, hs, hp'.mono (by omega)⟩
end Rn

namespace Rn
open PySem PySem.Spec L2 Z
theorem right5_1 {L T : List Cd} {led : Cd} (S : Su) (hL : L.length ≤ 32) (x0 x3 : Option O) : c_law_right_2_1 [x0, some (.frz S.d), some (oC L), x3, some (fC (led :: T)), none, none, none, none, none, none, none, none, none] =
    .ok (oC (L.filter fun c => decide (c.1 = led.1) || teq S.t c.1)) [x0, some (.frz S.d), some (fC L), x3, some (fC (led :: T)), none, none, none, none, none, none, none, none, none] := by
  unfold c_law_right_2_1
  have g : gix (.lst ((led :: T).map cardD)) (.int 0) = some (cardD led) := by
    rw [gix_lst_lt (by omega) (by simp)]
    rfl
  have h := mlc_mapw cardD L (fun c => decide (c.1 = led.1) || teq S.t c.1) cardD (vs := [13]) (im := mseq (mvar 2)) (g := gset 13) (mt := mif (mtest (mop geq (mop gix (mvar 13) (mret (.int 0))) (mop gix (mop gix (mvar 4) (mret (.int 0))) (mret (.int 0))))) (mret true) (mtest (mop geq (mop gix (mvar 13) (mret (.int 0))) (mop gix (mvar 1) (mret (.int 3)))))) (me := mvar 13)
    (ρ := [x0, some (.frz S.d), some (oC L), x3, some (fC (led :: T)), none, none, none, none, none, none, none, none, none]) (ρ1 := [x0, some (.frz S.d), some (fC L), x3, some (fC (led :: T)), none, none, none, none, none, none, none, none, none]) (by simp [-List.map_map]) rfl
    (fun c hc => by by_cases q : c.1 = led.1 <;> cases q2 : teq S.t c.1 <;> simp [lcStp, wipeE, q, q2, g, -List.map_cons]) (by rw [sizeLine_eq]; omega)
  exact h
@[simp] theorem mcallC_eq (n m : Nat) (perm : List Nat) (dds : List D) (k : Nat) (f : List O → FR) (a b : M (List (Sum D Nat))) : mcallC n m perm dds k f a b = mbind a fun l1 => mbind b fun l2 => if l1.length = n ∧ l2.length = m then mcallN k f (mret (pick perm (l1 ++ l2 ++ dds.map .inl))) else fun _ => .bad := rfl
/-- the last part of k05's answers: cards, told hands -/
structure R5 (S : Su) (H : List Cd) (led best : Cd) (T : D) (P : List Cd) (s1 s2 : Str) : Prop where
  w : ∃ j : Int, f_law_winner [.frz S.t, .frz T] = .ok (.frz (.int j)) [.frz S.t, .frz T] ∧ gix T (.int j) = some (cardD best)
  g0 : gix T (.int 0) = some (cardD led)
  due : f_law_due [.frz S.d, .frz (.tup (H.map cardD)), .frz T] = .ok (.frz (.lst (P.map cardD))) [.frz S.d, .frz (.tup (H.map cardD)), .frz T]
  al : f_allowed [.frz S.d, .frz (.tup (H.map cardD)), .frz (cardD led), .frz (cardD best)] = .ok (oC P) [.frz S.d, .frz (.tup (H.map cardD)), .frz (cardD led), .frz (cardD best)]
  a0 : f_allowed [.frz S.d, .frz (.tup (H.map cardD)), .frz .non, .frz .non] = .ok (oC H) [.frz S.d, .frz (.tup (H.map cardD)), .frz .non, .frz .non]
  r1 : grepr [.lst (P.map cardD)] = some (.str s1)
  r2 : grepr [.lst [.lst (H.map cardD), .lst (H.map cardD)]] = some (.str s2)
  pl : P.length ≤ 32
theorem toD_oC (l : List Cd) : (oC l).toD = .lst (l.map cardD) := by rw [toD_lst, toDs_frzs]
/-- k05's right from what its parts give -/
theorem right5_run (S : Su) {T L N P0 Q H : List Cd} {led best : Cd} {due : List Cd} {s1 s2 : Str} {p p1 p2 p3 p4 p5 p6 : O} {r1 r3 r5 : Int} {m : Nat}
    (eo1 : f_law_out [p, .frz (.int (S.ps - 1))] = .ok (.frz (.int r1)) [p1, .frz (.int (S.ps - 1))]) (hm : (if 1 + r1 < (S.A.length : Int) then 1 + r1 else S.A.length) = (m : Int))
    (tr : List Cd) (htr : tr = led :: T)
    (c0 : c_law_right_2_0 [some p1, some (.frz S.d), some (oC S.A), some (.frz (.int m)), none, none, none, none, none, none, none, none, none, none] = .ok (oC tr) [some p2, some (.frz S.d), some (oC L), some (.frz (.int m)), none, none, none, none, none, none, none, none, none, none])
    (c1 : c_law_right_2_1 [some p2, some (.frz S.d), some (oC L), some (.frz (.int m)), some (fC tr), none, none, none, none, none, none, none, none, none] = .ok (oC N) [some p2, some (.frz S.d), some (fC L), some (.frz (.int m)), some (fC tr), none, none, none, none, none, none, none, none, none])
    (gN : gne (.lst (N.map cardD)) (.lst []) = some (.bl (!decide (N = []))))
    (eo3 : f_law_out [p2, .frz (.int 3)] = .ok (.frz (.int r3)) [p3, .frz (.int 3)])
    (hP : P0 = if N = [] then L else if 0 < r3 then N else L)
    (c2 : c_law_right_2_2 [some (if N = [] then p2 else p3), some (.frz S.d), some (fC L), some (.frz (.int m)), some (fC tr), some (fC N), some (fC P0), none, none, none, none, none, none, none] = .ok (oC Q) [some p4, some (.frz S.d), some (fC L), some (.frz (.int m)), some (fC tr), some (fC N), some (fC P0), none, none, none, none, none, none, none])
    (eo5 : f_law_out [p4, .frz (.int 2)] = .ok (.frz (.int r5)) [p5, .frz (.int 2)])
    (c3 : r5 = 0 → c_law_right_2_3 [some p5, some (.frz S.d), some (fC L), some (.frz (.int m)), some (fC tr), some (fC N), some (fC P0), some (fC Q), none, none, none, none, none, none] = .ok (oC H) [some p6, some (.frz S.d), some (fC L), some (.frz (.int m)), some (fC tr), some (fC N), some (fC P0), some (fC Q), none, none, none, none, none, none])
    (hH : r5 ≠ 0 → H = Q ∧ p6 = p5) (hlf : lfo p6 = true) (h : R5 S (H.take 8) led best (.lst (tr.map cardD)) due s1 s2) :
    f_law_right_2 [p, .frz S.d] = .ok (.frz (.bl true)) [p6, .frz S.d] := by
  obtain ⟨j, hw, gj⟩ := h.w
  have g0 := h.g0
  have hdue := h.due
  have al := h.al
  have a0 := h.a0
  have rr1 := h.r1
  have rr2 := h.r2
  have hl : due.length < sizeLine := by rw [sizeLine_eq]; have := h.pl; omega
  have hls : lfos ((due.map cardD).map O.frz) = true := lfo_cards due
  have hsl : gsl (.lst (H.map cardD)) none (some 8) = some (.lst ((H.take 8).map cardD)) := by
    show some (D.lst (cutD (H.map cardD) none (some 8))) = _
    congr 2
    unfold cutD
    have e1 : HT.sIx (H.map cardD).length 0 none = 0 := rfl
    have e2 : HT.sIx (H.map cardD).length (H.map cardD).length (some 8) = min 8 (H.map cardD).length := by
      simp [HT.sIx]
    rw [e1, e2, List.drop_zero, Nat.sub_zero, ← List.map_take]
    congr 1
    rw [List.length_map]
    by_cases q : 8 ≤ H.length
    · rw [Nat.min_eq_left q]
    · rw [Nat.min_eq_right (by omega), List.take_of_length_le (by omega), List.take_of_length_le (by omega)]
  have z1 : 1 ≤ sizeLine := by rw [sizeLine_eq]; omega
  have z2 : 2 ≤ sizeLine := by rw [sizeLine_eq]; omega
  generalize H.take 8 = H8 at *
  clear h
  generalize hgm : S.d = gm at *
  have gm3 : gix gm (.int 3) = some S.t := by rw [← hgm]; exact S.g3
  have gm1 : gix gm (.int 1) = some (.int S.ps) := by rw [← hgm]; exact S.g1
  have lc : f_law_cards [.frz gm] = .ok (oC S.A) [.frz gm] := by rw [← hgm]; exact law_cards_S S
  by_cases hN : N = []
  · subst hN
    rw [if_pos rfl] at hP c2
    subst hP
    simp only [oC, fC, List.map_nil] at c1 c2 c3
    by_cases h5 : r5 = 0
    · have c3 := c3 h5
      subst h5
      simp [-List.map_map] at gN
      simp [f_law_right_2, m_law_right_2, runFn, lc, gm1, gm3, eo1, hm, c0, c1, gN, c2, eo5, c3, hsl, hw, gj, g0, hdue, al, a0, rr1, rr2, hl, hls, hlf, fit_small, pick, z1, z2, -List.map_map]
    · obtain ⟨rfl, rfl⟩ := hH h5
      simp [-List.map_map] at gN
      simp [f_law_right_2, m_law_right_2, runFn, lc, gm1, gm3, eo1, hm, c0, c1, gN, c2, eo5, h5, hsl, hw, gj, g0, hdue, al, a0, rr1, rr2, hl, hls, hlf, fit_small, pick, z1, z2, -List.map_map]
  · rw [if_neg hN] at hP c2
    simp [hN, -List.map_map] at gN
    by_cases h3 : 0 < r3
    · rw [if_pos h3] at hP
      subst hP
      by_cases h5 : r5 = 0
      · have c3 := c3 h5
        subst h5
        simp [f_law_right_2, m_law_right_2, runFn, lc, gm1, gm3, eo1, hm, c0, c1, gN, eo3, h3, c2, eo5, c3, hsl, hw, gj, g0, hdue, al, a0, rr1, rr2, hl, hls, hlf, fit_small, pick, z1, z2, -List.map_map]
      · obtain ⟨rfl, rfl⟩ := hH h5
        simp [f_law_right_2, m_law_right_2, runFn, lc, gm1, gm3, eo1, hm, c0, c1, gN, eo3, h3, c2, eo5, h5, hsl, hw, gj, g0, hdue, al, a0, rr1, rr2, hl, hls, hlf, fit_small, pick, z1, z2, -List.map_map]
    · rw [if_neg h3] at hP
      subst hP
      by_cases h5 : r5 = 0
      · have c3 := c3 h5
        subst h5
        simp [f_law_right_2, m_law_right_2, runFn, lc, gm1, gm3, eo1, hm, c0, c1, gN, eo3, h3, c2, eo5, c3, hsl, hw, gj, g0, hdue, al, a0, rr1, rr2, hl, hls, hlf, fit_small, pick, z1, z2, -List.map_map]
      · obtain ⟨rfl, rfl⟩ := hH h5
        simp [f_law_right_2, m_law_right_2, runFn, lc, gm1, gm3, eo1, hm, c0, c1, gN, eo3, h3, c2, eo5, h5, hsl, hw, gj, g0, hdue, al, a0, rr1, rr2, hl, hls, hlf, fit_small, pick, z1, z2, -List.map_map]
end Rn

namespace Rn
open PySem PySem.Spec L2 Z
/-! ## the card that wins -/
def Su.bix (S : Su) : Nat → Nat → Cd → List Cd → Nat
  | _, b, _, [] => b
  | i, b, bc, c :: r => if S.bt c bc then S.bix (i + 1) i c r else S.bix (i + 1) b bc r
/-- the place that best_of tells -/
def Su.best (S : Su) : List Cd → Nat
  | [] => 0
  | c :: r => S.bix 0 0 c (c :: r)
/-- of a seq of cards, the item at a place -/
theorem Seqc.gix {w : D} {l : List Cd} (h : Seqc w l) {i : Nat} (hi : i < l.length) : gix w (.int i) = some (cardD l[i]) := by
  rcases h with rfl | rfl
  · rw [gix_lst_lt (by omega) (by rw [List.length_map]; omega)]
    simp
  · rw [gix_tup_lt (by omega) (by rw [List.length_map]; omega)]
    simp
theorem Seqc.menum {w : D} {l : List Cd} (h : Seqc w l) : menum [w] = some (enumD 0 (l.map cardD)) := by rcases h with rfl | rfl <;> rfl
theorem Seqc.glen {w : D} {l : List Cd} (h : Seqc w l) : glen [w] = some (.int l.length) := by rcases h with rfl | rfl <;> simp
theorem best_loop (S : Su) {w : D} {played : List Cd} (hw : Seqc w played) : ∀ (suf pre : List Cd) (b : Nat) (hb : b < played.length) (x3 x4 : Option O), played = pre ++ suf → ∃ y3 y4, sloop b_best_of_0 (gtup 2 (gscons (gset 3) (gscons (gset 4) gsnil))) (enumD pre.length (suf.map cardD)) [some (.frz S.t), some (.frz w), some (.frz (.int b)), x3, x4] =
    .nxt [some (.frz S.t), some (.frz w), some (.frz (.int (S.bix pre.length b played[b] suf : Nat))), y3, y4]
  | [], pre, b, hb, x3, x4, _ => ⟨x3, x4, rfl⟩
  | c :: suf, pre, b, hb, x3, x4, h => by
    have h' : played = (pre ++ [c]) ++ suf := by rw [h, List.append_assoc]; rfl
    have hp : pre.length < played.length := by rw [h, List.length_append]; simp
    have ec : played[pre.length] = c := by simp [h]
    have g := hw.gix hb
    have e0 := stronger_S S c played[b]
    rw [List.map_cons]
    show ∃ y3 y4, sloop _ _ (.tup [.int (pre.length : Int), cardD c] :: enumD (pre.length + 1) (suf.map cardD)) _ = _
    rw [sloop_cons]
    unfold Su.bix
    cases hc : S.bt c played[b]
    · obtain ⟨y3, y4, ih⟩ := best_loop S hw suf (pre ++ [c]) b hb (some (.frz (.int pre.length))) (some (.frz (cardD c))) h'
      rw [List.length_append, List.length_singleton] at ih
      rw [hc] at e0
      refine ⟨y3, y4, Eq.trans ?_ (ih.trans ?_)⟩
      · simp [b_best_of_0, e0, g]
      · simp
    · obtain ⟨y3, y4, ih⟩ := best_loop S hw suf (pre ++ [c]) pre.length hp (some (.frz (.int pre.length))) (some (.frz (cardD c))) h'
      rw [List.length_append, List.length_singleton, ec] at ih
      rw [hc] at e0
      refine ⟨y3, y4, Eq.trans ?_ (ih.trans ?_)⟩
      · simp [b_best_of_0, e0, g]
      · simp
theorem best_of_S (S : Su) {w : D} {c : Cd} {r : List Cd} (hw : Seqc w (c :: r)) : f_best_of [.frz S.t, .frz w] = .ok (.frz (.int (S.best (c :: r) : Nat))) [.frz S.t, .frz w] := by
  obtain ⟨y3, y4, e⟩ := best_loop S hw (c :: r) [] 0 (by simp) none none rfl
  have e : sloop b_best_of_0 (gtup 2 (gscons (gset 3) (gscons (gset 4) gsnil))) (enumD 0 ((c :: r).map cardD)) [some (.frz S.t), some (.frz w), some (.frz (.int 0)), none, none] =
    .nxt [some (.frz S.t), some (.frz w), some (.frz (.int (S.best (c :: r) : Nat))), y3, y4] := e
  have hm := hw.menum
  generalize (c :: r).map cardD = ds at e hm
  generalize S.best (c :: r) = j at e ⊢
  simp [f_best_of, m_best_of, runFn, hm, e]
/-! what wins, by its law -/
/-- no card of l beats c -/
def Su.unb (S : Su) (l : List Cd) (c : Cd) : Prop := ∀ x ∈ l, S.bt x c = false
def Su.fit (S : Su) (led c : Cd) : Prop := teq S.t c.1 = true ∨ c.1 = led.1
theorem teq_one {t : D} {a b : Int} (h : teq t a = true) (h2 : teq t b = true) : a = b := by
  unfold teq at h h2
  split at h
  · simp at h h2
    omega
  · cases h
theorem Su.bt_same {S : Su} {c c' : Cd} (h : c.1 = c'.1) : S.bt c c' = decide (c'.2 < c.2) := by
  unfold Su.bt bts
  rw [if_pos h]
theorem Su.bt_unlike {S : Su} {c c' : Cd} (h : c.1 ≠ c'.1) : S.bt c c' = teq S.t c.1 := by
  unfold Su.bt bts
  rw [if_neg h]
theorem Su.bt_self (S : Su) (c : Cd) : S.bt c c = false := by
  rw [Su.bt_same rfl]
  simp
/-- what beats a card that x does not beat is not beaten by x -/
theorem Su.bt_tr {S : Su} {x c bc : Cd} (h : S.bt x bc = false) (h2 : S.bt c bc = true) : S.bt x c = false := by
  by_cases e1 : c.1 = bc.1
  · rw [S.bt_same e1] at h2
    have h2 := of_decide_eq_true h2
    by_cases e2 : x.1 = c.1
    · rw [S.bt_same e2]
      rw [S.bt_same (e2.trans e1)] at h
      have h := of_decide_eq_false h
      exact decide_eq_false (by omega)
    · rw [S.bt_unlike e2]
      rw [S.bt_unlike (fun z => e2 (z.trans e1.symm))] at h
      exact h
  · rw [S.bt_unlike e1] at h2
    by_cases e2 : x.1 = c.1
    · have e3 : x.1 ≠ bc.1 := fun z => e1 (e2.symm.trans z)
      rw [S.bt_unlike e3, e2, h2] at h
      cases h
    · rw [S.bt_unlike e2]
      cases q : teq S.t x.1
      · rfl
      · exact absurd (teq_one q h2) e2
theorem Su.fit_beats {S : Su} {led c bc : Cd} (h : S.fit led bc) (h2 : S.bt c bc = true) : S.fit led c := by
  by_cases e1 : c.1 = bc.1
  · unfold Su.fit
    rw [e1]
    exact h
  · rw [S.bt_unlike e1] at h2
    exact .inl h2
theorem Su.bix_spec (S : Su) (led : Cd) (l : List Cd) : ∀ (suf pre : List Cd) (b : Nat) (bc : Cd), l[b]? = some bc → l = pre ++ suf → S.unb pre bc → S.fit led bc → ∃ d, l[S.bix pre.length b bc suf]? = some d ∧ S.unb l d ∧ S.fit led d
  | [], pre, b, bc, hb, e, hu, hf => by
    rw [List.append_nil] at e
    subst e
    exact ⟨bc, hb, hu, hf⟩
  | c :: suf, pre, b, bc, hb, e, hu, hf => by
    have e' : l = (pre ++ [c]) ++ suf := by rw [e, List.append_assoc]; rfl
    have ec : l[pre.length]? = some c := by simp [e]
    have hl : (pre ++ [c]).length = pre.length + 1 := by simp
    unfold Su.bix
    by_cases hc : S.bt c bc = true
    · rw [if_pos hc]
      have := S.bix_spec led l suf (pre ++ [c]) pre.length c ec e' (fun x hx => by
        rcases List.mem_append.1 hx with z | z
        · exact S.bt_tr (hu x z) hc
        · rw [List.mem_singleton.1 z]; exact S.bt_self c) (S.fit_beats hf hc)
      rw [hl] at this
      exact this
    · rw [if_neg hc]
      have := S.bix_spec led l suf (pre ++ [c]) b bc hb e' (fun x hx => by
        rcases List.mem_append.1 hx with z | z
        · exact hu x z
        · rw [List.mem_singleton.1 z]; simpa using hc) hf
      rw [hl] at this
      exact this
theorem Su.best_spec (S : Su) (led : Cd) (r : List Cd) : ∃ d, (led :: r)[S.best (led :: r)]? = some d ∧ S.unb (led :: r) d ∧ S.fit led d :=
  S.bix_spec led (led :: r) (led :: r) [] 0 led rfl rfl (fun x hx => by cases hx) (.inr rfl)
theorem Su.unb_one {S : Su} {l : List Cd} {led c c' : Cd} (hc : c ∈ l) (hc' : c' ∈ l) (h : S.unb l c) (h' : S.unb l c') (f : S.fit led c) (f' : S.fit led c') : c = c' := by
  by_cases e : c.1 = c'.1
  · have a := h c' hc'
    have b := h' c hc
    rw [S.bt_same e.symm] at a
    rw [S.bt_same e] at b
    have a := of_decide_eq_false a
    have b := of_decide_eq_false b
    exact Prod.ext e (by omega)
  · have a := h c' hc'
    have b := h' c hc
    rw [S.bt_unlike (Ne.symm e)] at a
    rw [S.bt_unlike e] at b
    rcases f with z | z
    · rw [b] at z; cases z
    · rcases f' with y | y
      · rw [a] at y; cases y
      · exact absurd (z.trans y.symm) e
theorem srt_last {l : List Cd} : ∀ (h : l ≠ []), SrtO.Srtd SrtO.lexB l → ∀ x ∈ l, SrtO.lexB (l.getLast h) x = false := by
  intro h hs x hx
  rcases List.mem_iff_getElem.1 hx with ⟨i, hi, rfl⟩
  rw [List.getLast_eq_getElem]
  by_cases e : i = l.length - 1
  · subst e
    exact swo_pairs.refl _
  · exact List.pairwise_iff_getElem.1 hs i (l.length - 1) hi (by omega) (by omega)
theorem top_max {l : List Cd} (h : l ≠ []) {x : Cd} (hx : x ∈ l) : SrtO.lexB (top l) x = false := by
  have h2 : isort SrtO.lexB l ≠ [] := fun z => h (by
    have := isort_len l
    rw [z] at this
    exact List.eq_nil_of_length_eq_zero this.symm)
  unfold top
  rw [List.getLastD_eq_getLast?, List.getLast?_eq_some_getLast h2]
  exact srt_last h2 (isort_srtd swo_pairs l) x (isort_mem.2 hx)
theorem lexB_same {p q : Cd} (h : SrtO.lexB p q = false) (e : q.1 = p.1) : ¬ p.2 < q.2 := by
  intro z
  have := SrtO.lexB_iff.2 (.inr ⟨e.symm, z⟩ : p.1 < q.1 ∨ (p.1 = q.1 ∧ p.2 < q.2))
  rw [h] at this
  cases this
theorem Su.win_unb (S : Su) (led : Cd) (r : List Cd) : S.unb (led :: r) (S.win (led :: r) led) := by
  intro x hx
  have hm := top_mem (S.lot_ne (led := led) (r := r))
  have mx : ∀ y ∈ S.lot (led :: r) led, SrtO.lexB (top (S.lot (led :: r) led)) y = false := fun y hy => top_max S.lot_ne hy
  unfold Su.win
  generalize top (S.lot (led :: r) led) = w at hm mx
  unfold Su.lot at hm mx
  by_cases ht : S.tl (led :: r) = []
  · rw [if_pos ht] at hm mx
    have hw := of_decide_eq_true (List.mem_filter.1 hm).2
    have nt : teq S.t x.1 = false := by
      cases q : teq S.t x.1
      · rfl
      · have : x ∈ S.tl (led :: r) := List.mem_filter.2 ⟨hx, q⟩
        rw [ht] at this
        cases this
    by_cases e : x.1 = w.1
    · rw [S.bt_same e]
      have := lexB_same (mx x (List.mem_filter.2 ⟨hx, decide_eq_true (e.trans hw)⟩)) e
      exact decide_eq_false this
    · rw [S.bt_unlike e, nt]
  · rw [if_neg ht] at hm mx
    have hw := (List.mem_filter.1 hm).2
    by_cases e : x.1 = w.1
    · rw [S.bt_same e]
      have := lexB_same (mx x (List.mem_filter.2 ⟨hx, by rw [e]; exact hw⟩)) e
      exact decide_eq_false this
    · rw [S.bt_unlike e]
      cases q : teq S.t x.1
      · rfl
      · exact absurd (teq_one q hw) e
theorem idxOf_at : ∀ {l : List Cd}, l.Nodup → ∀ {j : Nat} (h : j < l.length), l.idxOf l[j] = j
  | [], _, j, h => absurd h (by simp)
  | a :: l, hn, 0, _ => by simp
  | a :: l, hn, j + 1, h => by
    have hn := List.nodup_cons.1 hn
    have hj : j < l.length := by simpa using h
    have ih := idxOf_at hn.2 hj
    have ne : a ≠ l[j] := fun z => hn.1 (by rw [z]; exact List.getElem_mem hj)
    have e : (a == l[j]) = false := by simpa using ne
    show (a :: l).idxOf l[j] = j + 1
    rw [List.idxOf_cons, e]
    simp [ih]
/-- THE LAW of k04 -/
theorem Su.best_win (S : Su) (led : Cd) (r : List Cd) (hn : (led :: r).Nodup) : S.best (led :: r) = (led :: r).idxOf (S.win (led :: r) led) ∧ S.best (led :: r) < (led :: r).length := by
  obtain ⟨d, hd, hu, hf⟩ := S.best_spec led r
  obtain ⟨hj, hd⟩ := List.getElem?_eq_some_iff.1 hd
  have e := S.unb_one (by rw [← hd]; exact List.getElem_mem hj) S.win_mem hu (S.win_unb led r) hf S.win_suit
  refine ⟨?_, hj⟩
  rw [← e, ← hd]
  exact (idxOf_at hn hj).symm
end Rn

namespace Rn
open PySem PySem.Spec L2 Z
@[simp] theorem dats_nil : dats [] = some [] := rfl
@[simp] theorem dats_inl (d : D) (l : List (Sum D Nat)) : dats (.inl d :: l) = (dats l).map (d :: ·) := rfl
@[simp] theorem mcallV_eq (n : Nat) (f : List O → FR) (ms : M (List (Sum D Nat))) : mcallV n f ms = mbind ms fun l => if n ≤ l.length then (match dats (l.drop n) with
  | some ds => if ds.length ≤ sizeLine then mcallN (n + 1) f (mret (l.take n ++ [.inl (.tup ds)])) else fun _ => .bad
  | none => fun _ => .bad) else fun _ => .bad := rfl
theorem grepr_int {i : Int} (h : i.natAbs.log2 < 1920) : ∃ x, grepr [.int i] = some (.str x) := by
  refine ⟨(toString i : String), ?_⟩
  show strD (if i.natAbs.log2 < 1920 then some (V.str (toString i)) else none) = _
  rw [if_pos h]
  rfl
theorem log_small {n : Nat} (h : n ≤ 1000) : ((n : Int)).natAbs.log2 < 1920 := by
  rw [Int.natAbs_natCast]
  by_cases h0 : n = 0
  · subst h0; decide
  · have := (Nat.log2_lt h0 (k := 10)).2 (by omega)
    omega
theorem bp_loop (S : Su) {w : D} : ∀ (l : List Cd), (∀ c ∈ l, S.has c = true) → ∀ x2 : Option O, ∃ y2, sloop b_best_place_0 (gset 2) (l.map cardD) [some (.frz S.d), some (.frz w), x2] = .nxt [some (.frz S.d), some (.frz w), y2]
  | [], _, x2 => ⟨x2, rfl⟩
  | c :: l, h, x2 => by
    obtain ⟨y2, ih⟩ := bp_loop S (w := w) l (fun x hx => h x (List.mem_cons_of_mem _ hx)) (some (.frz (cardD c)))
    have e := need_card_S S (h c List.mem_cons_self)
    refine ⟨y2, ?_⟩
    rw [List.map_cons, sloop_cons, ← ih]
    simp [b_best_place_0, e]
theorem bp_run (S : Su) {ds : List D} {l : List Cd} {j : Int} {y2 : Option O} (e1 : sloop b_best_place_0 (gset 2) ds [some (.frz S.d), some (.frz (.tup ds)), none] = .nxt [some (.frz S.d), some (.frz (.tup ds)), y2])
    (e2 : f_best_of [.frz S.t, .frz (.tup ds)] = .ok (.frz (.int j)) [.frz S.t, .frz (.tup ds)]) (h1 : 1 ≤ ds.length) (h2 : (ds.length : Int) ≤ S.ps) (h3 : klenset (.tup ds) = mret (.int ds.length)) : f_best_place [.frz S.d, .frz (.tup ds)] = .ok (.frz (.int j)) [.frz S.d, .frz (.tup ds)] := by
  have h1' : (1 : Int) ≤ ds.length := by omega
  simp [f_best_place, m_best_place, runFn, e1, e2, h1, h1', h2, h3]
theorem best_place_S (S : Su) {c : Cd} {r : List Cd} (h : ∀ x ∈ c :: r, S.has x = true) (hl : ((c :: r).length : Int) ≤ S.ps) (hn : (c :: r).Nodup) : f_best_place [.frz S.d, .frz (.tup ((c :: r).map cardD))] = .ok (.frz (.int (S.best (c :: r) : Nat))) [.frz S.d, .frz (.tup ((c :: r).map cardD))] := by
  have h4 := S.ok.p4
  obtain ⟨y2, e1⟩ := bp_loop S (w := .tup ((c :: r).map cardD)) (c :: r) h none
  refine bp_run S (l := c :: r) e1 (best_of_S S (.inr rfl)) (by simp) (by rw [List.length_map]; exact hl) ?_
  rw [klenset_tup, if_pos (by omega)]
  unfold unlike
  rw [dedup_of hn, List.length_map]
theorem told_S (S : Su) {c : Cd} {r : List Cd} (h : ∀ x ∈ c :: r, S.has x = true) (hl : ((c :: r).length : Int) ≤ S.ps) (hn : (c :: r).Nodup) : f_law_told [.frz S.d, .frz (.lst ((c :: r).map cardD))] = .ok (.frz (.int (S.best (c :: r) : Nat))) [.frz S.d, .frz (.lst ((c :: r).map cardD))] := by
  have e := best_place_S S h hl hn
  have h4 := S.ok.p4
  generalize S.best (c :: r) = j at e ⊢
  have z1 : 1 ≤ sizeLine := by rw [sizeLine_eq]; omega
  have z2 : 2 ≤ sizeLine := by rw [sizeLine_eq]; omega
  have z3 : 3 ≤ sizeLine := by rw [sizeLine_eq]; omega
  have z4 : 4 ≤ sizeLine := by rw [sizeLine_eq]; omega
  have i0 : ∀ (x : D) (l : List D), gix (.lst (x :: l)) (.int 0) = some x := fun x l => atI_nat (j := 0) rfl
  have i1 : ∀ (x y : D) (l : List D), gix (.lst (x :: y :: l)) (.int 1) = some y := fun x y l => atI_nat (j := 1) rfl
  have i2 : ∀ (x y z : D) (l : List D), gix (.lst (x :: y :: z :: l)) (.int 2) = some z := fun x y z l => atI_nat (j := 2) rfl
  have i3 : ∀ (x y z u : D) (l : List D), gix (.lst (x :: y :: z :: u :: l)) (.int 3) = some u := fun x y z u l => atI_nat (j := 3) rfl
  match r, e, hl with
  | [], e, _ =>
    simp at e
    simp [f_law_told, m_law_told, runFn, i0, z1, e]
  | [a], e, _ =>
    simp at e
    simp [f_law_told, m_law_told, runFn, i0, i1, z2, e]
  | [a, b], e, _ =>
    simp at e
    simp [f_law_told, m_law_told, runFn, i0, i1, i2, z3, e]
  | [a, b, d], e, _ =>
    simp at e
    simp [f_law_told, m_law_told, runFn, i0, i1, i2, i3, z4, e]
  | a :: b :: d :: f :: r, _, hl =>
    simp at hl
    omega
end Rn
namespace K04
open PySem PySem.Spec L2 Z Rn
def InvP (A : List Cd) (k : Nat) (x0 x1 x3 x4 x6 x7 x9 : Option O) (j : Nat) (acc : List D) (ρ : Z.Env) : Prop := ∃ p T L, ρ = [x0, x1, some p, x3, x4, some (oC L), x6, x7, none, x9] ∧ acc = T.map cardD ∧ Drawn A j T L ∧ Pot (k + j) p
theorem st4 {I : List D → Z.Env → Prop} {acc : List D} {d c : D} {q q2 : O} {L L2 : List D} {x0 x1 x3 x4 x6 x7 x9 : Option O} {r : Int} (e : f_law_out [q, .frz (.int L.length)] = .ok (.frz (.int r)) [q2, .frz (.int L.length)])
    (hp : kpop 5 (.int r) [x0, x1, some q2, x3, x4, some (.lst (L.map .frz)), x6, x7, some (.frz d), x9] = .ok c [x0, x1, some q2, x3, x4, some (.lst (L2.map .frz)), x6, x7, some (.frz d), x9])
    (h : I (acc ++ [c]) [x0, x1, some q2, x3, x4, some (.lst (L2.map .frz)), x6, x7, none, x9]) :
    lcStI [8] (gset 8) (mret true) (mpop 5 (mfz (mcallN 2 f_law_out (maI 2 (maE (mcbo glen 5) (mret [])))))) d I acc [x0, x1, some q, x3, x4, some (.lst (L.map .frz)), x6, x7, none, x9] := by
  simp [lcStI, e, hp, wipeE]
  exact h
theorem draw4 (S : Su) {k : Nat} {p p1 : O} {r : Int} (x0 x1 x4 x6 x7 x8 x9 : Option O) (hp : Pot k p1) (hk : k ≤ 900) (e1 : f_law_out [p, .frz (.int S.ps)] = .ok (.frz (.int r)) [p1, .frz (.int S.ps)]) {m : Nat} (hm : 1 + r = (m : Int)) (hm2 : m ≤ S.A.length) :
    ∃ p' T L, c_law_K04_0 [x0, x1, some p, some (.frz S.d), x4, some (oC S.A), x6, x7, x8, x9] = .ok (oC T) [x0, x1, some p', some (.frz S.d), x4, some (oC L), x6, x7, none, x9] ∧ Drawn S.A m T L ∧ Pot (k + m) p' := by
  have hA := S.A_len
  have hr := mrange1_ok (j := (m : Int)) (by omega) (by omega)
  simp only [Int.toNat_natCast] at hr
  obtain ⟨acc, ρ', e, p', T, L, rfl, rfl, hd, hp'⟩ := mlc_inv (vs := [8]) (im := mrng1 (mcons (mop gadd (mret (.int 1)) (mfz (mcallN 2 f_law_out (maI 2 (maE (mop gix (mvar 3) (mret (.int 1))) (mret [])))))) (mret []))) (g := gset 8) (mt := mret true) (me := mpop 5 (mfz (mcallN 2 f_law_out (maI 2 (maE (mcbo glen 5) (mret []))))))
    (ρ := [x0, x1, some p, some (.frz S.d), x4, some (oC S.A), x6, x7, x8, x9]) (ρ1 := [x0, x1, some p1, some (.frz S.d), x4, some (oC S.A), x6, x7, x8, x9]) (ds := rangeD 0 m) (InvP S.A k x0 x1 (some (.frz S.d)) x4 x6 x7 x9) (by simp [e1, hm, hr])
    (fun j d acc ρ hd' ⟨q, T, L, hρ, hacc, hd, hq⟩ => by
      obtain ⟨hj, rfl⟩ := rangeD_get hd'
      subst hρ
      subst hacc
      have hL := hd.len
      obtain ⟨r, q2, e, r0, rn, hq2⟩ := lo _ _ L.length hq (by omega) (by omega) (by omega)
      exact st4 (L := L.map cardD) (L2 := (L.eraseIdx r.toNat).map cardD) (by rw [List.length_map]; exact e) (kpop_cards (L := L) (j := r) rfl r0 rn (by omega)) ⟨q2, T ++ [L[r.toNat]'(by omega)], L.eraseIdx r.toNat, rfl, by simp, hd.step (by omega), hq2⟩)
    (by rw [rangeD_len, sizeLine_eq]; omega) ⟨p1, [], S.A, rfl, rfl, Drawn.zero _, hp⟩
  rw [rangeD_len] at hd hp'
  exact ⟨p', T, L, e, hd, hp'⟩
theorem none4 (S : Su) {tr : List Cd} {j : Nat} (h : ∀ x ∈ tr, S.has x = true) (hj : j < tr.length) (hu : S.unb tr tr[j]) (hl : tr.length ≤ 100) (x0 x1 x2 x4 x5 x8 x9 : Option O) :
    c_law_K04_1 [x0, x1, x2, some (.frz S.d), x4, x5, some (fC tr), some (.frz (.int j)), x8, x9] = .ok (.lst []) [x0, x1, x2, some (.frz S.d), x4, x5, some (fC tr), some (.frz (.int j)), x8, none] := by
  unfold c_law_K04_1
  have g := Seqc.gix (w := .lst (tr.map cardD)) (.inl rfl) hj
  have := mlc_here cardD tr (fun c => S.bt c tr[j]) cardD (vs := [9]) (im := mseq (mvar 6)) (g := gset 9) (mt := mtest (mfz (mcallN 3 f_beats (maE (mvar 3) (maE (mvar 9) (maE (mop gix (mvar 6) (mvar 7)) (mret []))))))) (me := mvar 9)
    (ρ := [x0, x1, x2, some (.frz S.d), x4, x5, some (fC tr), some (.frz (.int j)), x8, x9]) (ρ2 := [x0, x1, x2, some (.frz S.d), x4, x5, some (fC tr), some (.frz (.int j)), x8, none]) (by simp) rfl (fun c hc => by
      have b := beats_S S (h c hc) (h _ (List.getElem_mem hj))
      have u := hu c hc
      rw [u] at b
      generalize tr[j] = w at g b u
      simp [lcStp, wipeE, g, b, u]) (by rw [sizeLine_eq]; omega)
  have e : tr.filter (fun c => S.bt c tr[j]) = [] := by
    rw [List.filter_eq_nil_iff]
    intro c hc
    rw [hu c hc]
    simp
  rw [e] at this
  exact this
theorem inner_run {I : Z.Env → Prop} {gm t : D} {ds : List D} {Ao : O} {p p' : O} {Lo : O} {d j : D} {s : Str} {x0 x1 x4 x5 x6 x7 x8 x9 : Option O} (lc : f_law_cards [.frz gm] = .ok Ao [.frz gm])
    (c0 : c_law_K04_0 [x0, x1, some p, some (.frz gm), some (.frz d), some Ao, x6, x7, x8, x9] = .ok (.lst (ds.map .frz)) [x0, x1, some p', some (.frz gm), some (.frz d), some Lo, x6, x7, none, x9])
    (et : f_law_told [.frz gm, .frz (.lst ds)] = .ok (.frz j) [.frz gm, .frz (.lst ds)]) (g3 : gix gm (.int 3) = some t) (ew : f_law_winner [.frz t, .frz (.lst ds)] = .ok (.frz j) [.frz t, .frz (.lst ds)]) (er : grepr [j] = some (.str s))
    (c1 : c_law_K04_1 [x0, x1, some p', some (.frz gm), some (.frz d), some Lo, some (.frz (.lst ds)), some (.frz j), none, x9] = .ok (.lst []) [x0, x1, some p', some (.frz gm), some (.frz d), some Lo, some (.frz (.lst ds)), some (.frz j), none, none])
    (g0 : gne (.lst []) (.lst []) = some (.bl false))
    (h : I [x0, x1, some p', some (.frz gm), some (.frz d), some Lo, some (.frz (.lst ds)), some (.frz j), none, none]) : stepOk b_law_K04_2 (gset 4) I d [x0, x1, some p, some (.frz gm), x4, x5, x6, x7, x8, x9] := by
  simp [stepOk, b_law_K04_2, lc, c0, et, g3, ew, er, c1, g0, fit_small]
  exact h
def InvI (x0 x1 : Option O) (gm : D) (k j : Nat) (ρ : Z.Env) : Prop := ∃ p x4 x5 x6 x7 x8 x9, ρ = [x0, x1, some p, some (.frz gm), x4, x5, x6, x7, x8, x9] ∧ Pot (k + 5 * j) p
theorem inner (S : Su) {k : Nat} (hk : k ≤ 100) (x0 x1 : Option O) (j : Nat) (d : D) (ρ : Z.Env) (hj : (rangeD 0 5)[j]? = some d) (I : InvI x0 x1 S.d k j ρ) : stepOk b_law_K04_2 (gset 4) (InvI x0 x1 S.d k (j + 1)) d ρ := by
  obtain ⟨p, x4, x5, x6, x7, x8, x9, rfl, hp⟩ := I
  obtain ⟨hj, rfl⟩ := rangeD_get hj
  have h2 := S.ok.p2
  have h4 := S.ok.p4
  obtain ⟨r, p1, e1, r0, rn, hp1⟩ := lo _ _ S.ps hp (by omega) (by omega) (by omega)
  obtain ⟨m, hm⟩ : ∃ m : Nat, 1 + r = (m : Int) := ⟨(1 + r).toNat, by omega⟩
  have hA : S.ps ≤ S.A.length := by
    have a := S.A_sum
    have b := S.ok.m
    have c := S.ok.e1
    have : S.ps * 1 ≤ S.ps * S.es := Int.mul_le_mul_of_nonneg_left c (by omega)
    omega
  have hA2 := S.A_len
  obtain ⟨p', T, L, c0, hd, hp'⟩ := draw4 S x0 x1 (some (.frz (.int (0 + (j : Int))))) x6 x7 x8 x9 hp1 (by omega) e1 hm (by omega)
  obtain ⟨led, T', rfl⟩ : ∃ led T', T = led :: T' := by
    cases T with
    | nil => have := hd.n; simp at this; omega
    | cons a r => exact ⟨a, r, rfl⟩
  have hT : ∀ x ∈ led :: T', S.has x = true := fun x hx => S.mem_has (hd.memT hx)
  have hcT : ∀ x ∈ led :: T', CB x := fun x hx => S.cb (hT x hx)
  have hnd : (led :: T').Nodup := by
    have h1 : S.A.Nodup := S.A_asc.imp fun {a b} h z => by
      subst z
      rcases h with h | ⟨_, h⟩ <;> omega
    exact (List.nodup_append.1 (hd.p.nodup_iff.2 h1)).1
  have hlen := hd.n
  obtain ⟨eb, hb⟩ := S.best_win led T' hnd
  have et := told_S S hT (by omega) hnd
  have ew := winner_S S hcT (by omega)
  rw [← eb] at ew
  obtain ⟨s, er⟩ := grepr_int (log_small (n := S.best (led :: T')) (by omega))
  have hu : S.unb (led :: T') (led :: T')[S.best (led :: T')] := by
    have e := S.win_unb led T'
    have : (led :: T')[S.best (led :: T')] = S.win (led :: T') led := by
      have q : (led :: T')[(led :: T').idxOf (S.win (led :: T') led)]'(List.idxOf_lt_length_of_mem S.win_mem) = S.win (led :: T') led := by simp
      rw [← q]
      congr 1
    rw [this]
    exact e
  have c1 := none4 S hT hb hu (by omega) x0 x1 (some p') (some (.frz (.int (0 + (j : Int))))) (some (oC L)) none x9
  exact inner_run (ds := (led :: T').map cardD) (law_cards_S S) c0 et S.g3 ew er c1 (gne_of (geq_cards0 (l := []) fun c z => by cases z)) ⟨p', _, _, _, _, _, _, rfl, hp'.mono (by omega)⟩
def InvO (x0 : Option O) (j : Nat) (ρ : Z.Env) : Prop := ∃ x1 x2 x3 x4 x5 x6 x7 x8 x9, ρ = [x0, x1, x2, x3, x4, x5, x6, x7, x8, x9]
theorem outer_run (x0 : Option O) (z : Int) (j : Nat) (x1 x2 x3 x4 x5 x6 x7 x8 x9 y4 y5 y6 y7 y8 y9 : Option O) (p p' q : O) (gm : D) (e0 : f_law_pot [.frz (.int z)] = .ok p [.frz (.int z)]) (e1 : f_law_setup [p] = .ok (.frz gm) [p']) (hr : mrange1 [.int 5] = some (rangeD 0 5))
    (e3 : sloop b_law_K04_2 (gset 4) (rangeD 0 5) [x0, some (.frz (.int z)), some p', some (.frz gm), x4, x5, x6, x7, x8, x9] = .nxt [x0, some (.frz (.int z)), some q, some (.frz gm), y4, y5, y6, y7, y8, y9]) : stepOk b_law_K04_3 (gset 1) (InvO x0 (j + 1)) (.int z) [x0, x1, x2, x3, x4, x5, x6, x7, x8, x9] := by
  simp [stepOk, b_law_K04_3, e0, e1, hr, e3]
  exact ⟨_, _, _, _, _, _, _, _, _, rfl⟩
theorem outer (x0 : Option O) (z : Int) (j : Nat) (ρ : Z.Env) (I : InvO x0 j ρ) : stepOk b_law_K04_3 (gset 1) (InvO x0 (j + 1)) (.int z) ρ := by
  obtain ⟨x1, x2, x3, x4, x5, x6, x7, x8, x9, rfl⟩ := I
  obtain ⟨p, e0, hp⟩ := lp_pot z
  obtain ⟨S, p', e1, hp'⟩ := law_setup_S hp (by omega)
  obtain ⟨ρ', e3, q, y4, y5, y6, y7, y8, y9, rfl, hq⟩ := sloop_inv (body := b_law_K04_2) (tg := gset 4) (rangeD 0 5) (InvI x0 (some (.frz (.int z))) S.d (0 + 16)) (inner S (by omega) _ _) [x0, some (.frz (.int z)), some p', some (.frz S.d), x4, x5, x6, x7, x8, x9] ⟨p', _, _, _, _, _, _, rfl, by simpa using hp'⟩
  have hr : mrange1 [.int 5] = some (rangeD 0 5) := mrange1_ok (j := 5) (by decide) (by decide)
  exact outer_run x0 z j _ _ _ _ _ _ _ _ _ _ _ _ _ _ _ p p' q _ e0 e1 hr e3
theorem law_true (ns : List Int) (hl : ns.length ≤ 63) (hb : ∀ z ∈ ns, Builtin.Int.intBits z ≤ 1048576) : ∃ fs, f_law_K04 [.frz (.lst (ns.map .int))] = .ok (.frz (.bl true)) fs := by
  obtain ⟨ρ', e, x1, x2, x3, x4, x5, x6, x7, x8, x9, rfl⟩ := sloop_inv (body := b_law_K04_3) (tg := gset 1) (ns.map .int ++ [.int 1000000000000000004]) (InvO (some (.frz (.lst (ns.map .int))))) (fun j d ρ hd I => by
    have : ∃ z, d = .int z := by
      rcases List.mem_append.1 (List.mem_of_getElem? hd) with h | h
      · obtain ⟨z, _, rfl⟩ := List.mem_map.1 h; exact ⟨z, rfl⟩
      · exact ⟨_, List.mem_singleton.1 h⟩
    obtain ⟨z, rfl⟩ := this
    exact outer _ z j ρ I) [some (.frz (.lst (ns.map .int))), none, none, none, none, none, none, none, none, none] ⟨_, _, _, _, _, _, _, _, _, rfl⟩
  have hf : ∀ x : D, fit (ns.length + 1) x = some x := fun x => fit_small (by omega)
  refine ⟨[.frz (.lst (ns.map .int))], ?_⟩
  simp [f_law_K04, m_law_K04, runFn, hf, fit_small, e]
end K04

namespace Rn
open PySem PySem.Spec L2 Z
/-! ## ascending cards -/
theorem clt_trans {a b c : Cd} (h : clt a b) (h2 : clt b c) : clt a c := by
  unfold clt at *
  omega
theorem clt_irr {a b : Cd} (h : clt a b) (h2 : clt b a) : False := by
  unfold clt at *
  omega
theorem clt_ne {a b : Cd} (h : clt a b) : a ≠ b := fun z => by subst z; exact clt_irr h h
theorem asc_nodup {l : List Cd} (h : l.Pairwise clt) : l.Nodup := h.imp fun {a b} h => clt_ne h
theorem lexB_clt {a b : Cd} : SrtO.lexB a b = true ↔ clt a b := SrtO.lexB_iff
theorem asc_uniq {l m : List Cd} (h : l.Perm m) (h1 : l.Pairwise clt) (h2 : m.Pairwise clt) : l = m :=
  List.Perm.eq_of_pairwise (le := clt) (fun a b _ _ x y => (clt_irr x y).elim) h1 h2 h
theorem isort_asc {l : List Cd} (h : l.Nodup) : (isort SrtO.lexB l).Pairwise clt := by
  have hs : (isort SrtO.lexB l).Pairwise fun a b => SrtO.lexB b a = false := isort_srtd swo_pairs l
  have hn : (isort SrtO.lexB l).Nodup := (isort_stb swo_pairs l).perm.nodup_iff.2 h
  refine List.Pairwise.imp₂ (fun a b h1 h2 => ?_) hs hn
  have h3 : ¬ clt b a := fun z => by rw [lexB_clt.2 z] at h1; cases h1
  unfold clt at *
  by_cases e1 : a.1 = b.1
  · by_cases e2 : a.2 = b.2
    · exact absurd (Prod.ext e1 e2) h2
    · omega
  · omega
theorem isort_perm (l : List Cd) : (isort SrtO.lexB l).Perm l := (isort_stb swo_pairs l).perm
theorem isort_eq {l m : List Cd} (h : l.Perm m) (h2 : m.Pairwise clt) : isort SrtO.lexB l = m :=
  asc_uniq ((isort_perm l).trans h) (isort_asc (h.nodup_iff.2 (asc_nodup h2))) h2
theorem play_sublist (S : Su) {hand : List Cd} {led best : Cd} (hb : teq S.t best.1 = true ∨ best.1 = led.1) : (S.play hand led best).Sublist hand := by
  rw [S.play_due hand hb]
  exact List.filter_sublist
theorem play_ne (S : Su) {hand : List Cd} {led best : Cd} (h : hand ≠ []) : S.play hand led best ≠ [] := by
  unfold Su.play
  split
  · unfold Su.left
    split
    · split
      · exact h
      · assumption
    · assumption
  · assumption
/-! ## the place that is told -/
theorem placed_S (S : Su) {c : Cd} {r : List Cd} (h : ∀ x ∈ c :: r, S.has x = true) (hl : ((c :: r).length : Int) ≤ S.ps) (h2 : 2 ≤ (c :: r).length) (hn : (c :: r).Nodup) : f_law_placed [.frz S.d, .frz (.lst ((c :: r).map cardD))] = .ok (.frz (.int (S.best (c :: r) : Nat))) [.frz S.d, .frz (.lst ((c :: r).map cardD))] := by
  have e := best_place_S S h hl hn
  have h4 := S.ok.p4
  generalize S.best (c :: r) = j at e ⊢
  have z2 : 2 ≤ sizeLine := by rw [sizeLine_eq]; omega
  have z3 : 3 ≤ sizeLine := by rw [sizeLine_eq]; omega
  have z4 : 4 ≤ sizeLine := by rw [sizeLine_eq]; omega
  have i0 : ∀ (x : D) (l : List D), gix (.lst (x :: l)) (.int 0) = some x := fun x l => atI_nat (j := 0) rfl
  have i1 : ∀ (x y : D) (l : List D), gix (.lst (x :: y :: l)) (.int 1) = some y := fun x y l => atI_nat (j := 1) rfl
  have i2 : ∀ (x y z : D) (l : List D), gix (.lst (x :: y :: z :: l)) (.int 2) = some z := fun x y z l => atI_nat (j := 2) rfl
  have i3 : ∀ (x y z u : D) (l : List D), gix (.lst (x :: y :: z :: u :: l)) (.int 3) = some u := fun x y z u l => atI_nat (j := 3) rfl
  match r, e, hl, h2 with
  | [], e, _, h2 => simp at h2
  | [a], e, _, _ =>
    simp at e
    simp [f_law_placed, m_law_placed, runFn, i0, i1, z2, e]
  | [a, b], e, _, _ =>
    simp at e
    simp [f_law_placed, m_law_placed, runFn, i0, i1, i2, z3, e]
  | [a, b, d], e, _, _ =>
    simp at e
    simp [f_law_placed, m_law_placed, runFn, i0, i1, i2, i3, z4, e]
  | a :: b :: d :: f :: r, _, hl, _ =>
    simp at hl
    omega
/-! ## what goes ahead -/
theorem late_run (S : Su) {one other led best : Cd} {w : D} {j : Int} (hw : f_law_winner [.frz S.t, .frz w] = .ok (.frz (.int j)) [.frz S.t, .frz w]) (g0 : gix w (.int 0) = some (cardD led)) (gj : gix w (.int j) = some (cardD best))
    (k1 : S.has one = true) (k2 : S.has other = true) (k3 : S.has best = true) :
    f_law_late [.frz S.d, .frz (cardD one), .frz w, .frz (cardD other)] = .ok (.frz (.bl (S.ahead one other led best))) [.frz S.d, .frz (cardD one), .frz w, .frz (cardD other)] := by
  have b1 := beats_S S k1 k3
  have b2 := beats_S S k2 k3
  by_cases h1 : one.1 = led.1
  · cases h2 : S.hd
    · simp [f_law_late, m_law_late, runFn, hw, g0, gj, h1, h2, Su.ahead]
    · cases h3 : S.bt one best
      · cases h4 : S.bt other best
        · cases h5 : S.rf <;> simp [f_law_late, m_law_late, runFn, hw, g0, gj, b1, b2, h1, h2, h3, h4, h5, Su.ahead]
        · cases h5 : S.rf <;> simp [f_law_late, m_law_late, runFn, hw, g0, gj, b1, b2, h1, h2, h3, h4, h5, Su.ahead]
      · cases h5 : S.rf <;> simp [f_law_late, m_law_late, runFn, hw, g0, gj, b1, b2, h1, h2, h3, h5, Su.ahead]
  · by_cases h6 : other.1 = led.1
    · simp [f_law_late, m_law_late, runFn, hw, g0, gj, h1, h6, Su.ahead]
    · cases h5 : S.rf
      · cases h2 : S.hd
        · simp [f_law_late, m_law_late, runFn, hw, g0, gj, h1, h2, h5, h6, Su.ahead]
        · cases h3 : S.bt one best <;> cases h4 : S.bt other best <;> simp [f_law_late, m_law_late, runFn, hw, g0, gj, b1, b2, h1, h2, h3, h4, h5, h6, Su.ahead]
      · cases h7 : teq S.t one.1 <;> cases h8 : teq S.t other.1
        · cases h2 : S.hd
          · simp [f_law_late, m_law_late, runFn, hw, g0, gj, h1, h2, h5, h6, h7, h8, Su.ahead]
          · cases h3 : S.bt one best <;> cases h4 : S.bt other best <;> simp [f_law_late, m_law_late, runFn, hw, g0, gj, b1, b2, h1, h2, h3, h4, h5, h6, h7, h8, Su.ahead]
        · simp [f_law_late, m_law_late, runFn, hw, g0, gj, h1, h5, h6, h7, h8, Su.ahead]
        · cases h2 : S.hd
          · simp [f_law_late, m_law_late, runFn, hw, g0, gj, h1, h2, h5, h6, h7, h8, Su.ahead]
          · cases h3 : S.bt one best <;> cases h4 : S.bt other best <;> simp [f_law_late, m_law_late, runFn, hw, g0, gj, b1, b2, h1, h2, h3, h4, h5, h6, h7, h8, Su.ahead]
        · cases h2 : S.hd
          · simp [f_law_late, m_law_late, runFn, hw, g0, gj, h1, h2, h5, h6, h7, h8, Su.ahead]
          · cases h3 : S.bt one best <;> cases h4 : S.bt other best <;> simp [f_law_late, m_law_late, runFn, hw, g0, gj, b1, b2, h1, h2, h3, h4, h5, h6, h7, h8, Su.ahead]
end Rn

namespace Rn
open PySem PySem.Spec L2 Z
theorem turn_run0 {p p' : O} {gm c : D} {ds : List D} {r : Int} (al : f_allowed [.frz gm, .frz (.tup ds), .frz .non, .frz .non] = .ok (.lst (ds.map .frz)) [.frz gm, .frz (.tup ds), .frz .non, .frz .non])
    (g1 : geq (.lst ds) (.lst ds) = some (.bl true)) (g2 : gne (.lst ds) (.lst []) = some (.bl true)) (g3 : geq (.lst []) (.lst []) = some (.bl true))
    (eo : f_law_out [p, .frz (.int ds.length)] = .ok (.frz (.int r)) [p', .frz (.int ds.length)]) (gi : gix (.lst ds) (.int r) = some c) :
    f_law_turn [p, .frz gm, .frz (.lst ds), .frz (.lst [])] = .ok (.frz c) [p', .frz gm, .frz (.lst ds), .frz (.lst [])] := by
  simp [f_law_turn, m_law_turn, runFn, al, g1, g2, g3, eo, gi, fit_small, pick, -List.map_map]
theorem turn_run1 {p p' : O} {gm c b ld t : D} {ds ts P : List D} {r j : Int} {y6 y7 y8 : Option O} (gt : geq (.lst ts) (.lst []) = some (.bl false)) (g3 : gix gm (.int 3) = some t)
    (hw : f_law_winner [.frz t, .frz (.lst ts)] = .ok (.frz (.int j)) [.frz t, .frz (.lst ts)]) (gj : gix (.lst ts) (.int j) = some b) (g0 : gix (.lst ts) (.int 0) = some ld)
    (al : f_allowed [.frz gm, .frz (.tup ds), .frz ld, .frz b] = .ok (.lst (P.map .frz)) [.frz gm, .frz (.tup ds), .frz ld, .frz b])
    (gP : geq (.lst P) (.lst []) = some (.bl false)) (gS : gsorted [.lst P] = some (.lst P)) (gN : gne (.lst P) (.lst P) = some (.bl false)) (gE : gne (.lst []) (.lst []) = some (.bl false))
    (c0 : c_law_turn_0 [some p, some (.frz gm), some (.frz (.lst ds)), some (.frz (.lst ts)), some (.frz (.lst P)), some (.frz b), none, none, none] = .ok (.lst []) [some p, some (.frz gm), some (.frz (.lst ds)), some (.frz (.lst ts)), some (.frz (.lst P)), some (.frz b), none, none, none])
    (lp : sloop b_law_turn_2 (gset 6) ds [some p, some (.frz gm), some (.frz (.lst ds)), some (.frz (.lst ts)), some (.frz (.lst P)), some (.frz b), none, none, none] = .nxt [some p, some (.frz gm), some (.frz (.lst ds)), some (.frz (.lst ts)), some (.frz (.lst P)), some (.frz b), y6, y7, y8])
    (eo : f_law_out [p, .frz (.int P.length)] = .ok (.frz (.int r)) [p', .frz (.int P.length)]) (gi : gix (.lst P) (.int r) = some c) :
    f_law_turn [p, .frz gm, .frz (.lst ds), .frz (.lst ts)] = .ok (.frz c) [p', .frz gm, .frz (.lst ds), .frz (.lst ts)] := by
  simp [f_law_turn, m_law_turn, runFn, gt, g3, hw, gj, g0, al, gP, gS, gN, gE, c0, lp, eo, gi, fit_small, pick, -List.map_map]
theorem turn_0 (S : Su) {k : Nat} {p : O} (hp : Pot k p) (hk : k ≤ 900) {H : List Cd} (h0 : H ≠ []) (hm : ∀ c ∈ H, c ∈ S.A) (ha : H.Pairwise clt) (hl : H.length ≤ 32) : ∃ p' c, c ∈ H ∧ f_law_turn [p, .frz S.d, .frz (.lst (H.map cardD)), .frz (.lst [])] = .ok (.frz (cardD c)) [p', .frz S.d, .frz (.lst (H.map cardD)), .frz (.lst [])] ∧ Pot (k + 1) p' := by
  have hc : ∀ c ∈ H, CB c := fun c h => S.A_cb c (hm _ h)
  have hA := S.A_len
  have hl0 : 0 < H.length := List.length_pos_iff.2 h0
  obtain ⟨r, p', eo, r0, rn, hp'⟩ := lo _ _ H.length hp (by omega) (by omega) (by omega)
  have hok : S.okF none H = true := okF_of (fun c hc => S.mem_has (hm _ hc)) ha (fun q z => by cases z)
  refine ⟨p', H[r.toNat]'(by omega), List.getElem_mem _, turn_run0 (allowed_0 S hok) ?_ ?_ ?_ (by rw [List.length_map]; exact eo) ?_, hp'⟩
  · rw [geq_cards hc hc]; simp
  · rw [gne_of (geq_cards0 hc)]; simp [h0]
  · exact geq_cards0 (l := []) (fun _ z => by cases z)
  · rw [gix_lst_lt r0 (by rw [List.length_map]; omega), List.getElem_map]
theorem gne_bl (a : Bool) : gne (.bl a) (.bl a) = some (.bl false) := by cases a <;> rfl
theorem gin_card_lst {l : List Cd} {c : Cd} (hl : ∀ c ∈ l, CB c) (hc : CB c) : gin (cardD c) (.lst (l.map cardD)) = some (.bl (decide (c ∈ l))) := gin_cardsL hl hc
theorem turn_1 (S : Su) {k : Nat} {p : O} (hp : Pot k p) (hk : k ≤ 900) {H : List Cd} (h0 : H ≠ []) (hm : ∀ c ∈ H, c ∈ S.A) (ha : H.Pairwise clt) (hl : H.length ≤ 32) {led : Cd} {T : List Cd} (hT : ∀ c ∈ led :: T, c ∈ S.A) (hTl : (led :: T).length ≤ 32) :
    ∃ p' c, c ∈ H ∧ f_law_turn [p, .frz S.d, .frz (.lst (H.map cardD)), .frz (.lst ((led :: T).map cardD))] = .ok (.frz (cardD c)) [p', .frz S.d, .frz (.lst (H.map cardD)), .frz (.lst ((led :: T).map cardD))] ∧ Pot (k + 1) p' := by
  have hc : ∀ c ∈ H, CB c := fun c h => S.A_cb c (hm _ h)
  have hA := S.A_len
  have hok : S.okF none H = true := okF_of (fun c hc => S.mem_has (hm _ hc)) ha (fun q z => by cases z)
  have hcT : ∀ c ∈ led :: T, CB c := fun c hc => S.A_cb c (hT c hc)
  have hw := winner_S S hcT (by omega)
  have gj := gix_win S hcT
  have g0 : gix (.lst ((led :: T).map cardD)) (.int 0) = some (cardD led) := by
    rw [gix_lst_lt (by omega) (by simp)]
    rfl
  have hb := S.win_suit (led := led) (r := T)
  have wm := S.mem_has (hT _ (S.win_mem (led := led) (r := T)))
  have lh := S.mem_has (hT led List.mem_cons_self)
  have gt : geq (.lst ((led :: T).map cardD)) (.lst []) = some (.bl false) := by rw [geq_cards0 hcT]; simp
  have al := allowed_S S hok hc (by omega) lh wm
  have hPs := play_sublist S (hand := H) hb
  have hPn := play_ne S (hand := H) (led := led) (best := S.win (led :: T) led) h0
  have hdue := S.play_due H hb
  have late := fun one other (h1 : one ∈ H) (h2 : other ∈ H) => late_run S (one := one) (other := other) hw g0 gj (S.mem_has (hm _ h1)) (S.mem_has (hm _ h2)) wm
  generalize S.win (led :: T) led = best at *
  generalize hPe : S.play H led best = P at *
  generalize (led :: T).map cardD = ts at *
  have hPc : ∀ c ∈ P, CB c := fun c h => hc c (hPs.mem h)
  have hPl := hPs.length_le
  have hPl0 : 0 < P.length := List.length_pos_iff.2 hPn
  obtain ⟨r, p', eo, r0, rn, hp'⟩ := lo _ _ P.length hp (by omega) (by omega) (by omega)
  have c0 : c_law_turn_0 [some p, some (.frz S.d), some (.frz (.lst (H.map cardD))), some (.frz (.lst ts)), some (.frz (.lst (P.map cardD))), some (.frz (cardD best)), none, none, none] = .ok (.lst []) [some p, some (.frz S.d), some (.frz (.lst (H.map cardD))), some (.frz (.lst ts)), some (.frz (.lst (P.map cardD))), some (.frz (cardD best)), none, none, none] := by
    unfold c_law_turn_0
    have h := mlc_here cardD P (fun _ => false) cardD (vs := [6]) (im := mseq (mvar 4)) (g := gset 6) (mt := mtest (mop gnin (mvar 6) (mvar 2))) (me := mvar 6)
      (ρ := [some p, some (.frz S.d), some (.frz (.lst (H.map cardD))), some (.frz (.lst ts)), some (.frz (.lst (P.map cardD))), some (.frz (cardD best)), none, none, none]) (by simp) rfl
      (fun c h => by
        have g := gnin_cardsL hc (hPc c h)
        rw [decide_eq_true (hPs.mem h)] at g
        simp [lcStp, wipeE, g]) (by rw [sizeLine_eq]; omega)
    rw [show P.filter (fun _ => false) = [] from List.filter_eq_nil_iff.2 fun _ _ z => by cases z] at h
    exact h
  have i1 : ∀ (one : Cd) (x7 x8 : Option O), one ∈ H → c_law_turn_1 [some p, some (.frz S.d), some (.frz (.lst (H.map cardD))), some (.frz (.lst ts)), some (.frz (.lst (P.map cardD))), some (.frz (cardD best)), some (.frz (cardD one)), x7, x8] =
      .ok (.lst (((H.filter (fun other => S.ahead one other led best)).map cardD).map .frz)) [some p, some (.frz S.d), some (.frz (.lst (H.map cardD))), some (.frz (.lst ts)), some (.frz (.lst (P.map cardD))), some (.frz (cardD best)), some (.frz (cardD one)), x7, none] := by
    intro one x7 x8 h1
    unfold c_law_turn_1
    exact mlc_here cardD H (fun other => S.ahead one other led best) cardD (by simp) rfl (fun c h2 => by
      have e := late one c h1 h2
      cases q : S.ahead one c led best <;> simp [q] at e <;> simp [lcStp, wipeE, e]) (by rw [sizeLine_eq]; omega)
  obtain ⟨ρ', lp, y6, y7, y8, rfl⟩ := sloop_inv (body := b_law_turn_2) (tg := gset 6) (H.map cardD) (fun _ ρ => ∃ x6 x7 x8, ρ = [some p, some (.frz S.d), some (.frz (.lst (H.map cardD))), some (.frz (.lst ts)), some (.frz (.lst (P.map cardD))), some (.frz (cardD best)), x6, x7, x8])
    (fun j d ρ hd ⟨x6, x7, x8, hρ⟩ => by
      subst hρ
      rw [List.getElem?_map] at hd
      obtain ⟨one, h1, rfl⟩ := Option.map_eq_some_iff.1 hd
      have h1 := List.mem_of_getElem? h1
      have i := i1 one x7 x8 h1
      have hcF : ∀ c ∈ H.filter (fun other => S.ahead one other led best), CB c := fun c h => hc c (List.mem_filter.1 h).1
      have g1 := geq_cards0 hcF
      have g2 := gin_card_lst hPc (hc one h1)
      have key : decide (H.filter (fun other => S.ahead one other led best) = []) = decide (one ∈ P) := by
        rw [hdue]
        unfold Su.due
        by_cases q : H.filter (fun other => S.ahead one other led best) = []
        · rw [decide_eq_true q]
          symm
          rw [decide_eq_true_eq]
          exact List.mem_filter.2 ⟨h1, decide_eq_true q⟩
        · rw [decide_eq_false q]
          symm
          rw [decide_eq_false_iff_not]
          intro z
          exact q (of_decide_eq_true (List.mem_filter.1 z).2)
      rw [key] at g1
      have g3 := gne_bl (decide (one ∈ P))
      generalize H.filter (fun other => S.ahead one other led best) = F at *
      generalize decide (one ∈ P) = bb at *
      simp [stepOk, b_law_turn_2, i, g1, g2, g3, fit_small, -List.map_map]) [some p, some (.frz S.d), some (.frz (.lst (H.map cardD))), some (.frz (.lst ts)), some (.frz (.lst (P.map cardD))), some (.frz (cardD best)), none, none, none] ⟨_, _, _, rfl⟩
  have gS : gsorted [.lst (P.map cardD)] = some (.lst (P.map cardD)) := by
    rw [gsorted_cards, isort_eq (List.Perm.refl P) (ha.sublist hPs)]
  refine ⟨p', P[r.toNat]'(by omega), hPs.mem (List.getElem_mem _), turn_run1 gt S.g3 hw gj g0 al ?_ gS ?_ ?_ c0 lp (by rw [List.length_map]; exact eo) ?_, hp'⟩
  · rw [geq_cards0 hPc]; simp [hPn]
  · rw [gne_of (geq_cards hPc hPc)]; simp
  · exact gne_of (geq_cards0 (l := []) (fun _ z => by cases z))
  · rw [gix_lst_lt r0 (by rw [List.length_map]; omega), List.getElem_map]
end Rn

namespace Rn
open PySem PySem.Spec L2 Z
abbrev oH (Hs : List (List Cd)) : O := .lst (Hs.map oC)
theorem lfo_oC (l : List Cd) : lfo (oC l) = true := lfo_cards l
theorem lfos_oC : ∀ Hs : List (List Cd), lfos (Hs.map oC) = true
  | [] => rfl
  | H :: Hs => by rw [List.map_cons, lfos_cons, lfo_oC, lfos_oC Hs]; rfl
theorem toDs_oC : ∀ Hs : List (List Cd), O.toDs (Hs.map oC) = Hs.map fun H => .lst (H.map cardD)
  | [] => rfl
  | H :: Hs => by
    show (oC H).toD :: O.toDs (Hs.map oC) = _
    rw [toD_oC, toDs_oC Hs]; rfl
/-! ## where a card stands, lists in lists -/
theorem findIdx_cards (c : Cd) : ∀ l : List Cd, c ∈ l → (l.map cardP).findIdx? (fun y => PyData.eqv y (cardP c)) = some (l.idxOf c)
  | [], h => by cases h
  | a :: l, h => by
    rw [List.map_cons, List.findIdx?_cons, eqv_cards]
    by_cases e : a = c
    · subst e
      simp
    · have hl : c ∈ l := by
        rcases List.mem_cons.1 h with z | z
        · exact absurd z.symm e
        · exact z
      have e3 : (a == c) = false := by simpa using e
      rw [decide_eq_false e, findIdx_cards c l hl, List.idxOf_cons, e3]
      rfl
theorem gplace_cards {l : List Cd} {c : Cd} (h : ∀ c ∈ l, CB c) (hc : c ∈ l) : gplace (l.map cardD) (cardD c) = some (l.idxOf c) := by
  unfold gplace
  rw [(gdl h).lst.pyOk (by decide), ((h c hc).gd 0).pyOk (by decide)]
  exact findIdx_cards c l hc
theorem flat_perm {m : Nat} {H : List Cd} {c : Cd} : ∀ {Hs : List (List Cd)} {q : Nat}, Hs[q]? = some H → H[m]? = some c → (c :: (Hs.set q (H.eraseIdx m)).flatten).Perm Hs.flatten
  | [], q, e, _ => by simp at e
  | A :: Hs, 0, e, e2 => by
    have e : A = H := by simpa using e
    subst e
    obtain ⟨hm, rfl⟩ := List.getElem?_eq_some_iff.1 e2
    show (A[m] :: ((A.eraseIdx m) ++ Hs.flatten)).Perm (A ++ Hs.flatten)
    exact (getElem_eraseIdx_perm A m hm).append_right Hs.flatten
  | A :: Hs, q + 1, e, e2 => by
    have ih := flat_perm (Hs := Hs) (q := q) (H := H) (m := m) (c := c) (by simpa using e) e2
    show (c :: (A ++ (Hs.set q (H.eraseIdx m)).flatten)).Perm (A ++ Hs.flatten)
    refine List.Perm.trans ?_ (List.Perm.append_left A ih)
    exact (List.perm_middle (a := c) (l₁ := A) (l₂ := (Hs.set q (H.eraseIdx m)).flatten)).symm
/-! ## dealing -/
def Inv70 (A : List Cd) (k : Nat) (g x3 x4 : Option O) (j : Nat) (acc : List D) (ρ : Z.Env) : Prop := ∃ p T L, ρ = [some p, g, some (oC L), x3, x4, none, none, none, none, none] ∧ acc = T.map cardD ∧ Drawn A j T L ∧ Pot (k + j) p
theorem st7_0 {I : List D → Z.Env → Prop} {acc : List D} {d c : D} {q q2 : O} {L L2 : List D} {x1 x3 x4 : Option O} {r : Int} (e : f_law_out [q, .frz (.int L.length)] = .ok (.frz (.int r)) [q2, .frz (.int L.length)])
    (hp : kpop 2 (.int r) [some q2, x1, some (.lst (L.map .frz)), x3, x4, none, none, none, some (.frz d), none] = .ok c [some q2, x1, some (.lst (L2.map .frz)), x3, x4, none, none, none, some (.frz d), none])
    (h : I (acc ++ [c]) [some q2, x1, some (.lst (L2.map .frz)), x3, x4, none, none, none, none, none]) :
    lcStI [8] (gset 8) (mret true) (mpop 2 (mfz (mcallN 2 f_law_out (maI 0 (maE (mcbo glen 2) (mret [])))))) d I acc [some q, x1, some (.lst (L.map .frz)), x3, x4, none, none, none, none, none] := by
  simp [lcStI, e, hp, wipeE]
  exact h
theorem right7_0 {S : Su} {k e : Nat} {p : O} {A : List Cd} (x3 x4 : Option O) (hp : Pot k p) (hk : k ≤ 900) (he : S.es = (e : Int)) (hm : e ≤ A.length) (hA : A.length ≤ 32) : ∃ p' T L, c_law_right_3_0 [some p, some (.frz S.d), some (oC A), x3, x4, none, none, none, none, none] =
    .ok (oC T) [some p', some (.frz S.d), some (oC L), x3, x4, none, none, none, none, none] ∧ Drawn A e T L ∧ Pot (k + e) p' := by
  have hr := mrange1_ok (j := (e : Int)) (by omega) (by omega)
  simp only [Int.toNat_natCast] at hr
  have g2 : gix S.d (.int 2) = some (.int (e : Int)) := by rw [S.g2, he]
  obtain ⟨acc, ρ', e, p', T, L, rfl, rfl, hd, hp'⟩ := mlc_invh (vs := [8]) (im := mrng1 (mcons (mop gix (mvar 1) (mret (.int 2))) (mret []))) (g := gset 8) (mt := mret true) (me := mpop 2 (mfz (mcallN 2 f_law_out (maI 0 (maE (mcbo glen 2) (mret []))))))
    (ρ := [some p, some (.frz S.d), some (oC A), x3, x4, none, none, none, none, none]) (ds := rangeD 0 e) (Inv70 A k (some (.frz S.d)) x3 x4) (by simp [hr, g2, -Su.g2])
    (fun j d acc ρ hd' ⟨q, T, L, hρ, hacc, hd, hq⟩ => by
      obtain ⟨hj, rfl⟩ := rangeD_get hd'
      subst hρ
      subst hacc
      have hL := hd.len
      obtain ⟨r, q2, e, r0, rn, hq2⟩ := lo _ _ L.length hq (by omega) (by omega) (by omega)
      exact st7_0 (L := L.map cardD) (L2 := (L.eraseIdx r.toNat).map cardD) (by rw [List.length_map]; exact e) (kpop_cards (L := L) (j := r) rfl r0 rn (by omega)) ⟨q2, T ++ [L[r.toNat]'(by omega)], L.eraseIdx r.toNat, rfl, by simp, hd.step (by omega), hq2⟩)
    (by rw [rangeD_len, sizeLine_eq]; omega) ⟨p, [], A, rfl, rfl, Drawn.zero _, hp⟩
  rw [rangeD_len] at hd hp'
  exact ⟨p', T, L, e, hd, hp'⟩
theorem deal_run {I : Z.Env → Prop} {d : D} {p p' : O} {x1 x2 x2' x4 : Option O} {os : List O} {T : List Cd}
    (c0 : c_law_right_3_0 [some p, x1, x2, some (.lst os), some (.frz d), none, none, none, none, none] = .ok (oC T) [some p', x1, x2', some (.lst os), some (.frz d), none, none, none, none, none]) (hl : os.length < sizeLine)
    (h : I [some p', x1, x2', some (.lst (os ++ [oC (isort SrtO.lexB T)])), some (.frz d), none, none, none, none, none]) :
    stepOk b_law_right_3_1 (gset 4) I d [some p, x1, x2, some (.lst os), x4, none, none, none, none, none] := by
  simp [stepOk, b_law_right_3_1, c0, hl, -List.map_map]
  exact h
structure Deal (S : Su) (e k j : Nat) (p : O) (Hs : List (List Cd)) (L : List Cd) : Prop where
  n : Hs.length = j
  h : ∀ H ∈ Hs, H.length = e ∧ H.Pairwise clt
  pm : (Hs.flatten ++ L).Perm S.A
  s : L.Sublist S.A
  q : Pot (k + 8 * j) p
theorem flat_len {e : Nat} : ∀ {Hs : List (List Cd)}, (∀ H ∈ Hs, H.length = e) → Hs.flatten.length = Hs.length * e
  | [], _ => by simp
  | H :: Hs, h => by
    have ih := flat_len (Hs := Hs) fun x hx => h x (List.mem_cons_of_mem _ hx)
    have := h H List.mem_cons_self
    rw [List.flatten_cons, List.length_append, ih, this, List.length_cons, Nat.succ_mul]
    omega
theorem Su.A_nodup (S : Su) : S.A.Nodup := asc_nodup S.A_asc
theorem deal_all (S : Su) {e n k : Nat} {p : O} (hp : Pot k p) (hk : k ≤ 500) (he : S.es = (e : Int)) (hn : S.ps = (n : Int)) : ∃ p' Hs L x4, sloop b_law_right_3_1 (gset 4) (rangeD 0 n) [some p, some (.frz S.d), some (oC S.A), some (oH []), none, none, none, none, none, none] =
    .nxt [some p', some (.frz S.d), some (oC L), some (oH Hs), x4, none, none, none, none, none] ∧ Deal S e k n p' Hs L := by
  have h2 := S.ok.p2
  have h4 := S.ok.p4
  have h1 := S.ok.e1
  have h8 := S.ok.e8
  have hA := S.A_len
  have hm : n * e ≤ S.A.length := by
    have a := S.A_sum
    have b := S.ok.m
    rw [he, hn, ← a] at b
    exact_mod_cast b
  obtain ⟨ρ', lp, p', Hs, L, x4, rfl, hd⟩ := sloop_inv (body := b_law_right_3_1) (tg := gset 4) (rangeD 0 n) (fun j ρ => ∃ p Hs L x4, ρ = [some p, some (.frz S.d), some (oC L), some (oH Hs), x4, none, none, none, none, none] ∧ Deal S e k j p Hs L)
    (fun j d ρ hd' ⟨p, Hs, L, x4, hρ, hd⟩ => by
      subst hρ
      obtain ⟨hj, rfl⟩ := rangeD_get hd'
      have fl := flat_len fun H hH => (hd.h H hH).1
      have hlen := hd.pm.length_eq
      rw [List.length_append, fl, hd.n] at hlen
      have hmul : (j + 1) * e ≤ n * e := Nat.mul_le_mul_right e (by omega)
      rw [Nat.succ_mul] at hmul
      obtain ⟨p', T, L', c0, hT, hp'⟩ := right7_0 (S := S) (A := L) (some (oH Hs)) (some (.frz (.int (0 + (j : Int))))) hd.q (by omega) he (by omega) (by omega)
      have hTn : T.Nodup := by
        have a1 : (Hs.flatten ++ (T ++ L')).Perm S.A := (List.Perm.append_left _ hT.p).trans hd.pm
        have a2 := a1.nodup_iff.2 S.A_nodup
        exact (List.nodup_append.1 (List.nodup_append.1 a2).2.1).1
      refine deal_run c0 (by rw [List.length_map, hd.n, sizeLine_eq]; omega) ⟨p', Hs ++ [isort SrtO.lexB T], L', some (.frz (.int (0 + (j : Int)))), ?_, ?_⟩
      · rw [show oH (Hs ++ [isort SrtO.lexB T]) = .lst (Hs.map oC ++ [oC (isort SrtO.lexB T)]) from by simp [oH, -List.map_map]]
      · refine ⟨by rw [List.length_append, hd.n]; rfl, fun H hH => ?_, ?_, hT.s.trans hd.s, hp'.mono (by omega)⟩
        · rcases List.mem_append.1 hH with z | z
          · exact hd.h H z
          · rw [List.mem_singleton.1 z, isort_len]
            exact ⟨hT.n, isort_asc hTn⟩
        · rw [List.flatten_append, List.flatten_singleton, List.append_assoc]
          exact (List.Perm.append_left _ (((isort_perm T).append_right L').trans hT.p)).trans hd.pm)
    [some p, some (.frz S.d), some (oC S.A), some (oH []), none, none, none, none, none, none] ⟨p, [], S.A, none, rfl, rfl, (fun H h => by cases h), List.Perm.refl _, List.Sublist.refl _, hp⟩
  rw [rangeD_len] at hd
  exact ⟨p', Hs, L, x4, lp, hd⟩
end Rn

namespace Rn
open PySem PySem.Spec L2 Z
/-! ## a turn in the law's own loop -/
theorem play_run {I : Z.Env → Prop} {p p' : O} {gm c : D} {os : List O} {hds ds ts : List D} {pl n : Int} {q m : Nat} {dj dk : D} {x2 x8 x9 : Option O} {G : List D}
    (eT : f_law_turn [p, .frz gm, .frz (.lst ds), .frz (.lst ts)] = .ok (.frz c) [p', .frz gm, .frz (.lst ds), .frz (.lst ts)])
    (hos : O.toDs os = hds) (hlo : lfos os = true) (gi : gix (.lst hds) (.int pl) = some (.lst ds)) (hlt : lfs ts = true) (hlp : lfo p' = true) (hlc : lf c = true) (h2 : slotBor x2 x2) (h9 : slotBor x9 x9)
    (gn : gis c .non = some (.bl false)) (hq : ixN os.length pl = some q) (ho : os[q]? = some (.lst (ds.map .frz))) (gp : gplace ds c = some m) (hl : ts.length < sizeLine) (g1 : gix gm (.int 1) = some (.int n)) (hn : 0 < n)
    (h : I [some p', some (.frz gm), x2, some (.lst (os.set q (.lst ((ds.eraseIdx m).map .frz)))), some (.frz dk), some (.frz (.int ((pl + 1) % n))), some (.frz (.lst G)), some (.lst ((ts ++ [c]).map .frz)), some (.frz dj), some (.frz c)]) :
    stepOk b_law_right_3_2 (gset 8) I dj [some p, some (.frz gm), x2, some (.lst os), some (.frz dk), some (.frz (.int pl)), some (.frz (.lst G)), some (.lst (ts.map .frz)), x8, x9] := by
  rw [List.map_append] at h
  simp [stepOk, b_law_right_3_2, eT, hos, hlo, gi, hlt, hlp, hlc, h2, h9, gn, sremN, kremN, hq, ho, gp, hl, g1, hn, -List.map_map]
  exact h
/-- a trick in the law's own loop -/
theorem trick_run {I : Z.Env → Prop} {p p' : O} {gm t : D} {os os' : List O} {ts G : List D} {pl pl' n j : Int} {dk : D} {x2 x7 x8 x9 y8 y9 : Option O} {m : Nat}
    (hr : mrange1 [.int n] = some (rangeD 0 m)) (g1 : gix gm (.int 1) = some (.int n)) (g3 : gix gm (.int 3) = some t) (hn : 0 < n)
    (lp : sloop b_law_right_3_2 (gset 8) (rangeD 0 m) [some p, some (.frz gm), x2, some (.lst os), some (.frz dk), some (.frz (.int pl)), some (.frz (.lst G)), some (.lst []), x8, x9] =
      .nxt [some p', some (.frz gm), x2, some (.lst os'), some (.frz dk), some (.frz (.int pl')), some (.frz (.lst G)), some (.lst (ts.map .frz)), y8, y9])
    (hlo : lfos os' = true) (hlt : lfs ts = true) (hlp : lfo p' = true) (h2 : slotBor x2 x2) (h8 : slotBor y8 y8) (h9 : slotBor y9 y9)
    (ep : f_law_placed [.frz gm, .frz (.lst ts)] = .ok (.frz (.int j)) [.frz gm, .frz (.lst ts)]) (ew : f_law_winner [.frz t, .frz (.lst ts)] = .ok (.frz (.int j)) [.frz t, .frz (.lst ts)])
    (hlG : lfs G = true) (hl : G.length + ts.length ≤ sizeLine)
    (h : I [some p', some (.frz gm), x2, some (.lst os'), some (.frz dk), some (.frz (.int ((pl' + j) % n))), some (.frz (.lst (G ++ ts))), some (.lst (ts.map .frz)), y8, y9]) :
    stepOk b_law_right_3_3 (gset 4) I dk [some p, some (.frz gm), x2, some (.lst os), x4, some (.frz (.int pl)), some (.frz (.lst G)), x7, x8, x9] := by
  simp [stepOk, b_law_right_3_3, hr, g1, g3, hn, lp, hlo, hlt, hlp, h2, h8, h9, ep, ew, hl, fit_small, hlG, -List.map_map, -List.map_append]
  simpa [-List.map_map] using h
end Rn

namespace Rn
open PySem PySem.Spec L2 Z
/-! ## seats around the table -/
theorem seat_j {n pl j : Nat} (hn : 2 ≤ n) (hn4 : n ≤ 4) (hp : pl < n) (hj : j < n) : ((pl + j) % n + n - pl) % n = j := by
  rcases (by omega : n = 2 ∨ n = 3 ∨ n = 4) with rfl | rfl | rfl <;> omega
theorem seat_ne {n pl j i : Nat} (hn : 2 ≤ n) (hn4 : n ≤ 4) (hp : pl < n) (hj : j < n) (hi : i < n) (h : i ≠ (pl + j) % n) : ((i + n - pl) % n < j + 1 ↔ (i + n - pl) % n < j) := by
  rcases (by omega : n = 2 ∨ n = 3 ∨ n = 4) with rfl | rfl | rfl <;> omega
theorem seat_next {n pl j : Nat} (hn : 2 ≤ n) (hn4 : n ≤ 4) : ((((pl + j) % n : Nat) : Int) + 1) % (n : Int) = (((pl + (j + 1)) % n : Nat) : Int) := by
  rcases (by omega : n = 2 ∨ n = 3 ∨ n = 4) with rfl | rfl | rfl <;> omega
theorem seat_all {n pl i : Nat} (hn : 2 ≤ n) : (i + n - pl) % n < n := Nat.mod_lt _ (by omega)
theorem ixN_nat {n q : Nat} (h : q < n) : ixN n (q : Int) = some q := by
  unfold ixN
  rw [if_pos (by omega), if_pos (by omega)]
  rfl
structure Play (S : Su) (n e t pl k j : Nat) (L G T : List Cd) (Hs : List (List Cd)) (p : O) : Prop where
  hn : Hs.length = n
  h : ∀ i, i < n → ∃ H, Hs[i]? = some H ∧ H.Pairwise clt ∧ H.length = if (i + n - pl) % n < j then e - t - 1 else e - t
  pm : (G ++ (T ++ (Hs.flatten ++ L))).Perm S.A
  l : T.length = j
  q : Pot (k + j) p
theorem erase_len {l : List Cd} {c : Cd} (h : c ∈ l) : (l.eraseIdx (l.idxOf c)).length = l.length - 1 := List.length_eraseIdx_of_lt (List.idxOf_lt_length_of_mem h)
theorem play_step (S : Su) {n e t pl k j : Nat} {L G T : List Cd} {Hs : List (List Cd)} {p : O} {x2 x8 x9 : Option O} {dk : D} {I : Z.Env → Prop} (hI : Play S n e t pl k j L G T Hs p) (hk : k ≤ 800) (hn2 : 2 ≤ n) (hn4 : n ≤ 4) (hps : S.ps = (n : Int)) (hpl : pl < n) (hj : j < n) (ht : t < e)
    (h2 : slotBor x2 x2) (h9 : slotBor x9 x9)
    (h : ∀ p' Hs' c, Play S n e t pl k (j + 1) L G (T ++ [c]) Hs' p' → I [some p', some (.frz S.d), x2, some (oH Hs'), some (.frz dk), some (.frz (.int ((pl + (j + 1)) % n : Nat))), some (.frz (.lst (G.map cardD))), some (oC (T ++ [c])), some (.frz (.int (0 + (j : Int)))), some (.frz (cardD c))]) :
    stepOk b_law_right_3_2 (gset 8) I (.int (0 + (j : Int))) [some p, some (.frz S.d), x2, some (oH Hs), some (.frz dk), some (.frz (.int ((pl + j) % n : Nat))), some (.frz (.lst (G.map cardD))), some (oC T), x8, x9] := by
  have hA := S.A_len
  have hqn : (pl + j) % n < n := Nat.mod_lt _ (by omega)
  obtain ⟨H, hH, hasc, hlen⟩ := hI.h ((pl + j) % n) hqn
  rw [seat_j hn2 hn4 hpl hj, if_neg (by omega)] at hlen
  have memA : ∀ c ∈ T ++ (Hs.flatten ++ L), c ∈ S.A := fun c hc => hI.pm.mem_iff.1 (List.mem_append_right _ hc)
  have hHs : H ∈ Hs := List.mem_of_getElem? hH
  have hm : ∀ c ∈ H, c ∈ S.A := fun c hc => memA c (List.mem_append_right _ (List.mem_append_left _ (List.mem_flatten.2 ⟨H, hHs, hc⟩)))
  have hnd := hI.pm.nodup_iff.2 S.A_nodup
  have hle := hI.pm.length_eq
  have hfl : H.length ≤ Hs.flatten.length := (List.sublist_flatten_of_mem hHs).length_le
  simp only [List.length_append] at hle
  have hne : H ≠ [] := fun z => by rw [z] at hlen; simp at hlen; omega
  obtain ⟨p', c, hc, eT, hp'⟩ : ∃ p' c, c ∈ H ∧ f_law_turn [p, .frz S.d, .frz (.lst (H.map cardD)), .frz (.lst (T.map cardD))] = .ok (.frz (cardD c)) [p', .frz S.d, .frz (.lst (H.map cardD)), .frz (.lst (T.map cardD))] ∧ Pot (k + j + 1) p' := by
    cases T with
    | nil => exact turn_0 S hI.q (by omega) hne hm hasc (by omega)
    | cons led T => exact turn_1 S hI.q (by omega) hne hm hasc (by omega) (fun c hc => memA c (List.mem_append_left _ hc)) (by omega)
  have hcb : ∀ c ∈ H, CB c := fun c hc => S.A_cb c (hm c hc)
  have gp := gplace_cards hcb hc
  have hTl := hI.l
  refine play_run (q := (pl + j) % n) (m := H.idxOf c) (ds := H.map cardD) (ts := T.map cardD) (n := (n : Int)) eT (toDs_oC Hs) (lfos_oC Hs) (atI_nat (by rw [List.getElem?_map, hH]; rfl)) (lfs_cards T) hp'.lf rfl h2 h9 (gis_card c) (by rw [List.length_map, hI.hn]; exact ixN_nat hqn) (by rw [List.getElem?_map, hH]; rfl) gp (by rw [List.length_map, sizeLine_eq]; omega) (by rw [S.g1, hps]) (by omega) ?_
  rw [seat_next hn2 hn4, eraseIdx_map', show O.lst (((H.eraseIdx (H.idxOf c)).map cardD).map .frz) = oC (H.eraseIdx (H.idxOf c)) from rfl, ← List.map_set, show T.map cardD ++ [cardD c] = (T ++ [c]).map cardD from by simp]
  refine h p' (Hs.set ((pl + j) % n) (H.eraseIdx (H.idxOf c))) c ⟨by rw [List.length_set]; exact hI.hn, fun i hi => ?_, ?_, by rw [List.length_append, hI.l]; rfl, hp'⟩
  · by_cases e : i = (pl + j) % n
    · subst e
      refine ⟨H.eraseIdx (H.idxOf c), by rw [List.getElem?_set_self (by rw [hI.hn]; exact hqn)], hasc.sublist (List.eraseIdx_sublist _ _), ?_⟩
      rw [seat_j hn2 hn4 hpl hj, if_pos (by omega), erase_len hc, hlen]
    · obtain ⟨H', a, b, d⟩ := hI.h i hi
      refine ⟨H', by rw [List.getElem?_set_ne (fun z => e z.symm)]; exact a, b, ?_⟩
      rw [d]
      by_cases z : (i + n - pl) % n < j
      · rw [if_pos z, if_pos ((seat_ne hn2 hn4 hpl hj hi e).2 z)]
      · rw [if_neg z, if_neg (fun y => z ((seat_ne hn2 hn4 hpl hj hi e).1 y))]
  · have hcm : H[H.idxOf c]? = some c := by
      rw [List.getElem?_eq_getElem (List.idxOf_lt_length_of_mem hc)]
      simp
    have f := flat_perm hH hcm
    refine List.Perm.trans (List.Perm.append_left G ?_) hI.pm
    rw [List.append_assoc]
    refine List.Perm.append_left T ?_
    show (c :: ((Hs.set ((pl + j) % n) (H.eraseIdx (H.idxOf c))).flatten ++ L)).Perm (Hs.flatten ++ L)
    exact f.append_right L
/-- all turns of a trick -/
theorem play_all (S : Su) {n e t pl k : Nat} {L G : List Cd} {Hs : List (List Cd)} {p : O} {x2 x8 x9 : Option O} {dk : D} (hI : Play S n e t pl k 0 L G [] Hs p) (hk : k ≤ 800) (hn2 : 2 ≤ n) (hn4 : n ≤ 4) (hps : S.ps = (n : Int)) (hpl : pl < n) (ht : t < e)
    (h2 : slotBor x2 x2) (h8 : slotBor x8 x8) (h9 : slotBor x9 x9) : ∃ p' Hs' T y8 y9, sloop b_law_right_3_2 (gset 8) (rangeD 0 n) [some p, some (.frz S.d), x2, some (oH Hs), some (.frz dk), some (.frz (.int (pl : Nat))), some (.frz (.lst (G.map cardD))), some (oC []), x8, x9] =
      .nxt [some p', some (.frz S.d), x2, some (oH Hs'), some (.frz dk), some (.frz (.int (pl : Nat))), some (.frz (.lst (G.map cardD))), some (oC T), y8, y9] ∧ Play S n e t pl k n L G T Hs' p' ∧ slotBor y8 y8 ∧ slotBor y9 y9 := by
  obtain ⟨ρ', lp, p', Hs', T, y8, y9, rfl, hP, h8', h9'⟩ := sloop_inv (body := b_law_right_3_2) (tg := gset 8) (rangeD 0 n) (fun j ρ => ∃ p Hs T x8 x9, ρ = [some p, some (.frz S.d), x2, some (oH Hs), some (.frz dk), some (.frz (.int ((pl + j) % n : Nat))), some (.frz (.lst (G.map cardD))), some (oC T), x8, x9] ∧ Play S n e t pl k j L G T Hs p ∧ slotBor x8 x8 ∧ slotBor x9 x9)
    (fun j d ρ hd ⟨p, Hs, T, x8, x9, hρ, hP, h8, h9⟩ => by
      subst hρ
      obtain ⟨hj, rfl⟩ := rangeD_get hd
      exact play_step S hP hk hn2 hn4 hps hpl hj ht h2 h9 fun p' Hs' c h => ⟨p', Hs', T ++ [c], _, _, rfl, h, slotBor_frz.2 trivial, slotBor_frz.2 trivial⟩)
    [some p, some (.frz S.d), x2, some (oH Hs), some (.frz dk), some (.frz (.int ((pl + 0) % n : Nat))), some (.frz (.lst (G.map cardD))), some (oC []), x8, x9] ⟨p, Hs, [], x8, x9, rfl, hI, h8, h9⟩
  rw [rangeD_len] at hP lp
  rw [show (pl + 0) % n = pl from Nat.mod_eq_of_lt hpl, show (pl + n) % n = pl from by rw [Nat.add_mod_right]; exact Nat.mod_eq_of_lt hpl] at lp
  exact ⟨p', Hs', T, y8, y9, lp, hP, h8', h9'⟩
/-! ## tricks -/
structure Rest (S : Su) (n e t k : Nat) (L G : List Cd) (Hs : List (List Cd)) (p : O) : Prop where
  hn : Hs.length = n
  h : ∀ i, i < n → ∃ H, Hs[i]? = some H ∧ H.Pairwise clt ∧ H.length = e - t
  pm : (G ++ (Hs.flatten ++ L)).Perm S.A
  l : G.length = n * t
  q : Pot (k + 4 * t) p
theorem trick_step (S : Su) {n e t pl k : Nat} {L G : List Cd} {Hs : List (List Cd)} {p : O} {x2 x4 x7 x8 x9 : Option O} {I : Z.Env → Prop} (hI : Rest S n e t k L G Hs p) (hk : k ≤ 600) (hn2 : 2 ≤ n) (hn4 : n ≤ 4) (hps : S.ps = (n : Int)) (hpl : pl < n) (ht : t < e) (he : e ≤ 8)
    (h2 : slotBor x2 x2) (h8 : slotBor x8 x8) (h9 : slotBor x9 x9)
    (h : ∀ p' Hs' (T : List Cd) (pl' : Nat) y7 y8 y9, Rest S n e (t + 1) k L (G ++ T) Hs' p' → pl' < n → slotBor y8 y8 → slotBor y9 y9 → I [some p', some (.frz S.d), x2, some (oH Hs'), some (.frz (.int (0 + (t : Int)))), some (.frz (.int (pl' : Nat))), some (.frz (.lst ((G ++ T).map cardD))), y7, y8, y9]) :
    stepOk b_law_right_3_3 (gset 4) I (.int (0 + (t : Int))) [some p, some (.frz S.d), x2, some (oH Hs), x4, some (.frz (.int (pl : Nat))), some (.frz (.lst (G.map cardD))), x7, x8, x9] := by
  have hA := S.A_len
  have hP0 : Play S n e t pl (k + 4 * t) 0 L G [] Hs p := ⟨hI.hn, fun i hi => by
    obtain ⟨H, a, b, c⟩ := hI.h i hi
    exact ⟨H, a, b, by rw [if_neg (by omega)]; exact c⟩, hI.pm, rfl, hI.q⟩
  obtain ⟨p', Hs', T, y8, y9, lp, hP, h8', h9'⟩ := play_all S (dk := .int (0 + (t : Int))) hP0 (by omega) hn2 hn4 hps hpl ht h2 h8 h9
  have hTl := hP.l
  obtain ⟨led, T', rfl⟩ : ∃ led T', T = led :: T' := by
    cases T with
    | nil => simp at hTl; omega
    | cons a r => exact ⟨a, r, rfl⟩
  have hT : ∀ x ∈ led :: T', x ∈ S.A := fun x hx => hP.pm.mem_iff.1 (List.mem_append_right _ (List.mem_append_left _ hx))
  have hG : ∀ x ∈ G, x ∈ S.A := fun x hx => hP.pm.mem_iff.1 (List.mem_append_left _ hx)
  have hnd : (led :: T').Nodup := (List.nodup_append.1 (List.nodup_append.1 (hP.pm.nodup_iff.2 S.A_nodup)).2.1).1
  have hle := hP.pm.length_eq
  rw [List.length_append, List.length_append] at hle
  obtain ⟨eb, hb⟩ := S.best_win led T' hnd
  have et := placed_S S (fun x hx => S.mem_has (hT x hx)) (by omega) (by omega) hnd
  have ew := winner_S S (fun x hx => S.A_cb x (hT x hx)) (by omega)
  rw [← eb] at ew
  have hr := mrange1_ok (j := (n : Int)) (by omega) (by omega)
  simp only [Int.toNat_natCast] at hr
  have hcat : (G.map cardD ++ (led :: T').map cardD) = (G ++ (led :: T')).map cardD := by simp
  refine trick_run (m := n) (n := (n : Int)) (j := (S.best (led :: T') : Nat)) hr (by rw [S.g1, hps]) S.g3 (by omega) lp (lfos_oC Hs') (lfs_cards _) hP.q.lf h2 h8' h9' et ew (lfs_cards G) (by rw [List.length_map, List.length_map, sizeLine_eq]; omega) ?_
  rw [hcat, show ((pl : Nat) : Int) + ((S.best (led :: T') : Nat) : Int) = ((pl + S.best (led :: T') : Nat) : Int) from by omega, ← Int.natCast_emod]
  refine h p' Hs' (led :: T') ((pl + S.best (led :: T')) % n) _ y8 y9 ⟨hP.hn, fun i hi => ?_, ?_, ?_, hP.q.mono (by omega)⟩ (Nat.mod_lt _ (by omega)) h8' h9'
  · obtain ⟨H, a, b, c⟩ := hP.h i hi
    rw [if_pos (seat_all hn2)] at c
    exact ⟨H, a, b, by omega⟩
  · rw [List.append_assoc]
    exact hP.pm
  · rw [List.length_append, hP.l, hI.l, Nat.mul_succ]
end Rn

namespace Rn
open PySem PySem.Spec L2 Z
theorem right7_run {p p1 p2 h' : O} {gm : D} {As Ls G : List D} {os : List O} {n e ld : Int} {m1 m2 : Nat} {x4 y4 y5 y7 y8 y9 : Option O}
    (ac : f_all_cards [.frz gm] = .ok (.frz (.tup As)) [.frz gm]) (g1 : gix gm (.int 1) = some (.int n)) (g2 : gix gm (.int 2) = some (.int e)) (g6 : gix gm (.int 6) = some (.int ld))
    (hr1 : mrange1 [.int n] = some (rangeD 0 m1)) (hr2 : mrange1 [.int e] = some (rangeD 0 m2))
    (e1 : sloop b_law_right_3_1 (gset 4) (rangeD 0 m1) [some p, some (.frz gm), some (.lst (As.map .frz)), some (.lst []), none, none, none, none, none, none] = .nxt [some p1, some (.frz gm), some (.lst (Ls.map .frz)), some (.lst os), x4, none, none, none, none, none])
    (e2 : sloop b_law_right_3_3 (gset 4) (rangeD 0 m2) [some p1, some (.frz gm), some (.lst (Ls.map .frz)), some (.lst os), x4, some (.frz (.int ld)), some (.frz (.lst [])), none, none, none] = .nxt [some p2, some (.frz gm), some (.lst (Ls.map .frz)), some h', y4, y5, some (.frz (.lst G)), y7, y8, y9])
    (hl : G.length + Ls.length ≤ 1000) (gs : gsorted [.lst (G ++ Ls)] = some (.lst As)) (ge : geq (.lst As) (.lst As) = some (.bl true)) (gu : klenset (.lst G) = mret (.int (n * e))) (hg : n.natAbs.log2 + e.natAbs.log2 < 1000000) :
    f_law_right_3 [p, .frz gm] = .ok (.frz (.bl true)) [p2, .frz gm] := by
  have hf : ∀ x : D, fit (G.length + Ls.length) x = some x := fun x => fit_small (by omega)
  simp [f_law_right_3, m_law_right_3, runFn, ac, g1, g2, g6, hr1, hr2, e1, e2, hf, gs, ge, gu, hg, fit_small, -List.map_map]
theorem right7_S (S : Su) {k : Nat} {p : O} (hp : Pot k p) (hk : k ≤ 200) : ∃ p', f_law_right_3 [p, .frz S.d] = .ok (.frz (.bl true)) [p', .frz S.d] ∧ Pot (k + 64) p' := by
  have hA := S.A_len
  have h2 := S.ok.p2
  have h4 := S.ok.p4
  have q1 := S.ok.e1
  have q8 := S.ok.e8
  have d0 := S.ok.d0
  have dp := S.ok.dp
  obtain ⟨n, hn⟩ : ∃ n : Nat, S.ps = (n : Int) := ⟨S.ps.toNat, by omega⟩
  obtain ⟨e, he⟩ : ∃ e : Nat, S.es = (e : Int) := ⟨S.es.toNat, by omega⟩
  obtain ⟨ld, hld⟩ : ∃ ld : Nat, S.ld = (ld : Int) := ⟨S.ld.toNat, by omega⟩
  have hr1 := mrange1_ok (j := (n : Int)) (by omega) (by omega)
  have hr2 := mrange1_ok (j := (e : Int)) (by omega) (by omega)
  simp only [Int.toNat_natCast] at hr1 hr2
  obtain ⟨p1, Hs, L, x4, e1, hd⟩ := deal_all S hp (by omega) he hn
  have hx2 : slotBor (some (oC L)) (some (oC L)) := (slotBor_lf (lfo_oC L)).2 trivial
  have R0 : Rest S n e 0 (k + 8 * n) L [] Hs p1 := ⟨hd.n, fun i hi => by
    have hl : i < Hs.length := by rw [hd.n]; exact hi
    obtain ⟨a, b⟩ := hd.h Hs[i] (List.getElem_mem hl)
    exact ⟨Hs[i], List.getElem?_eq_getElem hl, b, a⟩, hd.pm, rfl, hd.q⟩
  obtain ⟨ρ', e2, p2, Hs', G, pl, y4, y7, y8, y9, rfl, R, hpl, _, _⟩ := sloop_inv (body := b_law_right_3_3) (tg := gset 4) (rangeD 0 e) (fun t ρ => ∃ p Hs G pl x4 x7 x8 x9, ρ = [some p, some (.frz S.d), some (oC L), some (oH Hs), x4, some (.frz (.int (pl : Nat))), some (.frz (.lst (G.map cardD))), x7, x8, x9] ∧ Rest S n e t (k + 8 * n) L G Hs p ∧ pl < n ∧ slotBor x8 x8 ∧ slotBor x9 x9)
    (fun t d ρ hd' ⟨p, Hs, G, pl, x4, x7, x8, x9, hρ, R, hpl, h8, h9⟩ => by
      subst hρ
      obtain ⟨hj, rfl⟩ := rangeD_get hd'
      exact trick_step S R (by omega) (by omega) (by omega) hn hpl hj (by omega) hx2 h8 h9 fun p' Hs' T pl' y7 y8 y9 R' hp' h8' h9' => ⟨p', Hs', G ++ T, pl', _, y7, y8, y9, rfl, R', hp', h8', h9'⟩)
    [some p1, some (.frz S.d), some (oC L), some (oH Hs), x4, some (.frz (.int (ld : Nat))), some (.frz (.lst (([] : List Cd).map cardD))), none, none, none] ⟨p1, Hs, [], ld, x4, none, none, none, rfl, R0, by omega, slotBor_none.2 trivial, slotBor_none.2 trivial⟩
  rw [rangeD_len] at R
  have hf : Hs'.flatten = [] := by
    rw [List.flatten_eq_nil_iff]
    intro H hH
    obtain ⟨i, hi, rfl⟩ := List.mem_iff_getElem.1 hH
    obtain ⟨H', a, b, c⟩ := R.h i (by rw [← R.hn]; exact hi)
    rw [List.getElem?_eq_getElem hi] at a
    cases a
    exact List.eq_nil_of_length_eq_zero (by rw [c]; omega)
  have pm := R.pm
  rw [hf, List.nil_append] at pm
  have hle := pm.length_eq
  rw [List.length_append] at hle
  have hnd : G.Nodup := (List.nodup_append.1 (pm.nodup_iff.2 S.A_nodup)).1
  refine ⟨p2, right7_run (all_cards_S S) (by rw [S.g1, hn]) (by rw [S.g2, he]) (by rw [S.g6, hld]) hr1 hr2 e1 e2 (by rw [List.length_map, List.length_map]; omega) ?_ ?_ ?_ ?_, R.q.mono (by omega)⟩
  · rw [← List.map_append, gsorted_cards, isort_eq pm S.A_asc]
  · rw [geq_cards S.A_cb S.A_cb]; simp
  · rw [klenset_lst, if_pos (by omega)]
    unfold unlike
    rw [dedup_of hnd, R.l]
    simp
  · have a := log_small (n := n) (by omega)
    have b := log_small (n := e) (by omega)
    omega
end Rn
namespace K07
open PySem PySem.Spec L2 Z Rn
def InvO (x0 : Option O) (j : Nat) (ρ : Z.Env) : Prop := ∃ x1 x2, ρ = [x0, x1, x2]
theorem outer_run (x0 : Option O) (z : Int) (j : Nat) (x1 x2 : Option O) (p p1 p2 : O) (gm : D) (e0 : f_law_pot [.frz (.int z)] = .ok p [.frz (.int z)]) (e1 : f_law_setup [p] = .ok (.frz gm) [p1]) (e2 : f_law_right_3 [p1, .frz gm] = .ok (.frz (.bl true)) [p2, .frz gm]) :
    stepOk b_law_K07_0 (gset 1) (InvO x0 (j + 1)) (.int z) [x0, x1, x2] := by
  simp [stepOk, b_law_K07_0, e0, e1, e2]
  exact ⟨_, _, rfl⟩
theorem outer (x0 : Option O) (z : Int) (j : Nat) (ρ : Z.Env) (I : InvO x0 j ρ) : stepOk b_law_K07_0 (gset 1) (InvO x0 (j + 1)) (.int z) ρ := by
  obtain ⟨x1, x2, rfl⟩ := I
  obtain ⟨p, e0, hp⟩ := lp_pot z
  obtain ⟨S, p1, e1, hp1⟩ := law_setup_S hp (by omega)
  obtain ⟨p2, e2, hp2⟩ := right7_S S hp1 (by omega)
  exact outer_run x0 z j _ _ p p1 p2 _ e0 e1 e2
theorem slice6 (ns : List Int) : gsl (.lst (ns.map .int)) none (some 6) = some (.lst ((ns.take 6).map .int)) := by
  show some (D.lst (cutD (ns.map .int) none (some 6))) = _
  congr 2
  unfold cutD
  have e1 : HT.sIx (ns.map D.int).length 0 none = 0 := rfl
  have e2 : HT.sIx (ns.map D.int).length (ns.map D.int).length (some 6) = min 6 (ns.map D.int).length := by
    simp [HT.sIx]
  rw [e1, e2, List.drop_zero, Nat.sub_zero, ← List.map_take]
  congr 1
  rw [List.length_map]
  by_cases q : 6 ≤ ns.length
  · rw [Nat.min_eq_left q]
  · rw [Nat.min_eq_right (by omega), List.take_of_length_le (by omega), List.take_of_length_le (by omega)]
theorem law_true (ns : List Int) (hl : ns.length ≤ 63) (hb : ∀ z ∈ ns, Builtin.Int.intBits z ≤ 1048576) : ∃ fs, f_law_K07 [.frz (.lst (ns.map .int))] = .ok (.frz (.bl true)) fs := by
  obtain ⟨ρ', e, x1, x2, rfl⟩ := sloop_inv (body := b_law_K07_0) (tg := gset 1) ((ns.take 6).map .int ++ [.int 1000000000000000004, .int 1000000000000000009]) (InvO (some (.frz (.lst (ns.map .int))))) (fun j d ρ hd I => by
    have : ∃ z, d = .int z := by
      rcases List.mem_append.1 (List.mem_of_getElem? hd) with h | h
      · obtain ⟨n, _, rfl⟩ := List.mem_map.1 h
        exact ⟨n, rfl⟩
      · rcases List.mem_cons.1 h with rfl | h
        · exact ⟨_, rfl⟩
        · exact ⟨_, List.mem_singleton.1 h⟩
    obtain ⟨z, rfl⟩ := this
    exact outer _ z j ρ I) [some (.frz (.lst (ns.map .int))), none, none] ⟨_, _, rfl⟩
  have hs := slice6 ns
  have hln : (ns.take 6).length ≤ 6 := by rw [List.length_take]; omega
  generalize ns.take 6 = ms at e hs hln
  have hf : ∀ x : D, fit (ms.length + 2) x = some x := fun x => fit_small (by omega)
  refine ⟨[.frz (.lst (ns.map .int))], ?_⟩
  simp [f_law_K07, m_law_K07, runFn, hs, hf, fit_small, e]
end K07

namespace K07
open PySem PySem.Spec L2 Z
def topS (i : Nat) : Stmt := PySem.Challenge.pw_seenhands_k07_whole_hands_played_out.main.body.getD i (.Pass ⟨0, 0, 0, 0⟩)
/-! ### law_pot -/
abbrev s_law_pot : Stmt := topS 27
abbrev P_law_pot : List Str := ["_law_cell"]
abbrev N_law_pot : List Str := ["_law_cell"]
theorem sc_law_pot : FnScope N_law_pot P_law_pot (defScope s_law_pot) := ⟨rfl, rfl, rfl, by decide +kernel, rfl, by decide +kernel, by decide +kernel⟩
theorem ok_law_pot {P : Program} {w : World} {K : PySem.W.Frag} {mg : Str → Option Value} {base : Heap} {f : Addr} {fd : FuncData} (Fu : Fun K "_law_pot" "_law_pot" s_law_pot f fd) (hB_max : mg "max" = none) (hB_int : mg "int" = none) : FnG P w K mg base 1 f fd P_law_pot (spF K 1 Rn.f_law_pot) := by
  have sc := sc_law_pot
  refine fn_body (N := N_law_pot) (mask := [false]) (nl := 0) Fu sc rfl rfl fun cdv A outer s H E hr hgd tk hpo => ?_
  exact (bv_one (sv_retO (eo_lst (ea_cons (ev_cb (bi_max rfl) (by rfl) hB_max PyProof.Rows.boot_max (ea_cons ev_int (ea_cons (ev_op os_sub (ev_ct bt_int (by rfl) hB_int PyProof.Rows.boot_int (ea_cons (ev_var 0 rfl (Or.inl rfl)) ea_nil)) (ev_op os_pow ev_int ev_int)) ea_nil))) (ea_cons (ev_op os_mod (ev_ct bt_int (by rfl) hB_int PyProof.Rows.boot_int (ea_cons (ev_var 0 rfl (Or.inl rfl)) ea_nil)) ev_int) (ea_cons ev_int ea_nil))))))
theorem bd_law_pot {K : PySem.W.Frag} {f : Addr} {fd : FuncData} (Fu : Fun K "_law_pot" "_law_pot" s_law_pot f fd) : Binds K fd P_law_pot [] := Fu.binds fun _ _ _ _ _ _ us hl => match us, hl with | [_], _ => rfl

/-! ### law_out -/
abbrev s_law_out : Stmt := topS 28
abbrev P_law_out : List Str := ["_law_pot_here", "_law_upto"]
abbrev N_law_out : List Str := ["_law_pot_here", "_law_upto", "_law_digit", "_law_step", "_law_blend"]
theorem sc_law_out : FnScope N_law_out P_law_out (defScope s_law_out) := ⟨rfl, rfl, rfl, by decide +kernel, rfl, by decide +kernel, by decide +kernel⟩
theorem ok_law_out {P : Program} {w : World} {K : PySem.W.Frag} {mg : Str → Option Value} {base : Heap} {f : Addr} {fd : FuncData} (Fu : Fun K "_law_out" "_law_out" s_law_out f fd) (hB_int : mg "int" = none) : FnG P w K mg base 1 f fd P_law_out (spF K 2 Rn.f_law_out) := by
  have sc := sc_law_out
  refine fn_body (N := N_law_out) (mask := [true, false]) (nl := 3) Fu sc rfl rfl fun cdv A outer s H E hr hgd tk hpo => ?_
  exact (bv_cons (sv_if (eb_cmp os_gt (nomark _) (ev_ixo 0 ev_int rfl (Or.inl rfl)) ev_int) (bv_cons (sv_setD (i := 2) sc.nd rfl (Or.inl rfl) (ev_op os_mod (ev_ct bt_int (by rfl) hB_int PyProof.Rows.boot_int (ea_cons (ev_ixo 0 ev_int rfl (Or.inl rfl)) ea_nil)) (ev_var 1 rfl (Or.inl rfl))))
  (bv_cons (sv_put 0 (ev_op os_div (ev_ixo 0 ev_int rfl (Or.inl rfl)) (ev_var 1 rfl (Or.inl rfl))) ev_int rfl (Or.inl rfl))
  (bv_one (sv_retD (ev_var 2 rfl (Or.inl rfl)))))) bv_nil)
  (bv_cons (sv_setD (i := 3) sc.nd rfl (Or.inl rfl) (ev_op os_add (ev_ixo 0 ev_int rfl (Or.inl rfl)) ev_int))
  (bv_cons (sv_put 0 (ev_var 3 rfl (Or.inl rfl)) ev_int rfl (Or.inl rfl))
  (bv_cons (sv_setD (i := 4) sc.nd rfl (Or.inl rfl) (ev_op os_mul (ev_op os_add (ev_ixo 0 ev_int rfl (Or.inl rfl)) ev_int) (ev_op os_add (ev_op os_add (ev_op os_mul (ev_op os_mul ev_int (ev_var 3 rfl (Or.inl rfl))) (ev_var 3 rfl (Or.inl rfl))) (ev_op os_mul ev_int (ev_var 3 rfl (Or.inl rfl)))) ev_int)))
  (bv_cons (sv_setD (i := 4) sc.nd rfl (Or.inl rfl) (ev_op os_div (ev_op os_mod (ev_ct bt_int (by rfl) hB_int PyProof.Rows.boot_int (ea_cons (ev_op os_add (ev_op os_add (ev_op os_mul (ev_var 4 rfl (Or.inl rfl)) (ev_var 4 rfl (Or.inl rfl))) (ev_op os_mul ev_int (ev_var 4 rfl (Or.inl rfl)))) (ev_var 3 rfl (Or.inl rfl))) ea_nil)) ev_int) ev_int))
  (bv_one (sv_retD (ev_op os_mod (ev_op os_div (ev_op os_mod (ev_ct bt_int (by rfl) hB_int PyProof.Rows.boot_int (ea_cons (ev_op os_add (ev_op os_add (ev_op os_mul (ev_var 4 rfl (Or.inl rfl)) (ev_var 4 rfl (Or.inl rfl))) (ev_op os_mul ev_int (ev_var 4 rfl (Or.inl rfl)))) (ev_op os_mul ev_int (ev_var 3 rfl (Or.inl rfl)))) ea_nil)) ev_int) ev_int) (ev_var 1 rfl (Or.inl rfl))))))))))
theorem bd_law_out {K : PySem.W.Frag} {f : Addr} {fd : FuncData} (Fu : Fun K "_law_out" "_law_out" s_law_out f fd) : Binds K fd P_law_out [] := Fu.binds fun _ _ _ _ _ _ us hl => match us, hl with | [_, _], _ => rfl

/-! ### law_setup -/
abbrev s_law_setup : Stmt := topS 29
abbrev P_law_setup : List Str := ["_law_pot_here"]
abbrev N_law_setup : List Str := ["_law_pot_here", "_law_suits", "_law_most", "_law_deck", "_law_k", "_law_players", "_law_each", "_law_trump", "_law_ruff", "_law_head"]
theorem sc_law_setup : FnScope N_law_setup P_law_setup (defScope s_law_setup) := ⟨rfl, rfl, rfl, by decide +kernel, rfl, by decide +kernel, by decide +kernel⟩
theorem ok_law_setup {P : Program} {w : World} {K : PySem.W.Frag} {mg : Str → Option Value} {base : Heap} {f : Addr} {fd : FuncData} (Fu : Fun K "_law_setup" "_law_setup" s_law_setup f fd) (hF_law_out : FnS P w K mg base 1 "_law_out" s_law_out P_law_out Rn.f_law_out) (hB_range : mg "range" = none) (hB_sum : mg "sum" = none) (hB_tuple : mg "tuple" = none) (hB_min : mg "min" = none) (hB_len : mg "len" = none) (hB_int : mg "int" = none) : FnG P w K mg base 2 f fd P_law_setup (spF K 1 Rn.f_law_setup) := by
  have sc := sc_law_setup
  refine fn_body (N := N_law_setup) (mask := [true]) (nl := 9) Fu sc rfl rfl fun cdv A outer s H E hr hgd tk hpo => ?_
  exact (bv_cons (sv_par (i := 1) (j := 2) rfl sc.nd rfl rfl (by decide) rfl rfl (ev_op os_add ev_int (ev_of_eo (eo_call hF_law_out (hr.mono (by decide)) hgd tk (by rfl) (av_io 0 (av_e ev_int av_nil) rfl (Or.inl rfl))))) (ev_ix (ev_lst (ea_cons ev_int (ea_cons ev_int (ea_cons ev_int (ea_cons ev_int ea_nil))))) (ev_of_eo (eo_call hF_law_out (hr.mono (by decide)) hgd tk (by rfl) (av_io 0 (av_e ev_int av_nil) rfl (Or.inl rfl))))))
  (bv_cons (sv_setO (i := 3) sc.nd rfl (Or.inl rfl) (eo_lst ea_nil))
  (bv_cons (sv_for hpo rfl (iv_range1 (by rfl) hB_range (ea_cons (ev_var 1 rfl (Or.inl rfl)) ea_nil)) (gv_name (i := 4) sc.nd rfl (Or.inl rfl)) (bv_one (sv_app 3 (ev_op os_add ev_int (ev_of_eo (eo_call hF_law_out (hr.mono (by decide)) hgd tk (by rfl) (av_io 0 (av_e (ev_cb (bi_min rfl) (by rfl) hB_min PyProof.Rows.boot_min (ea_cons (ev_ct bt_int (by rfl) hB_int PyProof.Rows.boot_int (ea_cons (ev_var 2 rfl (Or.inl rfl)) ea_nil)) (ea_cons (ev_op os_add (ev_op os_sub (ev_op os_sub ev_int (ev_cbo (bi_sum rfl) (by rfl) hB_sum PyProof.Rows.boot_sum (i := 3) rfl (Or.inl rfl))) (ev_var 1 rfl (Or.inl rfl))) (ev_var 4 rfl (Or.inl rfl))) ea_nil))) av_nil) rfl (Or.inl rfl))))) rfl (Or.inl rfl))))
  (bv_cons (sv_if (eb_cmp os_lt (nomark _) (ev_cbo (bi_sum rfl) (by rfl) hB_sum PyProof.Rows.boot_sum (i := 3) rfl (Or.inl rfl)) ev_int) (bv_one (sv_setO (i := 3) sc.nd rfl (Or.inl rfl) (eo_lst (ea_cons ev_int ea_nil)))) bv_nil)
  (bv_cons (sv_setD (i := 5) sc.nd rfl (Or.inl rfl) (ev_op os_add ev_int (ev_of_eo (eo_call hF_law_out (hr.mono (by decide)) hgd tk (by rfl) (av_io 0 (av_e (ev_cb (bi_min rfl) (by rfl) hB_min PyProof.Rows.boot_min (ea_cons ev_int (ea_cons (ev_op os_sub (ev_cbo (bi_sum rfl) (by rfl) hB_sum PyProof.Rows.boot_sum (i := 3) rfl (Or.inl rfl)) ev_int) ea_nil))) av_nil) rfl (Or.inl rfl))))))
  (bv_cons (sv_setD (i := 6) sc.nd rfl (Or.inl rfl) (ev_op os_add ev_int (ev_of_eo (eo_call hF_law_out (hr.mono (by decide)) hgd tk (by rfl) (av_io 0 (av_e (ev_cb (bi_min rfl) (by rfl) hB_min PyProof.Rows.boot_min (ea_cons ev_int (ea_cons (ev_op os_div (ev_cbo (bi_sum rfl) (by rfl) hB_sum PyProof.Rows.boot_sum (i := 3) rfl (Or.inl rfl)) (ev_var 5 rfl (Or.inl rfl))) ea_nil))) av_nil) rfl (Or.inl rfl))))))
  (bv_cons (sv_setD (i := 7) sc.nd rfl (Or.inl rfl) (ev_ix (ev_lst (ea_cons ev_non (ea_cons (ev_of_eo (eo_call hF_law_out (hr.mono (by decide)) hgd tk (by rfl) (av_io 0 (av_e (ev_cbo bi_len (by rfl) hB_len PySem.boot_len (i := 3) rfl (Or.inl rfl)) av_nil) rfl (Or.inl rfl)))) (ea_cons (ev_of_eo (eo_call hF_law_out (hr.mono (by decide)) hgd tk (by rfl) (av_io 0 (av_e (ev_cbo bi_len (by rfl) hB_len PySem.boot_len (i := 3) rfl (Or.inl rfl)) av_nil) rfl (Or.inl rfl)))) ea_nil)))) (ev_of_eo (eo_call hF_law_out (hr.mono (by decide)) hgd tk (by rfl) (av_io 0 (av_e ev_int av_nil) rfl (Or.inl rfl))))))
  (bv_cons (sv_par (i := 8) (j := 9) rfl sc.nd rfl rfl (by decide) rfl rfl (ev_cmp (os_eq hr.units) (nomark _) (ev_of_eo (eo_call hF_law_out (hr.mono (by decide)) hgd tk (by rfl) (av_io 0 (av_e ev_int av_nil) rfl (Or.inl rfl)))) ev_int) (ev_cmp (os_eq hr.units) (nomark _) (ev_of_eo (eo_call hF_law_out (hr.mono (by decide)) hgd tk (by rfl) (av_io 0 (av_e ev_int av_nil) rfl (Or.inl rfl)))) ev_int))
  (bv_one (sv_retD (ev_tup (ea_cons (ev_ct bt_tuple (by rfl) hB_tuple PyProof.Rows.boot_tuple (ea_cons (ev_var 3 rfl (Or.inl rfl)) ea_nil)) (ea_cons (ev_var 5 rfl (Or.inl rfl)) (ea_cons (ev_var 6 rfl (Or.inl rfl)) (ea_cons (ev_var 7 rfl (Or.inl rfl)) (ea_cons (ev_var 8 rfl (Or.inl rfl)) (ea_cons (ev_var 9 rfl (Or.inl rfl)) (ea_cons (ev_of_eo (eo_call hF_law_out (hr.mono (by decide)) hgd tk (by rfl) (av_io 0 (av_e (ev_var 5 rfl (Or.inl rfl)) av_nil) rfl (Or.inl rfl)))) ea_nil))))))))))))))))))
theorem bd_law_setup {K : PySem.W.Frag} {f : Addr} {fd : FuncData} (Fu : Fun K "_law_setup" "_law_setup" s_law_setup f fd) : Binds K fd P_law_setup [] := Fu.binds fun _ _ _ _ _ _ us hl => match us, hl with | [_], _ => rfl
-- note line 127: _law_deck is frozen

/-! ### whole_between -/
abbrev s_whole_between : Stmt := topS 10
abbrev P_whole_between : List Str := ["value", "least", "most"]
abbrev N_whole_between : List Str := ["value", "least", "most"]
theorem sc_whole_between : FnScope N_whole_between P_whole_between (defScope s_whole_between) := ⟨rfl, rfl, rfl, by decide +kernel, rfl, by decide +kernel, by decide +kernel⟩
theorem ok_whole_between {P : Program} {w : World} {K : PySem.W.Frag} {mg : Str → Option Value} {base : Heap} {f : Addr} {fd : FuncData} (Fu : Fun K "whole_between" "whole_between" s_whole_between f fd) (hB_isinstance : mg "isinstance" = none) (hB_int : mg "int" = none) (hB_bool : mg "bool" = none) : FnG P w K mg base 1 f fd P_whole_between (spF K 3 Rn.f_whole_between) := by
  have sc := sc_whole_between
  refine fn_body (N := N_whole_between) (mask := [false, false, false]) (nl := 0) Fu sc rfl rfl fun cdv A outer s H E hr hgd tk hpo => ?_
  exact (bv_one (sv_retD (ev_and (ev_cb bi_isi (by rfl) hB_isinstance PyProof.Rows.boot_isinstance (ea_cons (ev_var 0 rfl (Or.inl rfl)) (ea_cons (ev_ty (by rfl) hB_int PyProof.Rows.boot_int) ea_nil))) (ev_and (ev_not (ev_cb bi_isi (by rfl) hB_isinstance PyProof.Rows.boot_isinstance (ea_cons (ev_var 0 rfl (Or.inl rfl)) (ea_cons (ev_ty (by rfl) hB_bool PyProof.Rows.boot_bool) ea_nil)))) (ev_and1 (ev_chain (os_le hr.units0) (os_le hr.units0) (ev_var 1 rfl (Or.inl rfl)) (ev_var 0 rfl (Or.inl rfl)) (ev_var 2 rfl (Or.inl rfl))))))))
theorem bd_whole_between {K : PySem.W.Frag} {f : Addr} {fd : FuncData} (Fu : Fun K "whole_between" "whole_between" s_whole_between f fd) : Binds K fd P_whole_between [] := Fu.binds fun _ _ _ _ _ _ us hl => match us, hl with | [_, _, _], _ => rfl

/-! ### is_deck -/
abbrev s_is_deck : Stmt := topS 11
abbrev P_is_deck : List Str := ["value"]
abbrev N_is_deck : List Str := ["value", "count"]
theorem sc_is_deck : FnScope N_is_deck P_is_deck (defScope s_is_deck) := ⟨rfl, rfl, rfl, by decide +kernel, rfl, by decide +kernel, by decide +kernel⟩
theorem ok_is_deck {P : Program} {w : World} {K : PySem.W.Frag} {mg : Str → Option Value} {base : Heap} {f : Addr} {fd : FuncData} (Fu : Fun K "is_deck" "is_deck" s_is_deck f fd) (hF_whole_between : FnS P w K mg base 1 "whole_between" s_whole_between P_whole_between Rn.f_whole_between) (hB_sum : mg "sum" = none) (hB_isinstance : mg "isinstance" = none) (hB_tuple : mg "tuple" = none) (hB_len : mg "len" = none) {tC_MOST_CARDS : Tok} (hC_MOST_CARDS : mg "MOST_CARDS" = some (.int 32 tC_MOST_CARDS)) {tC_MOST_SUITS : Tok} (hC_MOST_SUITS : mg "MOST_SUITS" = some (.int 4 tC_MOST_SUITS)) {tC_MOST_RANKS : Tok} (hC_MOST_RANKS : mg "MOST_RANKS" = some (.int 10 tC_MOST_RANKS)) : FnG P w K mg base 2 f fd P_is_deck (spF K 1 Rn.f_is_deck) := by
  have sc := sc_is_deck
  refine fn_body (N := N_is_deck) (mask := [false]) (nl := 1) Fu sc rfl rfl fun cdv A outer s H E hr hgd tk hpo => ?_
  exact (bv_cons (sv_if (eb_of_ew (ew_or (eb_not (eb_of_ev (ev_cb bi_isi (by rfl) hB_isinstance PyProof.Rows.boot_isinstance (ea_cons (ev_var 0 rfl (Or.inl rfl)) (ea_cons (ev_ty (by rfl) hB_tuple PyProof.Rows.boot_tuple) ea_nil))))) (ew_or1 (eb_not (eb_chain (os_le hr.units0) (os_le hr.units0) ev_int (ev_cb bi_len (by rfl) hB_len PySem.boot_len (ea_cons (ev_var 0 rfl (Or.inl rfl)) ea_nil)) (ev_globI (by rfl) hC_MOST_SUITS)))))) (bv_one (sv_retD ev_bl)) bv_nil)
  (bv_cons (sv_for hpo rfl (iv_seq (ev_var 0 rfl (Or.inl rfl))) (gv_name (i := 1) sc.nd rfl (Or.inl rfl)) (bv_one (sv_if (eb_not (eb_of_ev (ev_of_eo (eo_call hF_whole_between (hr.mono (by decide)) hgd tk (by rfl) (av_e (ev_var 1 rfl (Or.inl rfl)) (av_e ev_int (av_e (ev_globI (by rfl) hC_MOST_RANKS) av_nil))))))) (bv_one (sv_retD ev_bl)) bv_nil)))
  (bv_one (sv_retD (ev_cmp (os_le hr.units0) (nomark _) (ev_cb (bi_sum rfl) (by rfl) hB_sum PyProof.Rows.boot_sum (ea_cons (ev_var 0 rfl (Or.inl rfl)) ea_nil)) (ev_globI (by rfl) hC_MOST_CARDS))))))
theorem bd_is_deck {K : PySem.W.Frag} {f : Addr} {fd : FuncData} (Fu : Fun K "is_deck" "is_deck" s_is_deck f fd) : Binds K fd P_is_deck [] := Fu.binds fun _ _ _ _ _ _ us hl => match us, hl with | [_], _ => rfl

/-! ### is_setup -/
abbrev s_is_setup : Stmt := topS 12
abbrev P_is_setup : List Str := ["value"]
abbrev N_is_setup : List Str := ["value", "deck", "players", "each", "trump", "ruff", "head", "leader"]
theorem sc_is_setup : FnScope N_is_setup P_is_setup (defScope s_is_setup) := ⟨rfl, rfl, rfl, by decide +kernel, rfl, by decide +kernel, by decide +kernel⟩
theorem ok_is_setup {P : Program} {w : World} {K : PySem.W.Frag} {mg : Str → Option Value} {base : Heap} {f : Addr} {fd : FuncData} (Fu : Fun K "is_setup" "is_setup" s_is_setup f fd) (hF_is_deck : FnS P w K mg base 2 "is_deck" s_is_deck P_is_deck Rn.f_is_deck) (hF_whole_between : FnS P w K mg base 1 "whole_between" s_whole_between P_whole_between Rn.f_whole_between) (hB_isinstance : mg "isinstance" = none) (hB_bool : mg "bool" = none) (hB_tuple : mg "tuple" = none) (hB_len : mg "len" = none) (hB_sum : mg "sum" = none) : FnG P w K mg base 3 f fd P_is_setup (spF K 1 Rn.f_is_setup) := by
  have sc := sc_is_setup
  refine fn_body (N := N_is_setup) (mask := [false]) (nl := 7) Fu sc rfl rfl fun cdv A outer s H E hr hgd tk hpo => ?_
  exact (bv_cons (sv_if (eb_of_ew (ew_or (eb_not (eb_of_ev (ev_cb bi_isi (by rfl) hB_isinstance PyProof.Rows.boot_isinstance (ea_cons (ev_var 0 rfl (Or.inl rfl)) (ea_cons (ev_ty (by rfl) hB_tuple PyProof.Rows.boot_tuple) ea_nil))))) (ew_or1 (eb_cmp (os_ne hr.units) (nomark _) (ev_cb bi_len (by rfl) hB_len PySem.boot_len (ea_cons (ev_var 0 rfl (Or.inl rfl)) ea_nil)) ev_int)))) (bv_one (sv_retD ev_bl)) bv_nil)
  (bv_cons (sv_asg (ev_var 0 rfl (Or.inl rfl)) (gv_tup rfl (gvs_cons (gv_name (i := 1) sc.nd rfl (Or.inl rfl)) (gvs_cons (gv_name (i := 2) sc.nd rfl (Or.inl rfl)) (gvs_cons (gv_name (i := 3) sc.nd rfl (Or.inl rfl)) (gvs_cons (gv_name (i := 4) sc.nd rfl (Or.inl rfl)) (gvs_cons (gv_name (i := 5) sc.nd rfl (Or.inl rfl)) (gvs_cons (gv_name (i := 6) sc.nd rfl (Or.inl rfl)) (gvs_cons (gv_name (i := 7) sc.nd rfl (Or.inl rfl)) gvs_nil)))))))))
  (bv_cons (sv_if (eb_of_ew (ew_or (eb_not (eb_of_ev (ev_of_eo (eo_call hF_is_deck (hr.mono (by decide)) hgd tk (by rfl) (av_e (ev_var 1 rfl (Or.inl rfl)) av_nil))))) (ew_or (eb_not (eb_of_ev (ev_of_eo (eo_call hF_whole_between (hr.mono (by decide)) hgd tk (by rfl) (av_e (ev_var 2 rfl (Or.inl rfl)) (av_e ev_int (av_e ev_int av_nil))))))) (ew_or1 (eb_not (eb_of_ev (ev_of_eo (eo_call hF_whole_between (hr.mono (by decide)) hgd tk (by rfl) (av_e (ev_var 3 rfl (Or.inl rfl)) (av_e ev_int (av_e ev_int av_nil))))))))))) (bv_one (sv_retD ev_bl)) bv_nil)
  (bv_cons (sv_if (eb_of_ew (ew_or (eb_cmp os_gt (nomark _) (ev_op os_mul (ev_var 2 rfl (Or.inl rfl)) (ev_var 3 rfl (Or.inl rfl))) (ev_cb (bi_sum rfl) (by rfl) hB_sum PyProof.Rows.boot_sum (ea_cons (ev_var 1 rfl (Or.inl rfl)) ea_nil))) (ew_or1 (eb_not (eb_of_ev (ev_of_eo (eo_call hF_whole_between (hr.mono (by decide)) hgd tk (by rfl) (av_e (ev_var 7 rfl (Or.inl rfl)) (av_e ev_int (av_e (ev_op os_sub (ev_var 2 rfl (Or.inl rfl)) ev_int) av_nil)))))))))) (bv_one (sv_retD ev_bl)) bv_nil)
  (bv_cons (sv_if (eb_of_ew (ew_and (eb_cmp os_isn (nomark _) (ev_var 4 rfl (Or.inl rfl)) ev_non) (ew_and1 (eb_not (eb_of_ev (ev_of_eo (eo_call hF_whole_between (hr.mono (by decide)) hgd tk (by rfl) (av_e (ev_var 4 rfl (Or.inl rfl)) (av_e ev_int (av_e (ev_op os_sub (ev_cb bi_len (by rfl) hB_len PySem.boot_len (ea_cons (ev_var 1 rfl (Or.inl rfl)) ea_nil)) ev_int) av_nil)))))))))) (bv_one (sv_retD ev_bl)) bv_nil)
  (bv_one (sv_retD (ev_and (ev_cb bi_isi (by rfl) hB_isinstance PyProof.Rows.boot_isinstance (ea_cons (ev_var 5 rfl (Or.inl rfl)) (ea_cons (ev_ty (by rfl) hB_bool PyProof.Rows.boot_bool) ea_nil))) (ev_and1 (ev_cb bi_isi (by rfl) hB_isinstance PyProof.Rows.boot_isinstance (ea_cons (ev_var 6 rfl (Or.inl rfl)) (ea_cons (ev_ty (by rfl) hB_bool PyProof.Rows.boot_bool) ea_nil))))))))))))
theorem bd_is_setup {K : PySem.W.Frag} {f : Addr} {fd : FuncData} (Fu : Fun K "is_setup" "is_setup" s_is_setup f fd) : Binds K fd P_is_setup [] := Fu.binds fun _ _ _ _ _ _ us hl => match us, hl with | [_], _ => rfl

/-! ### need_setup -/
abbrev s_need_setup : Stmt := topS 13
abbrev P_need_setup : List Str := ["value"]
abbrev N_need_setup : List Str := ["value"]
theorem sc_need_setup : FnScope N_need_setup P_need_setup (defScope s_need_setup) := ⟨rfl, rfl, rfl, by decide +kernel, rfl, by decide +kernel, by decide +kernel⟩
theorem ok_need_setup {P : Program} {w : World} {K : PySem.W.Frag} {mg : Str → Option Value} {base : Heap} {f : Addr} {fd : FuncData} (Fu : Fun K "need_setup" "need_setup" s_need_setup f fd) (hF_is_setup : FnS P w K mg base 3 "is_setup" s_is_setup P_is_setup Rn.f_is_setup) : FnG P w K mg base 4 f fd P_need_setup (spF K 1 Rn.f_need_setup) := by
  have sc := sc_need_setup
  refine fn_body (N := N_need_setup) (mask := [false]) (nl := 0) Fu sc rfl rfl fun cdv A outer s H E hr hgd tk hpo => ?_
  exact (bv_cons (sv_if (eb_not (eb_of_ev (ev_of_eo (eo_call hF_is_setup (hr.mono (by decide)) hgd tk (by rfl) (av_e (ev_var 0 rfl (Or.inl rfl)) av_nil))))) (bv_one sv_never) bv_nil)
  (bv_one (sv_retD (ev_var 0 rfl (Or.inl rfl)))))
theorem bd_need_setup {K : PySem.W.Frag} {f : Addr} {fd : FuncData} (Fu : Fun K "need_setup" "need_setup" s_need_setup f fd) : Binds K fd P_need_setup [] := Fu.binds fun _ _ _ _ _ _ us hl => match us, hl with | [_], _ => rfl

/-! ### deck_cards -/
abbrev s_deck_cards : Stmt := topS 18
abbrev P_deck_cards : List Str := ["setup"]
abbrev N_deck_cards : List Str := ["setup", "suit", "count", "rank"]
theorem sc_deck_cards : FnScope N_deck_cards P_deck_cards (defScope s_deck_cards) := ⟨rfl, rfl, rfl, by decide +kernel, rfl, by decide +kernel, by decide +kernel⟩
theorem ok_deck_cards {P : Program} {w : World} {K : PySem.W.Frag} {mg : Str → Option Value} {base : Heap} {f : Addr} {fd : FuncData} (Fu : Fun K "deck_cards" "deck_cards" s_deck_cards f fd) (hB_enumerate : mg "enumerate" = none) (hB_range : mg "range" = none) : FnG P w K mg base 1 f fd P_deck_cards (spF K 1 Rn.f_deck_cards) := by
  have sc := sc_deck_cards
  refine fn_body (N := N_deck_cards) (mask := [false]) (nl := 3) Fu sc rfl rfl fun cdv A outer s H E hr hgd tk hpo => ?_
  exact (bv_one (sv_retD (ev_of_eo (eo_lc2 (own := [("suit", 1), ("count", 2), ("rank", 3)]) (vs1 := [3]) rfl sc.nd (by decide) (show ∀ i ∈ ([3] : List Nat), i ∈ ([3] : List Nat) by decide) (iv_enum (by rfl) hB_enumerate (ea_cons (ev_ix (ev_var 0 rfl (Or.inl rfl)) ev_int) ea_nil)) (blkOk_by (own := [("suit", 1), ("count", 2), ("rank", 3)]) (N := N_deck_cards) (sc := defScope s_deck_cards) (by decide +kernel)) (fun _ _ _ _ _ => by exact (gv_tup rfl (gvs_cons (gv_name (i := 1) sc.nd rfl (Or.inl rfl) (.inr rfl)) (gvs_cons (gv_name (i := 2) sc.nd rfl (Or.inl rfl) (.inr rfl)) gvs_nil)))) (fun _ _ _ _ _ => by exact ptv_nil) (fun _ _ _ _ _ => by exact (iv_range1 (by rfl) hB_range (ea_cons (ev_var 2 rfl (Or.inl rfl)) ea_nil))) (fun _ _ _ _ _ => by exact (gv_name (i := 3) sc.nd rfl (Or.inl rfl) (.inr rfl))) (fun _ _ _ _ _ => by exact ptv_nil) (fun _ _ _ _ _ => by exact (ev_tup (ea_cons (ev_var 1 rfl (Or.inl rfl)) (ea_cons (ev_var 3 rfl (Or.inl rfl)) ea_nil))))))))
theorem bd_deck_cards {K : PySem.W.Frag} {f : Addr} {fd : FuncData} (Fu : Fun K "deck_cards" "deck_cards" s_deck_cards f fd) : Binds K fd P_deck_cards [] := Fu.binds fun _ _ _ _ _ _ us hl => match us, hl with | [_], _ => rfl

/-! ### all_cards -/
abbrev s_all_cards : Stmt := topS 22
abbrev P_all_cards : List Str := ["setup"]
abbrev N_all_cards : List Str := ["setup"]
theorem sc_all_cards : FnScope N_all_cards P_all_cards (defScope s_all_cards) := ⟨rfl, rfl, rfl, by decide +kernel, rfl, by decide +kernel, by decide +kernel⟩
theorem ok_all_cards {P : Program} {w : World} {K : PySem.W.Frag} {mg : Str → Option Value} {base : Heap} {f : Addr} {fd : FuncData} (Fu : Fun K "all_cards" "all_cards" s_all_cards f fd) (hF_deck_cards : FnS P w K mg base 1 "deck_cards" s_deck_cards P_deck_cards Rn.f_deck_cards) (hF_need_setup : FnS P w K mg base 4 "need_setup" s_need_setup P_need_setup Rn.f_need_setup) (hB_tuple : mg "tuple" = none) : FnG P w K mg base 5 f fd P_all_cards (spF K 1 Rn.f_all_cards) := by
  have sc := sc_all_cards
  refine fn_body (N := N_all_cards) (mask := [false]) (nl := 0) Fu sc rfl rfl fun cdv A outer s H E hr hgd tk hpo => ?_
  exact (bv_one (sv_retD (ev_ct bt_tuple (by rfl) hB_tuple PyProof.Rows.boot_tuple (ea_cons (ev_of_eo (eo_call hF_deck_cards (hr.mono (by decide)) hgd tk (by rfl) (av_e (ev_of_eo (eo_call hF_need_setup (hr.mono (by decide)) hgd tk (by rfl) (av_e (ev_var 0 rfl (Or.inl rfl)) av_nil))) av_nil))) ea_nil))))
theorem bd_all_cards {K : PySem.W.Frag} {f : Addr} {fd : FuncData} (Fu : Fun K "all_cards" "all_cards" s_all_cards f fd) : Binds K fd P_all_cards [] := Fu.binds fun _ _ _ _ _ _ us hl => match us, hl with | [_], _ => rfl

/-! ### law_winner -/
abbrev s_law_winner : Stmt := topS 31
abbrev P_law_winner : List Str := ["_law_trump", "_law_trick"]
abbrev N_law_winner : List Str := ["_law_trump", "_law_trick", "_law_lot", "_law_card_here"]
theorem sc_law_winner : FnScope N_law_winner P_law_winner (defScope s_law_winner) := ⟨rfl, rfl, rfl, by decide +kernel, rfl, by decide +kernel, by decide +kernel⟩
theorem ok_law_winner {P : Program} {w : World} {K : PySem.W.Frag} {mg : Str → Option Value} {base : Heap} {f : Addr} {fd : FuncData} (Fu : Fun K "_law_winner" "_law_winner" s_law_winner f fd) (hB_sorted : mg "sorted" = none) (hB_len : mg "len" = none) : FnG P w K mg base 1 f fd P_law_winner (spF K 2 Rn.f_law_winner) := by
  have sc := sc_law_winner
  refine fn_body (N := N_law_winner) (mask := [false, false]) (nl := 2) Fu sc rfl rfl fun cdv A outer s H E hr hgd tk hpo => ?_
  exact (bv_cons (sv_setLcD (i := 2) (own := [("_law_card_here", 3)]) rfl sc.nd rfl rfl (sw_true rfl rfl rfl (by decide +kernel)) (iv_seq (ev_var 1 rfl (Or.inr (Or.inl rfl)))) (blkOk_by (own := [("_law_card_here", 3)]) (N := N_law_winner) (sc := defScope s_law_winner) (by decide +kernel)) (fun _ _ _ _ _ => by exact (gv_name (i := 3) sc.nd rfl (Or.inl rfl) (.inr rfl))) (fun _ _ _ _ _ => by exact (ptv_one (eb_cmp (os_eq hr.units) (nomark _) (ev_ix (ev_var 3 rfl (Or.inl rfl)) ev_int) (ev_var 0 rfl (Or.inr (Or.inl rfl)))))) (fun _ _ _ _ _ => by exact (ev_var 3 rfl (Or.inl rfl))))
  (bv_cons (sv_if (eb_cmp (os_eq hr.units) (nomark _) (ev_var 2 rfl (Or.inl rfl)) (ev_lst ea_nil)) (bv_one (sv_setLcD (i := 2) (own := [("_law_card_here", 3)]) rfl sc.nd rfl rfl (sw_true rfl rfl rfl (by decide +kernel)) (iv_seq (ev_var 1 rfl (Or.inr (Or.inl rfl)))) (blkOk_by (own := [("_law_card_here", 3)]) (N := N_law_winner) (sc := defScope s_law_winner) (by decide +kernel)) (fun _ _ _ _ _ => by exact (gv_name (i := 3) sc.nd rfl (Or.inl rfl) (.inr rfl))) (fun _ _ _ _ _ => by exact (ptv_one (eb_cmp (os_eq hr.units) (nomark _) (ev_ix (ev_var 3 rfl (Or.inl rfl)) ev_int) (ev_ix (ev_ix (ev_var 1 rfl (Or.inr (Or.inl rfl))) ev_int) ev_int)))) (fun _ _ _ _ _ => by exact (ev_var 3 rfl (Or.inl rfl))))) bv_nil)
  (bv_one (sv_retD (ev_index (unit65 hr) (ev_var 1 rfl (Or.inr (Or.inl rfl))) (ea_cons (ev_ix (ev_cb bi_sorted (by rfl) hB_sorted PyProof.Rows.boot_sorted (ea_cons (ev_var 2 rfl (Or.inl rfl)) ea_nil)) (ev_op os_sub (ev_cb bi_len (by rfl) hB_len PySem.boot_len (ea_cons (ev_var 2 rfl (Or.inl rfl)) ea_nil)) ev_int)) ea_nil))))))
theorem bd_law_winner {K : PySem.W.Frag} {f : Addr} {fd : FuncData} (Fu : Fun K "_law_winner" "_law_winner" s_law_winner f fd) : Binds K fd P_law_winner [] := Fu.binds fun _ _ _ _ _ _ us hl => match us, hl with | [_, _], _ => rfl

/-! ### fits_card -/
abbrev s_fits_card : Stmt := topS 14
abbrev P_fits_card : List Str := ["setup", "value"]
abbrev N_fits_card : List Str := ["setup", "value"]
theorem sc_fits_card : FnScope N_fits_card P_fits_card (defScope s_fits_card) := ⟨rfl, rfl, rfl, by decide +kernel, rfl, by decide +kernel, by decide +kernel⟩
theorem ok_fits_card {P : Program} {w : World} {K : PySem.W.Frag} {mg : Str → Option Value} {base : Heap} {f : Addr} {fd : FuncData} (Fu : Fun K "fits_card" "fits_card" s_fits_card f fd) (hF_whole_between : FnS P w K mg base 1 "whole_between" s_whole_between P_whole_between Rn.f_whole_between) (hB_isinstance : mg "isinstance" = none) (hB_tuple : mg "tuple" = none) (hB_len : mg "len" = none) : FnG P w K mg base 2 f fd P_fits_card (spF K 2 Rn.f_fits_card) := by
  have sc := sc_fits_card
  refine fn_body (N := N_fits_card) (mask := [false, false]) (nl := 0) Fu sc rfl rfl fun cdv A outer s H E hr hgd tk hpo => ?_
  exact (bv_cons (sv_if (eb_of_ew (ew_or (eb_not (eb_of_ev (ev_cb bi_isi (by rfl) hB_isinstance PyProof.Rows.boot_isinstance (ea_cons (ev_var 1 rfl (Or.inl rfl)) (ea_cons (ev_ty (by rfl) hB_tuple PyProof.Rows.boot_tuple) ea_nil))))) (ew_or1 (eb_cmp (os_ne hr.units) (nomark _) (ev_cb bi_len (by rfl) hB_len PySem.boot_len (ea_cons (ev_var 1 rfl (Or.inl rfl)) ea_nil)) ev_int)))) (bv_one (sv_retD ev_bl)) bv_nil)
  (bv_cons (sv_if (eb_not (eb_of_ev (ev_of_eo (eo_call hF_whole_between (hr.mono (by decide)) hgd tk (by rfl) (av_e (ev_ix (ev_var 1 rfl (Or.inl rfl)) ev_int) (av_e ev_int (av_e (ev_op os_sub (ev_cb bi_len (by rfl) hB_len PySem.boot_len (ea_cons (ev_ix (ev_var 0 rfl (Or.inl rfl)) ev_int) ea_nil)) ev_int) av_nil))))))) (bv_one (sv_retD ev_bl)) bv_nil)
  (bv_one (sv_retD (ev_of_eo (eo_call hF_whole_between (hr.mono (by decide)) hgd tk (by rfl) (av_e (ev_ix (ev_var 1 rfl (Or.inl rfl)) ev_int) (av_e ev_int (av_e (ev_op os_sub (ev_ix (ev_ix (ev_var 0 rfl (Or.inl rfl)) ev_int) (ev_ix (ev_var 1 rfl (Or.inl rfl)) ev_int)) ev_int) av_nil)))))))))
theorem bd_fits_card {K : PySem.W.Frag} {f : Addr} {fd : FuncData} (Fu : Fun K "fits_card" "fits_card" s_fits_card f fd) : Binds K fd P_fits_card [] := Fu.binds fun _ _ _ _ _ _ us hl => match us, hl with | [_, _], _ => rfl

/-! ### need_card -/
abbrev s_need_card : Stmt := topS 16
abbrev P_need_card : List Str := ["setup", "value"]
abbrev N_need_card : List Str := ["setup", "value"]
theorem sc_need_card : FnScope N_need_card P_need_card (defScope s_need_card) := ⟨rfl, rfl, rfl, by decide +kernel, rfl, by decide +kernel, by decide +kernel⟩
theorem ok_need_card {P : Program} {w : World} {K : PySem.W.Frag} {mg : Str → Option Value} {base : Heap} {f : Addr} {fd : FuncData} (Fu : Fun K "need_card" "need_card" s_need_card f fd) (hF_fits_card : FnS P w K mg base 2 "fits_card" s_fits_card P_fits_card Rn.f_fits_card) : FnG P w K mg base 3 f fd P_need_card (spF K 2 Rn.f_need_card) := by
  have sc := sc_need_card
  refine fn_body (N := N_need_card) (mask := [false, false]) (nl := 0) Fu sc rfl rfl fun cdv A outer s H E hr hgd tk hpo => ?_
  exact (bv_cons (sv_if (eb_not (eb_of_ev (ev_of_eo (eo_call hF_fits_card (hr.mono (by decide)) hgd tk (by rfl) (av_e (ev_var 0 rfl (Or.inl rfl)) (av_e (ev_var 1 rfl (Or.inl rfl)) av_nil)))))) (bv_one sv_never) bv_nil)
  (bv_one (sv_retD (ev_var 1 rfl (Or.inl rfl)))))
theorem bd_need_card {K : PySem.W.Frag} {f : Addr} {fd : FuncData} (Fu : Fun K "need_card" "need_card" s_need_card f fd) : Binds K fd P_need_card [] := Fu.binds fun _ _ _ _ _ _ us hl => match us, hl with | [_, _], _ => rfl

/-! ### stronger -/
abbrev s_stronger : Stmt := topS 19
abbrev P_stronger : List Str := ["trump", "card", "other_card"]
abbrev N_stronger : List Str := ["trump", "card", "other_card"]
theorem sc_stronger : FnScope N_stronger P_stronger (defScope s_stronger) := ⟨rfl, rfl, rfl, by decide +kernel, rfl, by decide +kernel, by decide +kernel⟩
theorem ok_stronger {P : Program} {w : World} {K : PySem.W.Frag} {mg : Str → Option Value} {base : Heap} {f : Addr} {fd : FuncData} (Fu : Fun K "stronger" "stronger" s_stronger f fd) : FnG P w K mg base 1 f fd P_stronger (spF K 3 Rn.f_stronger) := by
  have sc := sc_stronger
  refine fn_body (N := N_stronger) (mask := [false, false, false]) (nl := 0) Fu sc rfl rfl fun cdv A outer s H E hr hgd tk hpo => ?_
  exact (bv_cons (sv_if (eb_cmp (os_eq hr.units) (nomark _) (ev_ix (ev_var 1 rfl (Or.inl rfl)) ev_int) (ev_ix (ev_var 2 rfl (Or.inl rfl)) ev_int)) (bv_one (sv_retD (ev_cmp os_gt (nomark _) (ev_ix (ev_var 1 rfl (Or.inl rfl)) ev_int) (ev_ix (ev_var 2 rfl (Or.inl rfl)) ev_int)))) bv_nil)
  (bv_one (sv_retD (ev_cmp (os_eq hr.units) (nomark _) (ev_ix (ev_var 1 rfl (Or.inl rfl)) ev_int) (ev_var 0 rfl (Or.inl rfl))))))
theorem bd_stronger {K : PySem.W.Frag} {f : Addr} {fd : FuncData} (Fu : Fun K "stronger" "stronger" s_stronger f fd) : Binds K fd P_stronger [] := Fu.binds fun _ _ _ _ _ _ us hl => match us, hl with | [_, _, _], _ => rfl

/-! ### best_of -/
abbrev s_best_of : Stmt := topS 20
abbrev P_best_of : List Str := ["trump", "played"]
abbrev N_best_of : List Str := ["trump", "played", "best", "place", "card"]
theorem sc_best_of : FnScope N_best_of P_best_of (defScope s_best_of) := ⟨rfl, rfl, rfl, by decide +kernel, rfl, by decide +kernel, by decide +kernel⟩
theorem ok_best_of {P : Program} {w : World} {K : PySem.W.Frag} {mg : Str → Option Value} {base : Heap} {f : Addr} {fd : FuncData} (Fu : Fun K "best_of" "best_of" s_best_of f fd) (hF_stronger : FnS P w K mg base 1 "stronger" s_stronger P_stronger Rn.f_stronger) (hB_enumerate : mg "enumerate" = none) : FnG P w K mg base 2 f fd P_best_of (spF K 2 Rn.f_best_of) := by
  have sc := sc_best_of
  refine fn_body (N := N_best_of) (mask := [false, false]) (nl := 3) Fu sc rfl rfl fun cdv A outer s H E hr hgd tk hpo => ?_
  exact (bv_cons (sv_setD (i := 2) sc.nd rfl (Or.inl rfl) ev_int)
  (bv_cons (sv_for hpo rfl (iv_enum (by rfl) hB_enumerate (ea_cons (ev_var 1 rfl (Or.inl rfl)) ea_nil)) (gv_tup rfl (gvs_cons (gv_name (i := 3) sc.nd rfl (Or.inl rfl)) (gvs_cons (gv_name (i := 4) sc.nd rfl (Or.inl rfl)) gvs_nil))) (bv_one (sv_if (eb_of_ev (ev_of_eo (eo_call hF_stronger (hr.mono (by decide)) hgd tk (by rfl) (av_e (ev_var 0 rfl (Or.inl rfl)) (av_e (ev_var 4 rfl (Or.inl rfl)) (av_e (ev_ix (ev_var 1 rfl (Or.inl rfl)) (ev_var 2 rfl (Or.inl rfl))) av_nil)))))) (bv_one (sv_setD (i := 2) sc.nd rfl (Or.inl rfl) (ev_var 3 rfl (Or.inl rfl)))) bv_nil)))
  (bv_one (sv_retD (ev_var 2 rfl (Or.inl rfl))))))
theorem bd_best_of {K : PySem.W.Frag} {f : Addr} {fd : FuncData} (Fu : Fun K "best_of" "best_of" s_best_of f fd) : Binds K fd P_best_of [] := Fu.binds fun _ _ _ _ _ _ us hl => match us, hl with | [_, _], _ => rfl

/-! ### best_place -/
abbrev s_best_place : Stmt := topS 25
abbrev P_best_place : List Str := ["setup", "played"]
abbrev N_best_place : List Str := ["setup", "played", "card"]
theorem sc_best_place : FnScope N_best_place P_best_place (defScope s_best_place) := ⟨rfl, rfl, rfl, by decide +kernel, rfl, by decide +kernel, by decide +kernel⟩
theorem ok_best_place {P : Program} {w : World} {K : PySem.W.Frag} {mg : Str → Option Value} {base : Heap} {f : Addr} {fd : FuncData} (Fu : Fun K "best_place" "best_place" s_best_place f fd) (hmg : mg "best_place" = some (.ref f)) (hF_need_setup : FnS P w K mg base 4 "need_setup" s_need_setup P_need_setup Rn.f_need_setup) (hF_best_of : FnS P w K mg base 2 "best_of" s_best_of P_best_of Rn.f_best_of) (hF_need_card : FnS P w K mg base 3 "need_card" s_need_card P_need_card Rn.f_need_card) (hB_len : mg "len" = none) (hB_set : mg "set" = none) : FnV P w K mg base 5 "best_place" 1 Rn.f_best_place := by
  have sc := sc_best_place
  refine fnv_mk (N := N_best_place) (ps := ["setup"]) (mask := [false, false]) (nl := 1) Fu sc hmg (fun kV doc pm an cdv ct us rest h => StX.bind_star1 (B := fun l => bindArgs (PySem.W.fnOf "best_place" "best_place" (defArgs s_best_place) (defBody s_best_place) (defScope s_best_place) .none kV doc pm an cdv ct) ⟨l, []⟩) (fun a => rfl) (fun a r rs => rfl) us rest h) rfl rfl fun cdv A outer s H E hr hgd tk hpo => ?_
  exact (bv_cons (sv_expr (ev_of_eo (eo_call hF_need_setup (hr.mono (by decide)) hgd tk (by rfl) (av_e (ev_var 0 rfl (Or.inl rfl)) av_nil))))
  (bv_cons (sv_for hpo rfl (iv_seq (ev_var 1 rfl (Or.inl rfl))) (gv_name (i := 2) sc.nd rfl (Or.inl rfl)) (bv_one (sv_expr (ev_of_eo (eo_call hF_need_card (hr.mono (by decide)) hgd tk (by rfl) (av_e (ev_var 0 rfl (Or.inl rfl)) (av_e (ev_var 2 rfl (Or.inl rfl)) av_nil)))))))
  (bv_cons (sv_if (eb_of_ew (ew_or (eb_not (eb_chain (os_le hr.units0) (os_le hr.units0) ev_int (ev_cb bi_len (by rfl) hB_len PySem.boot_len (ea_cons (ev_var 1 rfl (Or.inl rfl)) ea_nil)) (ev_ix (ev_var 0 rfl (Or.inl rfl)) ev_int))) (ew_or1 (eb_cmp os_lt (nomark _) (ev_lenset rfl hr.units (by rfl) hB_len (by rfl) hB_set (ev_var 1 rfl (Or.inl rfl))) (ev_cb bi_len (by rfl) hB_len PySem.boot_len (ea_cons (ev_var 1 rfl (Or.inl rfl)) ea_nil)))))) (bv_one sv_never) bv_nil)
  (bv_one (sv_retD (ev_of_eo (eo_call hF_best_of (hr.mono (by decide)) hgd tk (by rfl) (av_e (ev_ix (ev_var 0 rfl (Or.inl rfl)) ev_int) (av_e (ev_var 1 rfl (Or.inl rfl)) av_nil)))))))))

/-! ### law_placed -/
abbrev s_law_placed : Stmt := topS 32
abbrev P_law_placed : List Str := ["_law_game", "_law_trick"]
abbrev N_law_placed : List Str := ["_law_game", "_law_trick"]
theorem sc_law_placed : FnScope N_law_placed P_law_placed (defScope s_law_placed) := ⟨rfl, rfl, rfl, by decide +kernel, rfl, by decide +kernel, by decide +kernel⟩
theorem ok_law_placed {P : Program} {w : World} {K : PySem.W.Frag} {mg : Str → Option Value} {base : Heap} {f : Addr} {fd : FuncData} (Fu : Fun K "_law_placed" "_law_placed" s_law_placed f fd) (hF_best_place : FnV P w K mg base 5 "best_place" 1 Rn.f_best_place) (hB_len : mg "len" = none) : FnG P w K mg base 6 f fd P_law_placed (spF K 2 Rn.f_law_placed) := by
  have sc := sc_law_placed
  refine fn_body (N := N_law_placed) (mask := [false, false]) (nl := 0) Fu sc rfl rfl fun cdv A outer s H E hr hgd tk hpo => ?_
  exact (bv_cons (sv_if (eb_cmp (os_eq hr.units) (nomark _) (ev_cb bi_len (by rfl) hB_len PySem.boot_len (ea_cons (ev_var 1 rfl (Or.inl rfl)) ea_nil)) ev_int) (bv_one (sv_retD (ev_of_eo (eo_callV hF_best_place (hr.mono (by decide)) hgd tk (by rfl) (av_e (ev_var 0 rfl (Or.inl rfl)) (av_e (ev_ix (ev_var 1 rfl (Or.inl rfl)) ev_int) (av_e (ev_ix (ev_var 1 rfl (Or.inl rfl)) ev_int) av_nil))))))) bv_nil)
  (bv_cons (sv_if (eb_cmp (os_eq hr.units) (nomark _) (ev_cb bi_len (by rfl) hB_len PySem.boot_len (ea_cons (ev_var 1 rfl (Or.inl rfl)) ea_nil)) ev_int) (bv_one (sv_retD (ev_of_eo (eo_callV hF_best_place (hr.mono (by decide)) hgd tk (by rfl) (av_e (ev_var 0 rfl (Or.inl rfl)) (av_e (ev_ix (ev_var 1 rfl (Or.inl rfl)) ev_int) (av_e (ev_ix (ev_var 1 rfl (Or.inl rfl)) ev_int) (av_e (ev_ix (ev_var 1 rfl (Or.inl rfl)) ev_int) av_nil)))))))) bv_nil)
  (bv_one (sv_retD (ev_of_eo (eo_callV hF_best_place (hr.mono (by decide)) hgd tk (by rfl) (av_e (ev_var 0 rfl (Or.inl rfl)) (av_e (ev_ix (ev_var 1 rfl (Or.inl rfl)) ev_int) (av_e (ev_ix (ev_var 1 rfl (Or.inl rfl)) ev_int) (av_e (ev_ix (ev_var 1 rfl (Or.inl rfl)) ev_int) (av_e (ev_ix (ev_var 1 rfl (Or.inl rfl)) ev_int) av_nil)))))))))))
theorem bd_law_placed {K : PySem.W.Frag} {f : Addr} {fd : FuncData} (Fu : Fun K "_law_placed" "_law_placed" s_law_placed f fd) : Binds K fd P_law_placed [] := Fu.binds fun _ _ _ _ _ _ us hl => match us, hl with | [_, _], _ => rfl

/-! ### fits_cards -/
abbrev s_fits_cards : Stmt := topS 15
abbrev P_fits_cards : List Str := ["setup", "value"]
abbrev N_fits_cards : List Str := ["setup", "value", "place", "card"]
theorem sc_fits_cards : FnScope N_fits_cards P_fits_cards (defScope s_fits_cards) := ⟨rfl, rfl, rfl, by decide +kernel, rfl, by decide +kernel, by decide +kernel⟩
theorem ok_fits_cards {P : Program} {w : World} {K : PySem.W.Frag} {mg : Str → Option Value} {base : Heap} {f : Addr} {fd : FuncData} (Fu : Fun K "fits_cards" "fits_cards" s_fits_cards f fd) (hF_fits_card : FnS P w K mg base 2 "fits_card" s_fits_card P_fits_card Rn.f_fits_card) (hB_enumerate : mg "enumerate" = none) (hB_isinstance : mg "isinstance" = none) (hB_tuple : mg "tuple" = none) : FnG P w K mg base 3 f fd P_fits_cards (spF K 2 Rn.f_fits_cards) := by
  have sc := sc_fits_cards
  refine fn_body (N := N_fits_cards) (mask := [false, false]) (nl := 2) Fu sc rfl rfl fun cdv A outer s H E hr hgd tk hpo => ?_
  exact (bv_cons (sv_if (eb_not (eb_of_ev (ev_cb bi_isi (by rfl) hB_isinstance PyProof.Rows.boot_isinstance (ea_cons (ev_var 1 rfl (Or.inl rfl)) (ea_cons (ev_ty (by rfl) hB_tuple PyProof.Rows.boot_tuple) ea_nil))))) (bv_one (sv_retD ev_bl)) bv_nil)
  (bv_cons (sv_for hpo rfl (iv_enum (by rfl) hB_enumerate (ea_cons (ev_var 1 rfl (Or.inl rfl)) ea_nil)) (gv_tup rfl (gvs_cons (gv_name (i := 2) sc.nd rfl (Or.inl rfl)) (gvs_cons (gv_name (i := 3) sc.nd rfl (Or.inl rfl)) gvs_nil))) (bv_one (sv_if (eb_of_ew (ew_or (eb_not (eb_of_ev (ev_of_eo (eo_call hF_fits_card (hr.mono (by decide)) hgd tk (by rfl) (av_e (ev_var 0 rfl (Or.inl rfl)) (av_e (ev_var 3 rfl (Or.inl rfl)) av_nil)))))) (ew_or1 (eb_of_ew (ew_and (eb_cmp os_gt (nomark _) (ev_var 2 rfl (Or.inl rfl)) ev_int) (ew_and1 (eb_cmp (os_le hr.units0) (nomark _) (ev_var 3 rfl (Or.inl rfl)) (ev_ix (ev_var 1 rfl (Or.inl rfl)) (ev_op os_sub (ev_var 2 rfl (Or.inl rfl)) ev_int))))))))) (bv_one (sv_retD ev_bl)) bv_nil)))
  (bv_one (sv_retD ev_bl))))
theorem bd_fits_cards {K : PySem.W.Frag} {f : Addr} {fd : FuncData} (Fu : Fun K "fits_cards" "fits_cards" s_fits_cards f fd) : Binds K fd P_fits_cards [] := Fu.binds fun _ _ _ _ _ _ us hl => match us, hl with | [_, _], _ => rfl

/-! ### need_cards -/
abbrev s_need_cards : Stmt := topS 17
abbrev P_need_cards : List Str := ["setup", "value"]
abbrev N_need_cards : List Str := ["setup", "value"]
theorem sc_need_cards : FnScope N_need_cards P_need_cards (defScope s_need_cards) := ⟨rfl, rfl, rfl, by decide +kernel, rfl, by decide +kernel, by decide +kernel⟩
theorem ok_need_cards {P : Program} {w : World} {K : PySem.W.Frag} {mg : Str → Option Value} {base : Heap} {f : Addr} {fd : FuncData} (Fu : Fun K "need_cards" "need_cards" s_need_cards f fd) (hF_fits_cards : FnS P w K mg base 3 "fits_cards" s_fits_cards P_fits_cards Rn.f_fits_cards) : FnG P w K mg base 4 f fd P_need_cards (spF K 2 Rn.f_need_cards) := by
  have sc := sc_need_cards
  refine fn_body (N := N_need_cards) (mask := [false, false]) (nl := 0) Fu sc rfl rfl fun cdv A outer s H E hr hgd tk hpo => ?_
  exact (bv_cons (sv_if (eb_not (eb_of_ev (ev_of_eo (eo_call hF_fits_cards (hr.mono (by decide)) hgd tk (by rfl) (av_e (ev_var 0 rfl (Or.inl rfl)) (av_e (ev_var 1 rfl (Or.inl rfl)) av_nil)))))) (bv_one sv_never) bv_nil)
  (bv_one (sv_retD (ev_var 1 rfl (Or.inl rfl)))))
theorem bd_need_cards {K : PySem.W.Frag} {f : Addr} {fd : FuncData} (Fu : Fun K "need_cards" "need_cards" s_need_cards f fd) : Binds K fd P_need_cards [] := Fu.binds fun _ _ _ _ _ _ us hl => match us, hl with | [_, _], _ => rfl

/-! ### playable -/
abbrev s_playable : Stmt := topS 21
abbrev P_playable : List Str := ["setup", "cards", "led", "best"]
abbrev N_playable : List Str := ["setup", "cards", "led", "best", "trump", "ruff", "head", "left", "beating", "card"]
theorem sc_playable : FnScope N_playable P_playable (defScope s_playable) := ⟨rfl, rfl, rfl, by decide +kernel, rfl, by decide +kernel, by decide +kernel⟩
theorem ok_playable {P : Program} {w : World} {K : PySem.W.Frag} {mg : Str → Option Value} {base : Heap} {f : Addr} {fd : FuncData} (Fu : Fun K "playable" "playable" s_playable f fd) (hF_stronger : FnS P w K mg base 1 "stronger" s_stronger P_stronger Rn.f_stronger) (hB_list : mg "list" = none) : FnG P w K mg base 2 f fd P_playable (spF K 4 Rn.f_playable) := by
  have sc := sc_playable
  refine fn_body (N := N_playable) (mask := [false, false, false, false]) (nl := 6) Fu sc rfl rfl fun cdv A outer s H E hr hgd tk hpo => ?_
  exact (bv_cons (sv_asg (ev_slice (ev_var 0 rfl (Or.inl rfl)) (ep_some ev_int) (ep_some ev_int)) (gv_tup rfl (gvs_cons (gv_name (i := 4) sc.nd rfl (Or.inr rfl)) (gvs_cons (gv_name (i := 5) sc.nd rfl (Or.inr rfl)) (gvs_cons (gv_name (i := 6) sc.nd rfl (Or.inr rfl)) gvs_nil)))))
  (bv_cons (sv_if (eb_cmp os_is (nomark _) (ev_var 2 rfl (Or.inr (Or.inl rfl))) ev_non) (bv_one (sv_retO (eo_list (by rfl) hB_list PyProof.Rows.boot_list (ea_cons (ev_var 1 rfl (Or.inl rfl)) ea_nil)))) bv_nil)
  (bv_cons (sv_setLc (i := 7) (own := [("card", 9)]) rfl sc.nd rfl rfl (sw_true rfl rfl rfl (by decide +kernel)) (iv_seq (ev_var 1 rfl (Or.inl rfl))) (blkOk_by (own := [("card", 9)]) (N := N_playable) (sc := defScope s_playable) (by decide +kernel)) (fun _ _ _ _ _ => by exact (gv_name (i := 9) sc.nd rfl (Or.inl rfl) (.inr rfl))) (fun _ _ _ _ _ => by exact (ptv_one (eb_cmp (os_eq hr.units) (nomark _) (ev_ix (ev_var 9 rfl (Or.inl rfl)) ev_int) (ev_ix (ev_var 2 rfl (Or.inr (Or.inl rfl))) ev_int)))) (fun _ _ _ _ _ => by exact (ev_var 9 rfl (Or.inl rfl))))
  (bv_cons (sv_if (eb_bor 7 (eb_cmp (os_eq hr.units) (nomark _) (ev_var 7 rfl (Or.inl rfl)) (ev_lst ea_nil))) (bv_one (sv_setLc (i := 7) (own := [("card", 9)]) rfl sc.nd rfl rfl (sw_true rfl rfl rfl (by decide +kernel)) (iv_seq (ev_var 1 rfl (Or.inl rfl))) (blkOk_by (own := [("card", 9)]) (N := N_playable) (sc := defScope s_playable) (by decide +kernel)) (fun _ _ _ _ _ => by exact (gv_name (i := 9) sc.nd rfl (Or.inl rfl) (.inr rfl))) (fun _ _ _ _ _ => by exact (ptv_one (eb_of_ew (ew_and (eb_of_ev (ev_var 5 rfl (Or.inr (Or.inl rfl)))) (ew_and1 (eb_cmp (os_eq hr.units) (nomark _) (ev_ix (ev_var 9 rfl (Or.inl rfl)) ev_int) (ev_var 4 rfl (Or.inr (Or.inl rfl))))))))) (fun _ _ _ _ _ => by exact (ev_var 9 rfl (Or.inl rfl))))) bv_nil)
  (bv_cons (sv_if (eb_bor 7 (eb_cmp (os_eq hr.units) (nomark _) (ev_var 7 rfl (Or.inl rfl)) (ev_lst ea_nil))) (bv_one (sv_setO (i := 7) sc.nd rfl (Or.inl rfl) (eo_list (by rfl) hB_list PyProof.Rows.boot_list (ea_cons (ev_var 1 rfl (Or.inl rfl)) ea_nil)))) bv_nil)
  (bv_cons (sv_setLcG (i := 8) (own := [("card", 9)]) (tow_bor 7 tow_id) rfl sc.nd rfl rfl (sw_true rfl rfl rfl (by decide +kernel)) (iv_seq (ev_var 7 rfl (Or.inl rfl))) (blkOk_by (own := [("card", 9)]) (N := N_playable) (sc := defScope s_playable) (by decide +kernel)) (fun _ _ _ _ _ => by exact (gv_name (i := 9) sc.nd rfl (Or.inl rfl) (.inr rfl))) (fun _ _ _ _ _ => by exact (ptv_one (eb_of_ew (ew_and (eb_of_ev (ev_var 6 rfl (Or.inr (Or.inl rfl)))) (ew_and1 (eb_of_ev (ev_of_eo (eo_call (X := (Cx.blk (cxOf (CX P w) P w K mg base N_playable "playable" (defScope s_playable) f cdv A outer s H E) _ _ _ _ _)) (k := 1) hF_stronger (hr.mono (by decide)) hgd takes0 (by rfl) (av_e (ev_var 4 rfl (Or.inr (Or.inl rfl))) (av_e (ev_var 9 rfl (Or.inl rfl)) (av_e (ev_var 3 rfl (Or.inr (Or.inl rfl))) av_nil))))))))))) (fun _ _ _ _ _ => by exact (ev_var 9 rfl (Or.inl rfl))))
  (bv_one (sv_retO (eo_if (eb_bor 8 (eb_cmp (os_eq hr.units) (nomark _) (ev_var 8 rfl (Or.inl rfl)) (ev_lst ea_nil))) (eo_take 7 rfl (Or.inl rfl)) (eo_take 8 rfl (Or.inl rfl)))))))))))
theorem bd_playable {K : PySem.W.Frag} {f : Addr} {fd : FuncData} (Fu : Fun K "playable" "playable" s_playable f fd) : Binds K fd P_playable [] := Fu.binds fun _ _ _ _ _ _ us hl => match us, hl with | [_, _, _, _], _ => rfl

/-! ### allowed -/
abbrev s_allowed : Stmt := topS 24
abbrev P_allowed : List Str := ["setup", "cards", "led", "best"]
abbrev N_allowed : List Str := ["setup", "cards", "led", "best"]
theorem sc_allowed : FnScope N_allowed P_allowed (defScope s_allowed) := ⟨rfl, rfl, rfl, by decide +kernel, rfl, by decide +kernel, by decide +kernel⟩
theorem ok_allowed {P : Program} {w : World} {K : PySem.W.Frag} {mg : Str → Option Value} {base : Heap} {f : Addr} {fd : FuncData} (Fu : FunB K "allowed" "allowed" s_allowed f fd) (hF_need_setup : FnS P w K mg base 4 "need_setup" s_need_setup P_need_setup Rn.f_need_setup) (hF_need_cards : FnS P w K mg base 4 "need_cards" s_need_cards P_need_cards Rn.f_need_cards) (hF_playable : FnS P w K mg base 2 "playable" s_playable P_playable Rn.f_playable) (hF_need_card : FnS P w K mg base 3 "need_card" s_need_card P_need_card Rn.f_need_card) : FnG P w K mg base 5 f fd P_allowed (spF K 4 Rn.f_allowed) := by
  have sc := sc_allowed
  refine fn_bodyB (N := N_allowed) (mask := [false, false, false, false]) (nl := 0) Fu sc rfl rfl fun cdv A outer s H E hr hgd tk hpo => ?_
  exact (bv_cons (sv_expr (ev_of_eo (eo_call hF_need_setup (hr.mono (by decide)) hgd tk (by rfl) (av_e (ev_var 0 rfl (Or.inl rfl)) av_nil))))
  (bv_cons (sv_expr (ev_of_eo (eo_call hF_need_cards (hr.mono (by decide)) hgd tk (by rfl) (av_e (ev_var 0 rfl (Or.inl rfl)) (av_e (ev_var 1 rfl (Or.inl rfl)) av_nil)))))
  (bv_cons (sv_if (eb_of_ew (ew_or (eb_cmp os_isn (nomark _) (ev_var 2 rfl (Or.inl rfl)) ev_non) (ew_or1 (eb_cmp os_isn (nomark _) (ev_var 3 rfl (Or.inl rfl)) ev_non)))) (bv_cons (sv_expr (ev_of_eo (eo_call hF_need_card (hr.mono (by decide)) hgd tk (by rfl) (av_e (ev_var 0 rfl (Or.inl rfl)) (av_e (ev_var 2 rfl (Or.inl rfl)) av_nil)))))
  (bv_one (sv_expr (ev_of_eo (eo_call hF_need_card (hr.mono (by decide)) hgd tk (by rfl) (av_e (ev_var 0 rfl (Or.inl rfl)) (av_e (ev_var 3 rfl (Or.inl rfl)) av_nil))))))) bv_nil)
  (bv_one (sv_retO (eo_call hF_playable (hr.mono (by decide)) hgd tk (by rfl) (av_e (ev_var 0 rfl (Or.inl rfl)) (av_e (ev_var 1 rfl (Or.inl rfl)) (av_e (ev_var 2 rfl (Or.inl rfl)) (av_e (ev_var 3 rfl (Or.inl rfl)) av_nil))))))))))

/-! ### beats -/
abbrev s_beats : Stmt := topS 23
abbrev P_beats : List Str := ["setup", "card", "other_card"]
abbrev N_beats : List Str := ["setup", "card", "other_card"]
theorem sc_beats : FnScope N_beats P_beats (defScope s_beats) := ⟨rfl, rfl, rfl, by decide +kernel, rfl, by decide +kernel, by decide +kernel⟩
theorem ok_beats {P : Program} {w : World} {K : PySem.W.Frag} {mg : Str → Option Value} {base : Heap} {f : Addr} {fd : FuncData} (Fu : Fun K "beats" "beats" s_beats f fd) (hF_need_setup : FnS P w K mg base 4 "need_setup" s_need_setup P_need_setup Rn.f_need_setup) (hF_stronger : FnS P w K mg base 1 "stronger" s_stronger P_stronger Rn.f_stronger) (hF_need_card : FnS P w K mg base 3 "need_card" s_need_card P_need_card Rn.f_need_card) : FnG P w K mg base 5 f fd P_beats (spF K 3 Rn.f_beats) := by
  have sc := sc_beats
  refine fn_body (N := N_beats) (mask := [false, false, false]) (nl := 0) Fu sc rfl rfl fun cdv A outer s H E hr hgd tk hpo => ?_
  exact (bv_cons (sv_expr (ev_of_eo (eo_call hF_need_setup (hr.mono (by decide)) hgd tk (by rfl) (av_e (ev_var 0 rfl (Or.inl rfl)) av_nil))))
  (bv_one (sv_retD (ev_of_eo (eo_call hF_stronger (hr.mono (by decide)) hgd tk (by rfl) (av_e (ev_ix (ev_var 0 rfl (Or.inl rfl)) ev_int) (av_e (ev_of_eo (eo_call hF_need_card (hr.mono (by decide)) hgd tk (by rfl) (av_e (ev_var 0 rfl (Or.inl rfl)) (av_e (ev_var 1 rfl (Or.inl rfl)) av_nil)))) (av_e (ev_of_eo (eo_call hF_need_card (hr.mono (by decide)) hgd tk (by rfl) (av_e (ev_var 0 rfl (Or.inl rfl)) (av_e (ev_var 2 rfl (Or.inl rfl)) av_nil)))) av_nil))))))))
theorem bd_beats {K : PySem.W.Frag} {f : Addr} {fd : FuncData} (Fu : Fun K "beats" "beats" s_beats f fd) : Binds K fd P_beats [] := Fu.binds fun _ _ _ _ _ _ us hl => match us, hl with | [_, _, _], _ => rfl

/-! ### law_late -/
abbrev s_law_late : Stmt := topS 33
abbrev P_law_late : List Str := ["_law_game", "_law_one", "_law_trick", "_law_later"]
abbrev N_law_late : List Str := ["_law_game", "_law_one", "_law_trick", "_law_later", "_law_trump", "_law_ruff", "_law_head", "_law_lead", "_law_top", "_law_higher"]
theorem sc_law_late : FnScope N_law_late P_law_late (defScope s_law_late) := ⟨rfl, rfl, rfl, by decide +kernel, rfl, by decide +kernel, by decide +kernel⟩
theorem ok_law_late {P : Program} {w : World} {K : PySem.W.Frag} {mg : Str → Option Value} {base : Heap} {f : Addr} {fd : FuncData} (Fu : Fun K "_law_late" "_law_late" s_law_late f fd) (hF_beats : FnS P w K mg base 5 "beats" s_beats P_beats Rn.f_beats) (hF_law_winner : FnS P w K mg base 1 "_law_winner" s_law_winner P_law_winner Rn.f_law_winner) : FnG P w K mg base 6 f fd P_law_late (spF K 4 Rn.f_law_late) := by
  have sc := sc_law_late
  refine fn_body (N := N_law_late) (mask := [false, false, false, false]) (nl := 6) Fu sc rfl rfl fun cdv A outer s H E hr hgd tk hpo => ?_
  exact (bv_cons (sv_asg (ev_slice (ev_var 0 rfl (Or.inl rfl)) (ep_some ev_int) (ep_some ev_int)) (gv_tup rfl (gvs_cons (gv_name (i := 4) sc.nd rfl (Or.inl rfl)) (gvs_cons (gv_name (i := 5) sc.nd rfl (Or.inl rfl)) (gvs_cons (gv_name (i := 6) sc.nd rfl (Or.inl rfl)) gvs_nil)))))
  (bv_cons (sv_par (i := 7) (j := 8) rfl sc.nd rfl rfl (by decide) rfl rfl (ev_ix (ev_var 2 rfl (Or.inl rfl)) ev_int) (ev_ix (ev_var 2 rfl (Or.inl rfl)) (ev_of_eo (eo_call hF_law_winner (hr.mono (by decide)) hgd tk (by rfl) (av_e (ev_var 4 rfl (Or.inl rfl)) (av_e (ev_var 2 rfl (Or.inl rfl)) av_nil))))))
  (bv_cons (sv_if (eb_of_ew (ew_and (eb_cmp (os_ne hr.units) (nomark _) (ev_ix (ev_var 1 rfl (Or.inl rfl)) ev_int) (ev_ix (ev_var 7 rfl (Or.inl rfl)) ev_int)) (ew_and1 (eb_cmp (os_eq hr.units) (nomark _) (ev_ix (ev_var 3 rfl (Or.inl rfl)) ev_int) (ev_ix (ev_var 7 rfl (Or.inl rfl)) ev_int))))) (bv_one (sv_retD ev_bl)) bv_nil)
  (bv_cons (sv_if (eb_of_ew (ew_and (eb_cmp (os_ne hr.units) (nomark _) (ev_ix (ev_var 1 rfl (Or.inl rfl)) ev_int) (ev_ix (ev_var 7 rfl (Or.inl rfl)) ev_int)) (ew_and (eb_of_ev (ev_var 5 rfl (Or.inl rfl))) (ew_and (eb_cmp (os_ne hr.units) (nomark _) (ev_ix (ev_var 1 rfl (Or.inl rfl)) ev_int) (ev_var 4 rfl (Or.inl rfl))) (ew_and1 (eb_cmp (os_eq hr.units) (nomark _) (ev_ix (ev_var 3 rfl (Or.inl rfl)) ev_int) (ev_var 4 rfl (Or.inl rfl)))))))) (bv_one (sv_retD ev_bl)) bv_nil)
  (bv_cons (sv_setD (i := 9) sc.nd rfl (Or.inl rfl) (ev_and (ev_var 6 rfl (Or.inl rfl)) (ev_and (ev_not (ev_of_eo (eo_call hF_beats (hr.mono (by decide)) hgd tk (by rfl) (av_e (ev_var 0 rfl (Or.inl rfl)) (av_e (ev_var 1 rfl (Or.inl rfl)) (av_e (ev_var 8 rfl (Or.inl rfl)) av_nil)))))) (ev_and1 (ev_of_eo (eo_call hF_beats (hr.mono (by decide)) hgd tk (by rfl) (av_e (ev_var 0 rfl (Or.inl rfl)) (av_e (ev_var 3 rfl (Or.inl rfl)) (av_e (ev_var 8 rfl (Or.inl rfl)) av_nil)))))))))
  (bv_one (sv_retD (ev_and (ev_var 9 rfl (Or.inl rfl)) (ev_and1 (ev_or (ev_cmp (os_ne hr.units) (nomark _) (ev_ix (ev_var 1 rfl (Or.inl rfl)) ev_int) (ev_ix (ev_var 7 rfl (Or.inl rfl)) ev_int)) (ev_and1 (ev_cmp (os_eq hr.units) (nomark _) (ev_ix (ev_var 3 rfl (Or.inl rfl)) ev_int) (ev_ix (ev_var 7 rfl (Or.inl rfl)) ev_int)))))))))))))
theorem bd_law_late {K : PySem.W.Frag} {f : Addr} {fd : FuncData} (Fu : Fun K "_law_late" "_law_late" s_law_late f fd) : Binds K fd P_law_late [] := Fu.binds fun _ _ _ _ _ _ us hl => match us, hl with | [_, _, _, _], _ => rfl

/-! ### law_turn -/
abbrev s_law_turn : Stmt := topS 34
abbrev P_law_turn : List Str := ["_law_pot_here", "_law_game", "_law_hand", "_law_trick"]
abbrev N_law_turn : List Str := ["_law_pot_here", "_law_game", "_law_hand", "_law_trick", "_law_some", "_law_top", "_law_one", "_law_late_here", "_law_other"]
theorem sc_law_turn : FnScope N_law_turn P_law_turn (defScope s_law_turn) := ⟨rfl, rfl, rfl, by decide +kernel, rfl, by decide +kernel, by decide +kernel⟩
theorem ok_law_turn {P : Program} {w : World} {K : PySem.W.Frag} {mg : Str → Option Value} {base : Heap} {f : Addr} {fd : FuncData} (Fu : Fun K "_law_turn" "_law_turn" s_law_turn f fd) (hF_allowed_c0 : FnC P w K mg base 5 "allowed" P_allowed Rn.f_allowed 4 [] [0, 1, 2, 3] [.non, .non]) (hF_allowed_c1 : FnC P w K mg base 5 "allowed" P_allowed Rn.f_allowed 2 [] [0, 1, 2, 3] [.non, .non]) (hF_law_winner : FnS P w K mg base 1 "_law_winner" s_law_winner P_law_winner Rn.f_law_winner) (hF_law_out : FnS P w K mg base 1 "_law_out" s_law_out P_law_out Rn.f_law_out) (hF_law_late : FnS P w K mg base 6 "_law_late" s_law_late P_law_late Rn.f_law_late) (hB_tuple : mg "tuple" = none) (hB_sorted : mg "sorted" = none) (hB_len : mg "len" = none) : FnG P w K mg base 7 f fd P_law_turn (spF K 4 Rn.f_law_turn) := by
  have sc := sc_law_turn
  refine fn_body (N := N_law_turn) (mask := [true, false, false, false]) (nl := 5) Fu sc rfl rfl fun cdv A outer s H E hr hgd tk hpo => ?_
  exact (bv_cons (sv_if (eb_cmp (os_eq hr.units) (nomark _) (ev_var 3 rfl (Or.inr (Or.inl rfl))) (ev_lst ea_nil)) (bv_cons (sv_setD (i := 4) sc.nd rfl (Or.inl rfl) (ev_of_eo (eo_callC hF_allowed_c1 (hr.mono (by decide)) hgd tk (by rfl) (av_e (ev_var 1 rfl (Or.inr (Or.inl rfl))) (av_e (ev_ct bt_tuple (by rfl) hB_tuple PyProof.Rows.boot_tuple (ea_cons (ev_var 2 rfl (Or.inr (Or.inl rfl))) ea_nil)) av_nil)))))
  (bv_one (sv_retD (ev_if (eb_of_ew (ew_and (eb_cmp (os_eq hr.units) (nomark _) (ev_var 4 rfl (Or.inl rfl)) (ev_var 2 rfl (Or.inr (Or.inl rfl)))) (ew_and1 (eb_cmp (os_ne hr.units) (nomark _) (ev_var 2 rfl (Or.inr (Or.inl rfl))) (ev_lst ea_nil))))) (ev_ix (ev_var 4 rfl (Or.inl rfl)) (ev_of_eo (eo_call hF_law_out (hr.mono (by decide)) hgd tk (by rfl) (av_io 0 (av_e (ev_cb bi_len (by rfl) hB_len PySem.boot_len (ea_cons (ev_var 4 rfl (Or.inl rfl)) ea_nil)) av_nil) rfl (Or.inl rfl))))) ev_non)))) bv_nil)
  (bv_cons (sv_setD (i := 5) sc.nd rfl (Or.inl rfl) (ev_ix (ev_var 3 rfl (Or.inr (Or.inl rfl))) (ev_of_eo (eo_call hF_law_winner (hr.mono (by decide)) hgd tk (by rfl) (av_e (ev_ix (ev_var 1 rfl (Or.inr (Or.inl rfl))) ev_int) (av_e (ev_var 3 rfl (Or.inr (Or.inl rfl))) av_nil))))))
  (bv_cons (sv_setD (i := 4) sc.nd rfl (Or.inl rfl) (ev_of_eo (eo_callC hF_allowed_c0 (hr.mono (by decide)) hgd tk (by rfl) (av_e (ev_var 1 rfl (Or.inr (Or.inl rfl))) (av_e (ev_ct bt_tuple (by rfl) hB_tuple PyProof.Rows.boot_tuple (ea_cons (ev_var 2 rfl (Or.inr (Or.inl rfl))) ea_nil)) (av_e (ev_ix (ev_var 3 rfl (Or.inr (Or.inl rfl))) ev_int) (av_e (ev_var 5 rfl (Or.inl rfl)) av_nil)))))))
  (bv_cons (sv_if (eb_of_ew (ew_or (eb_cmp (os_eq hr.units) (nomark _) (ev_var 4 rfl (Or.inl rfl)) (ev_lst ea_nil)) (ew_or (eb_cmp (os_ne hr.units) (nomark _) (ev_var 4 rfl (Or.inl rfl)) (ev_cb bi_sorted (by rfl) hB_sorted PyProof.Rows.boot_sorted (ea_cons (ev_var 4 rfl (Or.inl rfl)) ea_nil))) (ew_or1 (eb_cmp (os_ne hr.units) (nomark _) (ev_of_eo (eo_lc (own := [("_law_one", 6)]) rfl sc.nd (iv_seq (ev_var 4 rfl (Or.inl rfl))) (blkOk_by (own := [("_law_one", 6)]) (N := N_law_turn) (sc := defScope s_law_turn) (by decide +kernel)) (fun _ _ _ _ _ => by exact (gv_name (i := 6) sc.nd rfl (Or.inl rfl) (.inr rfl))) (fun _ _ _ _ _ => by exact (ptv_one (eb_cmp (os_nin (unit65 hr)) (by with_unfolding_all rfl) (ev_var 6 rfl (Or.inl rfl)) (ev_var 2 rfl (Or.inr (Or.inl rfl)))))) (fun _ _ _ _ _ => by exact (ev_var 6 rfl (Or.inl rfl))))) (ev_lst ea_nil)))))) (bv_one (sv_retD ev_non)) bv_nil)
  (bv_cons (sv_for hpo rfl (iv_seq (ev_var 2 rfl (Or.inr (Or.inl rfl)))) (gv_name (i := 6) sc.nd rfl (Or.inr rfl)) (bv_cons (sv_setLcD (i := 7) (own := [("_law_other", 8)]) rfl sc.nd rfl rfl (sw_true rfl rfl rfl (by decide +kernel)) (iv_seq (ev_var 2 rfl (Or.inr (Or.inl rfl)))) (blkOk_by (own := [("_law_other", 8)]) (N := N_law_turn) (sc := defScope s_law_turn) (by decide +kernel)) (fun _ _ _ _ _ => by exact (gv_name (i := 8) sc.nd rfl (Or.inl rfl) (.inr rfl))) (fun _ _ _ _ _ => by exact (ptv_one (eb_of_ev (ev_of_eo (eo_call (X := (Cx.blk (cxOf (CX P w) P w K mg base N_law_turn "_law_turn" (defScope s_law_turn) f cdv A outer s H E) _ _ _ _ _)) (k := 6) hF_law_late (hr.mono (by decide)) hgd takes0 (by rfl) (av_e (ev_var 1 rfl (Or.inr (Or.inl rfl))) (av_e (ev_var 6 rfl (Or.inr (Or.inl rfl))) (av_e (ev_var 3 rfl (Or.inr (Or.inl rfl))) (av_e (ev_var 8 rfl (Or.inl rfl)) av_nil))))))))) (fun _ _ _ _ _ => by exact (ev_var 8 rfl (Or.inl rfl))))
  (bv_one (sv_if (eb_cmp (os_ne hr.units) (nomark _) (ev_cmp (os_eq hr.units) (nomark _) (ev_var 7 rfl (Or.inl rfl)) (ev_lst ea_nil)) (ev_cmp (os_in (unit65 hr)) (by with_unfolding_all rfl) (ev_var 6 rfl (Or.inr (Or.inl rfl))) (ev_var 4 rfl (Or.inl rfl)))) (bv_one (sv_retD ev_non)) bv_nil))))
  (bv_one (sv_retD (ev_ix (ev_var 4 rfl (Or.inl rfl)) (ev_of_eo (eo_call hF_law_out (hr.mono (by decide)) hgd tk (by rfl) (av_io 0 (av_e (ev_cb bi_len (by rfl) hB_len PySem.boot_len (ea_cons (ev_var 4 rfl (Or.inl rfl)) ea_nil)) av_nil) rfl (Or.inl rfl))))))))))))
theorem bd_law_turn {K : PySem.W.Frag} {f : Addr} {fd : FuncData} (Fu : Fun K "_law_turn" "_law_turn" s_law_turn f fd) : Binds K fd P_law_turn [] := Fu.binds fun _ _ _ _ _ _ us hl => match us, hl with | [_, _, _, _], _ => rfl
-- note line 156: _law_one is a local and a comprehension's name

/-! ### law_right -/
abbrev s_law_right : Stmt := topS 35
abbrev P_law_right : List Str := ["_law_pot_here", "_law_game"]
abbrev N_law_right : List Str := ["_law_pot_here", "_law_game", "_law_left", "_law_hands", "_law_k", "_law_player", "_law_gone", "_law_trick", "_law_at", "_law_one"]
theorem sc_law_right : FnScope N_law_right P_law_right (defScope s_law_right) := ⟨rfl, rfl, rfl, by decide +kernel, rfl, by decide +kernel, by decide +kernel⟩
theorem ok_law_right {P : Program} {w : World} {K : PySem.W.Frag} {mg : Str → Option Value} {base : Heap} {f : Addr} {fd : FuncData} (Fu : Fun K "_law_right" "_law_right" s_law_right f fd) (hF_all_cards : FnS P w K mg base 5 "all_cards" s_all_cards P_all_cards Rn.f_all_cards) (hF_law_turn : FnS P w K mg base 7 "_law_turn" s_law_turn P_law_turn Rn.f_law_turn) (hF_law_placed : FnS P w K mg base 6 "_law_placed" s_law_placed P_law_placed Rn.f_law_placed) (hF_law_winner : FnS P w K mg base 1 "_law_winner" s_law_winner P_law_winner Rn.f_law_winner) (hF_law_out : FnS P w K mg base 1 "_law_out" s_law_out P_law_out Rn.f_law_out) (hB_range : mg "range" = none) (hB_list : mg "list" = none) (hB_sorted : mg "sorted" = none) (hB_int : mg "int" = none) (hB_len : mg "len" = none) (hB_set : mg "set" = none) : FnG P w K mg base 8 f fd P_law_right (spF K 2 Rn.f_law_right_3) := by
  have sc := sc_law_right
  refine fn_body (N := N_law_right) (mask := [true, false]) (nl := 8) Fu sc rfl rfl fun cdv A outer s H E hr hgd tk hpo => ?_
  exact (bv_cons (sv_parC (i := 2) (j := 3) rfl sc.nd rfl rfl (by decide) (Or.inr rfl) (Or.inl rfl) (eo_list (by rfl) hB_list PyProof.Rows.boot_list (ea_cons (ev_of_eo (eo_call hF_all_cards (hr.mono (by decide)) hgd tk (by rfl) (av_e (ev_var 1 rfl (Or.inl rfl)) av_nil))) ea_nil)) (eo_lst ea_nil))
  (bv_cons (sv_for hpo rfl (iv_range1 (by rfl) hB_range (ea_cons (ev_ix (ev_var 1 rfl (Or.inl rfl)) ev_int) ea_nil)) (gv_name (i := 4) sc.nd rfl (Or.inl rfl)) (bv_one (sv_appO 3 (eo_sorted (by rfl) hB_sorted PyProof.Rows.boot_sorted (ea_cons (ev_of_eo (eo_lc (own := [("_law_at", 8)]) rfl sc.nd (iv_range1 (by rfl) hB_range (ea_cons (ev_ix (ev_var 1 rfl (Or.inl rfl)) ev_int) ea_nil)) (blkOk_by (own := [("_law_at", 8)]) (N := N_law_right) (sc := defScope s_law_right) (by decide +kernel)) (fun _ _ _ _ _ => by exact (gv_name (i := 8) sc.nd rfl (Or.inl rfl) (.inr rfl))) (fun _ _ _ _ _ => by exact ptv_nil) (fun _ _ _ _ _ => by exact (ev_pop 2 (ev_of_eo (eo_call (X := (Cx.blk (cxOf (CX P w) P w K mg base N_law_right "_law_right" (defScope s_law_right) f cdv A outer s H E) _ _ _ _ _)) (k := 1) hF_law_out (hr.mono (by decide)) hgd takes0 (by rfl) (av_io 0 (av_e (ev_cbo bi_len (by rfl) hB_len PySem.boot_len (i := 2) rfl (Or.inr (Or.inl rfl))) av_nil) rfl (Or.inr (Or.inl rfl))))) rfl (Or.inr (Or.inl rfl)))))) ea_nil)) rfl (Or.inl rfl))))
  (bv_cons (sv_par (i := 5) (j := 6) rfl sc.nd rfl rfl (by decide) rfl rfl (ev_ix (ev_var 1 rfl (Or.inl rfl)) ev_int) (ev_lst ea_nil))
  (bv_cons (sv_for hpo rfl (iv_range1 (by rfl) hB_range (ea_cons (ev_ix (ev_var 1 rfl (Or.inl rfl)) ev_int) ea_nil)) (gv_name (i := 4) sc.nd rfl (Or.inl rfl)) (bv_cons (sv_setO (i := 7) sc.nd rfl (Or.inl rfl) (eo_lst ea_nil))
  (bv_cons (sv_for hpo rfl (iv_range1 (by rfl) hB_range (ea_cons (ev_ix (ev_var 1 rfl (Or.inl rfl)) ev_int) ea_nil)) (gv_name (i := 8) sc.nd rfl (Or.inl rfl)) (bv_cons (sv_setD (i := 9) sc.nd rfl (Or.inl rfl) (ev_bor 7 (ev_bor 3 (ev_of_eo (eo_call hF_law_turn (hr.mono (by decide)) hgd tk (by rfl) (av_io 0 (av_e (ev_var 1 rfl (Or.inl rfl)) (av_e (ev_ix (ev_var 3 rfl (Or.inl rfl)) (ev_var 5 rfl (Or.inl rfl))) (av_e (ev_var 7 rfl (Or.inl rfl)) av_nil))) rfl (Or.inr (Or.inl rfl))))))))
  (bv_cons (sv_if (eb_cmp os_is (nomark _) (ev_var 9 rfl (Or.inl rfl)) ev_non) (bv_one (sv_retD ev_bl)) bv_nil)
  (bv_cons (sv_remN 3 9 (unit65 hr) (ev_var 5 rfl (Or.inl rfl)) rfl (Or.inl rfl) rfl (Or.inl rfl))
  (bv_cons (sv_app 7 (ev_var 9 rfl (Or.inl rfl)) rfl (Or.inl rfl))
  (bv_one (sv_setD (i := 5) sc.nd rfl (Or.inl rfl) (ev_op os_mod (ev_ct bt_int (by rfl) hB_int PyProof.Rows.boot_int (ea_cons (ev_op os_add (ev_var 5 rfl (Or.inl rfl)) ev_int) ea_nil)) (ev_ix (ev_var 1 rfl (Or.inl rfl)) ev_int)))))))))
  (bv_cons (sv_if (eb_bor 7 (eb_cmp (os_ne hr.units) (nomark _) (ev_of_eo (eo_call hF_law_placed (hr.mono (by decide)) hgd tk (by rfl) (av_e (ev_var 1 rfl (Or.inl rfl)) (av_e (ev_var 7 rfl (Or.inl rfl)) av_nil)))) (ev_of_eo (eo_call hF_law_winner (hr.mono (by decide)) hgd tk (by rfl) (av_e (ev_ix (ev_var 1 rfl (Or.inl rfl)) ev_int) (av_e (ev_var 7 rfl (Or.inl rfl)) av_nil)))))) (bv_one (sv_retD ev_bl)) bv_nil)
  (bv_cons (sv_setD (i := 5) sc.nd rfl (Or.inl rfl) (ev_bor 7 (ev_op os_mod (ev_ct bt_int (by rfl) hB_int PyProof.Rows.boot_int (ea_cons (ev_op os_add (ev_var 5 rfl (Or.inl rfl)) (ev_of_eo (eo_call hF_law_winner (hr.mono (by decide)) hgd tk (by rfl) (av_e (ev_ix (ev_var 1 rfl (Or.inl rfl)) ev_int) (av_e (ev_var 7 rfl (Or.inl rfl)) av_nil))))) ea_nil)) (ev_ix (ev_var 1 rfl (Or.inl rfl)) ev_int))))
  (bv_one (sv_setD (i := 6) sc.nd rfl (Or.inl rfl) (ev_of_eo (eo_bor 7 (eo_cat (ev_var 6 rfl (Or.inl rfl)) (ev_var 7 rfl (Or.inl rfl))))))))))))
  (bv_one (sv_retD (ev_and (ev_cmp (os_eq hr.units) (nomark _) (ev_cb bi_sorted (by rfl) hB_sorted PyProof.Rows.boot_sorted (ea_cons (ev_op os_add (ev_var 6 rfl (Or.inl rfl)) (ev_var 2 rfl (Or.inr (Or.inl rfl)))) ea_nil)) (ev_ct bt_list (by rfl) hB_list PyProof.Rows.boot_list (ea_cons (ev_of_eo (eo_call hF_all_cards (hr.mono (by decide)) hgd tk (by rfl) (av_e (ev_var 1 rfl (Or.inl rfl)) av_nil))) ea_nil))) (ev_and1 (ev_cmp (os_eq hr.units) (nomark _) (ev_lenset rfl hr.units (by rfl) hB_len (by rfl) hB_set (ev_var 6 rfl (Or.inl rfl))) (ev_op os_mul (ev_ix (ev_var 1 rfl (Or.inl rfl)) ev_int) (ev_ix (ev_var 1 rfl (Or.inl rfl)) ev_int)))))))))))
theorem bd_law_right {K : PySem.W.Frag} {f : Addr} {fd : FuncData} (Fu : Fun K "_law_right" "_law_right" s_law_right f fd) : Binds K fd P_law_right [] := Fu.binds fun _ _ _ _ _ _ us hl => match us, hl with | [_, _], _ => rfl
-- note line 166: _law_at is a local and a comprehension's name
-- note line 181: _law_left is frozen

/-! ### law -/
abbrev s_law : Stmt := topS 36
abbrev P_law : List Str := ["_law_script"]
abbrev N_law : List Str := ["_law_script", "_law_cell", "_law_pot_here"]
theorem sc_law : FnScope N_law P_law (defScope s_law) := ⟨rfl, rfl, rfl, by decide +kernel, rfl, by decide +kernel, by decide +kernel⟩
theorem ok_law {P : Program} {w : World} {K : PySem.W.Frag} {mg : Str → Option Value} {base : Heap} {f : Addr} {fd : FuncData} (Fu : Fun K "law" "law" s_law f fd) (hF_law_pot : FnS P w K mg base 1 "_law_pot" s_law_pot P_law_pot Rn.f_law_pot) (hF_law_right : FnS P w K mg base 8 "_law_right" s_law_right P_law_right Rn.f_law_right_3) (hF_law_setup : FnS P w K mg base 2 "_law_setup" s_law_setup P_law_setup Rn.f_law_setup) : FnG P w K mg base 9 f fd P_law (spF K 1 Rn.f_law_K07) := by
  have sc := sc_law
  refine fn_body (N := N_law) (mask := [false]) (nl := 2) Fu sc rfl rfl fun cdv A outer s H E hr hgd tk hpo => ?_
  exact (bv_cons (sv_for hpo rfl (iv_seq (ev_op os_add (ev_slice (ev_var 0 rfl (Or.inl rfl)) ep_none (ep_some ev_int)) (ev_lst (ea_cons (ev_op os_add (ev_op os_pow ev_int ev_int) ev_int) (ea_cons (ev_op os_add (ev_op os_pow ev_int ev_int) ev_int) ea_nil))))) (gv_name (i := 1) sc.nd rfl (Or.inl rfl)) (bv_cons (sv_setO (i := 2) sc.nd rfl (Or.inl rfl) (eo_call hF_law_pot (hr.mono (by decide)) hgd tk (by rfl) (av_e (ev_var 1 rfl (Or.inl rfl)) av_nil)))
  (bv_one (sv_if (eb_not (eb_of_ev (ev_of_eo (eo_call hF_law_right (hr.mono (by decide)) hgd tk (by rfl) (av_io 2 (av_e (ev_of_eo (eo_call hF_law_setup (hr.mono (by decide)) hgd tk (by rfl) (av_io 2 av_nil rfl (Or.inl rfl)))) av_nil) rfl (Or.inl rfl)))))) (bv_one (sv_retD ev_bl)) bv_nil))))
  (bv_one (sv_retD ev_bl)))
theorem bd_law {K : PySem.W.Frag} {f : Addr} {fd : FuncData} (Fu : Fun K "law" "law" s_law f fd) : Binds K fd P_law [] := Fu.binds fun _ _ _ _ _ _ us hl => match us, hl with | [_], _ => rfl

theorem all_mk {l : PySem.W.OpenLaw} {w : World} {K : PySem.W.Frag} {h : Heap} {mg : Str → Option Value} {fa : Addr} (X : K.In h) (G : h.Ns mainGlobals mg) (hfa : mg "law" = some (.ref fa))
    {f0 : Addr} {od0 an0 : Option Addr} {sl0 : Array (Option Value)} {oc0 kV0 dc0 pm0 cd0 ct0 : Value} (a0 : PySem.W.nsIn K mainGlobals "_law_pot" = some (some (.ref f0)))
    (l0 : K.lookup f0 = some ⟨oc0, od0, .func (PySem.W.fnOf "_law_pot" "_law_pot" (defArgs s_law_pot) (defBody s_law_pot) (defScope s_law_pot) .none kV0 dc0 pm0 an0 cd0 ct0), sl0⟩) (c0 : PySem.W.codeIn K cd0 "_law_pot" = true) (k0 : PySem.W.keepIn K (.ref f0) = true)
    {f1 : Addr} {od1 an1 : Option Addr} {sl1 : Array (Option Value)} {oc1 kV1 dc1 pm1 cd1 ct1 : Value} (a1 : PySem.W.nsIn K mainGlobals "_law_out" = some (some (.ref f1)))
    (l1 : K.lookup f1 = some ⟨oc1, od1, .func (PySem.W.fnOf "_law_out" "_law_out" (defArgs s_law_out) (defBody s_law_out) (defScope s_law_out) .none kV1 dc1 pm1 an1 cd1 ct1), sl1⟩) (c1 : PySem.W.codeIn K cd1 "_law_out" = true) (k1 : PySem.W.keepIn K (.ref f1) = true)
    {f2 : Addr} {od2 an2 : Option Addr} {sl2 : Array (Option Value)} {oc2 kV2 dc2 pm2 cd2 ct2 : Value} (a2 : PySem.W.nsIn K mainGlobals "_law_setup" = some (some (.ref f2)))
    (l2 : K.lookup f2 = some ⟨oc2, od2, .func (PySem.W.fnOf "_law_setup" "_law_setup" (defArgs s_law_setup) (defBody s_law_setup) (defScope s_law_setup) .none kV2 dc2 pm2 an2 cd2 ct2), sl2⟩) (c2 : PySem.W.codeIn K cd2 "_law_setup" = true) (k2 : PySem.W.keepIn K (.ref f2) = true)
    {f3 : Addr} {od3 an3 : Option Addr} {sl3 : Array (Option Value)} {oc3 kV3 dc3 pm3 cd3 ct3 : Value} (a3 : PySem.W.nsIn K mainGlobals "whole_between" = some (some (.ref f3)))
    (l3 : K.lookup f3 = some ⟨oc3, od3, .func (PySem.W.fnOf "whole_between" "whole_between" (defArgs s_whole_between) (defBody s_whole_between) (defScope s_whole_between) .none kV3 dc3 pm3 an3 cd3 ct3), sl3⟩) (c3 : PySem.W.codeIn K cd3 "whole_between" = true) (k3 : PySem.W.keepIn K (.ref f3) = true)
    {f4 : Addr} {od4 an4 : Option Addr} {sl4 : Array (Option Value)} {oc4 kV4 dc4 pm4 cd4 ct4 : Value} (a4 : PySem.W.nsIn K mainGlobals "is_deck" = some (some (.ref f4)))
    (l4 : K.lookup f4 = some ⟨oc4, od4, .func (PySem.W.fnOf "is_deck" "is_deck" (defArgs s_is_deck) (defBody s_is_deck) (defScope s_is_deck) .none kV4 dc4 pm4 an4 cd4 ct4), sl4⟩) (c4 : PySem.W.codeIn K cd4 "is_deck" = true) (k4 : PySem.W.keepIn K (.ref f4) = true)
    {f5 : Addr} {od5 an5 : Option Addr} {sl5 : Array (Option Value)} {oc5 kV5 dc5 pm5 cd5 ct5 : Value} (a5 : PySem.W.nsIn K mainGlobals "is_setup" = some (some (.ref f5)))
    (l5 : K.lookup f5 = some ⟨oc5, od5, .func (PySem.W.fnOf "is_setup" "is_setup" (defArgs s_is_setup) (defBody s_is_setup) (defScope s_is_setup) .none kV5 dc5 pm5 an5 cd5 ct5), sl5⟩) (c5 : PySem.W.codeIn K cd5 "is_setup" = true) (k5 : PySem.W.keepIn K (.ref f5) = true)
    {f6 : Addr} {od6 an6 : Option Addr} {sl6 : Array (Option Value)} {oc6 kV6 dc6 pm6 cd6 ct6 : Value} (a6 : PySem.W.nsIn K mainGlobals "need_setup" = some (some (.ref f6)))
    (l6 : K.lookup f6 = some ⟨oc6, od6, .func (PySem.W.fnOf "need_setup" "need_setup" (defArgs s_need_setup) (defBody s_need_setup) (defScope s_need_setup) .none kV6 dc6 pm6 an6 cd6 ct6), sl6⟩) (c6 : PySem.W.codeIn K cd6 "need_setup" = true) (k6 : PySem.W.keepIn K (.ref f6) = true)
    {f7 : Addr} {od7 an7 : Option Addr} {sl7 : Array (Option Value)} {oc7 kV7 dc7 pm7 cd7 ct7 : Value} (a7 : PySem.W.nsIn K mainGlobals "deck_cards" = some (some (.ref f7)))
    (l7 : K.lookup f7 = some ⟨oc7, od7, .func (PySem.W.fnOf "deck_cards" "deck_cards" (defArgs s_deck_cards) (defBody s_deck_cards) (defScope s_deck_cards) .none kV7 dc7 pm7 an7 cd7 ct7), sl7⟩) (c7 : PySem.W.codeIn K cd7 "deck_cards" = true) (k7 : PySem.W.keepIn K (.ref f7) = true)
    {f8 : Addr} {od8 an8 : Option Addr} {sl8 : Array (Option Value)} {oc8 kV8 dc8 pm8 cd8 ct8 : Value} (a8 : PySem.W.nsIn K mainGlobals "all_cards" = some (some (.ref f8)))
    (l8 : K.lookup f8 = some ⟨oc8, od8, .func (PySem.W.fnOf "all_cards" "all_cards" (defArgs s_all_cards) (defBody s_all_cards) (defScope s_all_cards) .none kV8 dc8 pm8 an8 cd8 ct8), sl8⟩) (c8 : PySem.W.codeIn K cd8 "all_cards" = true) (k8 : PySem.W.keepIn K (.ref f8) = true)
    {f9 : Addr} {od9 an9 : Option Addr} {sl9 : Array (Option Value)} {oc9 kV9 dc9 pm9 cd9 ct9 : Value} (a9 : PySem.W.nsIn K mainGlobals "_law_winner" = some (some (.ref f9)))
    (l9 : K.lookup f9 = some ⟨oc9, od9, .func (PySem.W.fnOf "_law_winner" "_law_winner" (defArgs s_law_winner) (defBody s_law_winner) (defScope s_law_winner) .none kV9 dc9 pm9 an9 cd9 ct9), sl9⟩) (c9 : PySem.W.codeIn K cd9 "_law_winner" = true) (k9 : PySem.W.keepIn K (.ref f9) = true)
    {f10 : Addr} {od10 an10 : Option Addr} {sl10 : Array (Option Value)} {oc10 kV10 dc10 pm10 cd10 ct10 : Value} (a10 : PySem.W.nsIn K mainGlobals "fits_card" = some (some (.ref f10)))
    (l10 : K.lookup f10 = some ⟨oc10, od10, .func (PySem.W.fnOf "fits_card" "fits_card" (defArgs s_fits_card) (defBody s_fits_card) (defScope s_fits_card) .none kV10 dc10 pm10 an10 cd10 ct10), sl10⟩) (c10 : PySem.W.codeIn K cd10 "fits_card" = true) (k10 : PySem.W.keepIn K (.ref f10) = true)
    {f11 : Addr} {od11 an11 : Option Addr} {sl11 : Array (Option Value)} {oc11 kV11 dc11 pm11 cd11 ct11 : Value} (a11 : PySem.W.nsIn K mainGlobals "need_card" = some (some (.ref f11)))
    (l11 : K.lookup f11 = some ⟨oc11, od11, .func (PySem.W.fnOf "need_card" "need_card" (defArgs s_need_card) (defBody s_need_card) (defScope s_need_card) .none kV11 dc11 pm11 an11 cd11 ct11), sl11⟩) (c11 : PySem.W.codeIn K cd11 "need_card" = true) (k11 : PySem.W.keepIn K (.ref f11) = true)
    {f12 : Addr} {od12 an12 : Option Addr} {sl12 : Array (Option Value)} {oc12 kV12 dc12 pm12 cd12 ct12 : Value} (a12 : PySem.W.nsIn K mainGlobals "stronger" = some (some (.ref f12)))
    (l12 : K.lookup f12 = some ⟨oc12, od12, .func (PySem.W.fnOf "stronger" "stronger" (defArgs s_stronger) (defBody s_stronger) (defScope s_stronger) .none kV12 dc12 pm12 an12 cd12 ct12), sl12⟩) (c12 : PySem.W.codeIn K cd12 "stronger" = true) (k12 : PySem.W.keepIn K (.ref f12) = true)
    {f13 : Addr} {od13 an13 : Option Addr} {sl13 : Array (Option Value)} {oc13 kV13 dc13 pm13 cd13 ct13 : Value} (a13 : PySem.W.nsIn K mainGlobals "best_of" = some (some (.ref f13)))
    (l13 : K.lookup f13 = some ⟨oc13, od13, .func (PySem.W.fnOf "best_of" "best_of" (defArgs s_best_of) (defBody s_best_of) (defScope s_best_of) .none kV13 dc13 pm13 an13 cd13 ct13), sl13⟩) (c13 : PySem.W.codeIn K cd13 "best_of" = true) (k13 : PySem.W.keepIn K (.ref f13) = true)
    {f14 : Addr} {od14 an14 : Option Addr} {sl14 : Array (Option Value)} {oc14 kV14 dc14 pm14 cd14 ct14 : Value} (a14 : PySem.W.nsIn K mainGlobals "best_place" = some (some (.ref f14)))
    (l14 : K.lookup f14 = some ⟨oc14, od14, .func (PySem.W.fnOf "best_place" "best_place" (defArgs s_best_place) (defBody s_best_place) (defScope s_best_place) .none kV14 dc14 pm14 an14 cd14 ct14), sl14⟩) (c14 : PySem.W.codeIn K cd14 "best_place" = true) (k14 : PySem.W.keepIn K (.ref f14) = true)
    {f15 : Addr} {od15 an15 : Option Addr} {sl15 : Array (Option Value)} {oc15 kV15 dc15 pm15 cd15 ct15 : Value} (a15 : PySem.W.nsIn K mainGlobals "_law_placed" = some (some (.ref f15)))
    (l15 : K.lookup f15 = some ⟨oc15, od15, .func (PySem.W.fnOf "_law_placed" "_law_placed" (defArgs s_law_placed) (defBody s_law_placed) (defScope s_law_placed) .none kV15 dc15 pm15 an15 cd15 ct15), sl15⟩) (c15 : PySem.W.codeIn K cd15 "_law_placed" = true) (k15 : PySem.W.keepIn K (.ref f15) = true)
    {f16 : Addr} {od16 an16 : Option Addr} {sl16 : Array (Option Value)} {oc16 kV16 dc16 pm16 cd16 ct16 : Value} (a16 : PySem.W.nsIn K mainGlobals "fits_cards" = some (some (.ref f16)))
    (l16 : K.lookup f16 = some ⟨oc16, od16, .func (PySem.W.fnOf "fits_cards" "fits_cards" (defArgs s_fits_cards) (defBody s_fits_cards) (defScope s_fits_cards) .none kV16 dc16 pm16 an16 cd16 ct16), sl16⟩) (c16 : PySem.W.codeIn K cd16 "fits_cards" = true) (k16 : PySem.W.keepIn K (.ref f16) = true)
    {f17 : Addr} {od17 an17 : Option Addr} {sl17 : Array (Option Value)} {oc17 kV17 dc17 pm17 cd17 ct17 : Value} (a17 : PySem.W.nsIn K mainGlobals "need_cards" = some (some (.ref f17)))
    (l17 : K.lookup f17 = some ⟨oc17, od17, .func (PySem.W.fnOf "need_cards" "need_cards" (defArgs s_need_cards) (defBody s_need_cards) (defScope s_need_cards) .none kV17 dc17 pm17 an17 cd17 ct17), sl17⟩) (c17 : PySem.W.codeIn K cd17 "need_cards" = true) (k17 : PySem.W.keepIn K (.ref f17) = true)
    {f18 : Addr} {od18 an18 : Option Addr} {sl18 : Array (Option Value)} {oc18 kV18 dc18 pm18 cd18 ct18 : Value} (a18 : PySem.W.nsIn K mainGlobals "playable" = some (some (.ref f18)))
    (l18 : K.lookup f18 = some ⟨oc18, od18, .func (PySem.W.fnOf "playable" "playable" (defArgs s_playable) (defBody s_playable) (defScope s_playable) .none kV18 dc18 pm18 an18 cd18 ct18), sl18⟩) (c18 : PySem.W.codeIn K cd18 "playable" = true) (k18 : PySem.W.keepIn K (.ref f18) = true)
    {f19 : Addr} {od19 an19 : Option Addr} {sl19 : Array (Option Value)} {oc19 kV19 dc19 pm19 cd19 ct19 : Value} (a19 : PySem.W.nsIn K mainGlobals "allowed" = some (some (.ref f19)))
    {T19 : Addr} {dcc19 : Value} {ddd19 : Option Addr} {dsl19 : Array (Option Value)} {dm19 : Nat} (t19 : K.lookup T19 = some ⟨dcc19, ddd19, .seq (List.toArray [Value.none, Value.none]) dm19, dsl19⟩)
    (l19 : K.lookup f19 = some ⟨oc19, od19, .func (PySem.W.fnOf "allowed" "allowed" (defArgs s_allowed) (defBody s_allowed) (defScope s_allowed) (.ref T19) kV19 dc19 pm19 an19 cd19 ct19), sl19⟩) (c19 : PySem.W.codeIn K cd19 "allowed" = true) (k19 : PySem.W.keepIn K (.ref f19) = true)
    {f20 : Addr} {od20 an20 : Option Addr} {sl20 : Array (Option Value)} {oc20 kV20 dc20 pm20 cd20 ct20 : Value} (a20 : PySem.W.nsIn K mainGlobals "beats" = some (some (.ref f20)))
    (l20 : K.lookup f20 = some ⟨oc20, od20, .func (PySem.W.fnOf "beats" "beats" (defArgs s_beats) (defBody s_beats) (defScope s_beats) .none kV20 dc20 pm20 an20 cd20 ct20), sl20⟩) (c20 : PySem.W.codeIn K cd20 "beats" = true) (k20 : PySem.W.keepIn K (.ref f20) = true)
    {f21 : Addr} {od21 an21 : Option Addr} {sl21 : Array (Option Value)} {oc21 kV21 dc21 pm21 cd21 ct21 : Value} (a21 : PySem.W.nsIn K mainGlobals "_law_late" = some (some (.ref f21)))
    (l21 : K.lookup f21 = some ⟨oc21, od21, .func (PySem.W.fnOf "_law_late" "_law_late" (defArgs s_law_late) (defBody s_law_late) (defScope s_law_late) .none kV21 dc21 pm21 an21 cd21 ct21), sl21⟩) (c21 : PySem.W.codeIn K cd21 "_law_late" = true) (k21 : PySem.W.keepIn K (.ref f21) = true)
    {f22 : Addr} {od22 an22 : Option Addr} {sl22 : Array (Option Value)} {oc22 kV22 dc22 pm22 cd22 ct22 : Value} (a22 : PySem.W.nsIn K mainGlobals "_law_turn" = some (some (.ref f22)))
    (l22 : K.lookup f22 = some ⟨oc22, od22, .func (PySem.W.fnOf "_law_turn" "_law_turn" (defArgs s_law_turn) (defBody s_law_turn) (defScope s_law_turn) .none kV22 dc22 pm22 an22 cd22 ct22), sl22⟩) (c22 : PySem.W.codeIn K cd22 "_law_turn" = true) (k22 : PySem.W.keepIn K (.ref f22) = true)
    {f23 : Addr} {od23 an23 : Option Addr} {sl23 : Array (Option Value)} {oc23 kV23 dc23 pm23 cd23 ct23 : Value} (a23 : PySem.W.nsIn K mainGlobals "_law_right" = some (some (.ref f23)))
    (l23 : K.lookup f23 = some ⟨oc23, od23, .func (PySem.W.fnOf "_law_right" "_law_right" (defArgs s_law_right) (defBody s_law_right) (defScope s_law_right) .none kV23 dc23 pm23 an23 cd23 ct23), sl23⟩) (c23 : PySem.W.codeIn K cd23 "_law_right" = true) (k23 : PySem.W.keepIn K (.ref f23) = true)
    {f24 : Addr} {od24 an24 : Option Addr} {sl24 : Array (Option Value)} {oc24 kV24 dc24 pm24 cd24 ct24 : Value} (a24 : PySem.W.nsIn K mainGlobals "law" = some (some (.ref f24)))
    (l24 : K.lookup f24 = some ⟨oc24, od24, .func (PySem.W.fnOf "law" "law" (defArgs s_law) (defBody s_law) (defScope s_law) .none kV24 dc24 pm24 an24 cd24 ct24), sl24⟩) (c24 : PySem.W.codeIn K cd24 "law" = true) (k24 : PySem.W.keepIn K (.ref f24) = true)
    (z_max : PySem.W.nsIn K mainGlobals "max" = some none)
    (z_int : PySem.W.nsIn K mainGlobals "int" = some none)
    (z_range : PySem.W.nsIn K mainGlobals "range" = some none)
    (z_sum : PySem.W.nsIn K mainGlobals "sum" = some none)
    (z_tuple : PySem.W.nsIn K mainGlobals "tuple" = some none)
    (z_min : PySem.W.nsIn K mainGlobals "min" = some none)
    (z_len : PySem.W.nsIn K mainGlobals "len" = some none)
    (z_isinstance : PySem.W.nsIn K mainGlobals "isinstance" = some none)
    (z_bool : PySem.W.nsIn K mainGlobals "bool" = some none)
    (z_enumerate : PySem.W.nsIn K mainGlobals "enumerate" = some none)
    (z_sorted : PySem.W.nsIn K mainGlobals "sorted" = some none)
    (z_set : PySem.W.nsIn K mainGlobals "set" = some none)
    (z_list : PySem.W.nsIn K mainGlobals "list" = some none)
    {t_MOST_CARDS : Tok} (z_MOST_CARDS : PySem.W.nsIn K mainGlobals "MOST_CARDS" = some (some (.int 32 t_MOST_CARDS)))
    {t_MOST_SUITS : Tok} (z_MOST_SUITS : PySem.W.nsIn K mainGlobals "MOST_SUITS" = some (some (.int 4 t_MOST_SUITS)))
    {t_MOST_RANKS : Tok} (z_MOST_RANKS : PySem.W.nsIn K mainGlobals "MOST_RANKS" = some (some (.int 10 t_MOST_RANKS)))
    : ∃ fd : FuncData, (∀ (s : Shared) (v : Value), BindsTo s fd ⟨[v], []⟩ [("_law_script", v)]) ∧ ∀ base : Heap, K.In base → base.Ns mainGlobals mg → FnG l.prog w K mg base 9 fa fd P_law (spF K 1 Rn.f_law_K07) := by
  have e := hfa.symm.trans (PySem.W.mg_of X G a24)
  cases e
  have F0 := fun_mk (st := s_law_pot) l0 c0 k0
  have F1 := fun_mk (st := s_law_out) l1 c1 k1
  have F2 := fun_mk (st := s_law_setup) l2 c2 k2
  have F3 := fun_mk (st := s_whole_between) l3 c3 k3
  have F4 := fun_mk (st := s_is_deck) l4 c4 k4
  have F5 := fun_mk (st := s_is_setup) l5 c5 k5
  have F6 := fun_mk (st := s_need_setup) l6 c6 k6
  have F7 := fun_mk (st := s_deck_cards) l7 c7 k7
  have F8 := fun_mk (st := s_all_cards) l8 c8 k8
  have F9 := fun_mk (st := s_law_winner) l9 c9 k9
  have F10 := fun_mk (st := s_fits_card) l10 c10 k10
  have F11 := fun_mk (st := s_need_card) l11 c11 k11
  have F12 := fun_mk (st := s_stronger) l12 c12 k12
  have F13 := fun_mk (st := s_best_of) l13 c13 k13
  have F14 := fun_mk (st := s_best_place) l14 c14 k14
  have F15 := fun_mk (st := s_law_placed) l15 c15 k15
  have F16 := fun_mk (st := s_fits_cards) l16 c16 k16
  have F17 := fun_mk (st := s_need_cards) l17 c17 k17
  have F18 := fun_mk (st := s_playable) l18 c18 k18
  have F19 := funT_mk (st := s_allowed) (its := [Value.none, Value.none]) l19 c19 k19 t19
  have F20 := fun_mk (st := s_beats) l20 c20 k20
  have F21 := fun_mk (st := s_law_late) l21 c21 k21
  have F22 := fun_mk (st := s_law_turn) l22 c22 k22
  have F23 := fun_mk (st := s_law_right) l23 c23 k23
  have F24 := fun_mk (st := s_law) l24 c24 k24
  refine ⟨PySem.W.fnOf "law" "law" (defArgs s_law) (defBody s_law) (defScope s_law) .none kV24 dc24 pm24 an24 cd24 ct24, fun s v => .of_eq rfl, fun base _ _ => ?_⟩
  have hB_max := PySem.W.mg_none_of X G z_max
  have hB_int := PySem.W.mg_none_of X G z_int
  have hB_range := PySem.W.mg_none_of X G z_range
  have hB_sum := PySem.W.mg_none_of X G z_sum
  have hB_tuple := PySem.W.mg_none_of X G z_tuple
  have hB_min := PySem.W.mg_none_of X G z_min
  have hB_len := PySem.W.mg_none_of X G z_len
  have hB_isinstance := PySem.W.mg_none_of X G z_isinstance
  have hB_bool := PySem.W.mg_none_of X G z_bool
  have hB_enumerate := PySem.W.mg_none_of X G z_enumerate
  have hB_sorted := PySem.W.mg_none_of X G z_sorted
  have hB_set := PySem.W.mg_none_of X G z_set
  have hB_list := PySem.W.mg_none_of X G z_list
  have hC_MOST_CARDS := PySem.W.mg_of X G z_MOST_CARDS
  have hC_MOST_SUITS := PySem.W.mg_of X G z_MOST_SUITS
  have hC_MOST_RANKS := PySem.W.mg_of X G z_MOST_RANKS
  have hG_law_pot : FnG l.prog w K mg base 1 f0 _ P_law_pot (spF K 1 Rn.f_law_pot) := ok_law_pot F0 hB_max hB_int
  have hF_law_pot : FnS l.prog w K mg base 1 "_law_pot" s_law_pot P_law_pot Rn.f_law_pot := ⟨f0, _, _, PySem.W.mg_of X G a0, F0, bd_law_pot F0, hG_law_pot⟩
  have hG_law_out : FnG l.prog w K mg base 1 f1 _ P_law_out (spF K 2 Rn.f_law_out) := ok_law_out F1 hB_int
  have hF_law_out : FnS l.prog w K mg base 1 "_law_out" s_law_out P_law_out Rn.f_law_out := ⟨f1, _, _, PySem.W.mg_of X G a1, F1, bd_law_out F1, hG_law_out⟩
  have hG_law_setup : FnG l.prog w K mg base 2 f2 _ P_law_setup (spF K 1 Rn.f_law_setup) := ok_law_setup F2 hF_law_out hB_range hB_sum hB_tuple hB_min hB_len hB_int
  have hF_law_setup : FnS l.prog w K mg base 2 "_law_setup" s_law_setup P_law_setup Rn.f_law_setup := ⟨f2, _, _, PySem.W.mg_of X G a2, F2, bd_law_setup F2, hG_law_setup⟩
  have hG_whole_between : FnG l.prog w K mg base 1 f3 _ P_whole_between (spF K 3 Rn.f_whole_between) := ok_whole_between F3 hB_isinstance hB_int hB_bool
  have hF_whole_between : FnS l.prog w K mg base 1 "whole_between" s_whole_between P_whole_between Rn.f_whole_between := ⟨f3, _, _, PySem.W.mg_of X G a3, F3, bd_whole_between F3, hG_whole_between⟩
  have hG_is_deck : FnG l.prog w K mg base 2 f4 _ P_is_deck (spF K 1 Rn.f_is_deck) := ok_is_deck F4 hF_whole_between hB_sum hB_isinstance hB_tuple hB_len hC_MOST_CARDS hC_MOST_SUITS hC_MOST_RANKS
  have hF_is_deck : FnS l.prog w K mg base 2 "is_deck" s_is_deck P_is_deck Rn.f_is_deck := ⟨f4, _, _, PySem.W.mg_of X G a4, F4, bd_is_deck F4, hG_is_deck⟩
  have hG_is_setup : FnG l.prog w K mg base 3 f5 _ P_is_setup (spF K 1 Rn.f_is_setup) := ok_is_setup F5 hF_is_deck hF_whole_between hB_isinstance hB_bool hB_tuple hB_len hB_sum
  have hF_is_setup : FnS l.prog w K mg base 3 "is_setup" s_is_setup P_is_setup Rn.f_is_setup := ⟨f5, _, _, PySem.W.mg_of X G a5, F5, bd_is_setup F5, hG_is_setup⟩
  have hG_need_setup : FnG l.prog w K mg base 4 f6 _ P_need_setup (spF K 1 Rn.f_need_setup) := ok_need_setup F6 hF_is_setup
  have hF_need_setup : FnS l.prog w K mg base 4 "need_setup" s_need_setup P_need_setup Rn.f_need_setup := ⟨f6, _, _, PySem.W.mg_of X G a6, F6, bd_need_setup F6, hG_need_setup⟩
  have hG_deck_cards : FnG l.prog w K mg base 1 f7 _ P_deck_cards (spF K 1 Rn.f_deck_cards) := ok_deck_cards F7 hB_enumerate hB_range
  have hF_deck_cards : FnS l.prog w K mg base 1 "deck_cards" s_deck_cards P_deck_cards Rn.f_deck_cards := ⟨f7, _, _, PySem.W.mg_of X G a7, F7, bd_deck_cards F7, hG_deck_cards⟩
  have hG_all_cards : FnG l.prog w K mg base 5 f8 _ P_all_cards (spF K 1 Rn.f_all_cards) := ok_all_cards F8 hF_deck_cards hF_need_setup hB_tuple
  have hF_all_cards : FnS l.prog w K mg base 5 "all_cards" s_all_cards P_all_cards Rn.f_all_cards := ⟨f8, _, _, PySem.W.mg_of X G a8, F8, bd_all_cards F8, hG_all_cards⟩
  have hG_law_winner : FnG l.prog w K mg base 1 f9 _ P_law_winner (spF K 2 Rn.f_law_winner) := ok_law_winner F9 hB_sorted hB_len
  have hF_law_winner : FnS l.prog w K mg base 1 "_law_winner" s_law_winner P_law_winner Rn.f_law_winner := ⟨f9, _, _, PySem.W.mg_of X G a9, F9, bd_law_winner F9, hG_law_winner⟩
  have hG_fits_card : FnG l.prog w K mg base 2 f10 _ P_fits_card (spF K 2 Rn.f_fits_card) := ok_fits_card F10 hF_whole_between hB_isinstance hB_tuple hB_len
  have hF_fits_card : FnS l.prog w K mg base 2 "fits_card" s_fits_card P_fits_card Rn.f_fits_card := ⟨f10, _, _, PySem.W.mg_of X G a10, F10, bd_fits_card F10, hG_fits_card⟩
  have hG_need_card : FnG l.prog w K mg base 3 f11 _ P_need_card (spF K 2 Rn.f_need_card) := ok_need_card F11 hF_fits_card
  have hF_need_card : FnS l.prog w K mg base 3 "need_card" s_need_card P_need_card Rn.f_need_card := ⟨f11, _, _, PySem.W.mg_of X G a11, F11, bd_need_card F11, hG_need_card⟩
  have hG_stronger : FnG l.prog w K mg base 1 f12 _ P_stronger (spF K 3 Rn.f_stronger) := ok_stronger F12
  have hF_stronger : FnS l.prog w K mg base 1 "stronger" s_stronger P_stronger Rn.f_stronger := ⟨f12, _, _, PySem.W.mg_of X G a12, F12, bd_stronger F12, hG_stronger⟩
  have hG_best_of : FnG l.prog w K mg base 2 f13 _ P_best_of (spF K 2 Rn.f_best_of) := ok_best_of F13 hF_stronger hB_enumerate
  have hF_best_of : FnS l.prog w K mg base 2 "best_of" s_best_of P_best_of Rn.f_best_of := ⟨f13, _, _, PySem.W.mg_of X G a13, F13, bd_best_of F13, hG_best_of⟩
  have hF_best_place : FnV l.prog w K mg base 5 "best_place" 1 Rn.f_best_place := ok_best_place F14 (PySem.W.mg_of X G a14) hF_need_setup hF_best_of hF_need_card hB_len hB_set
  have hG_law_placed : FnG l.prog w K mg base 6 f15 _ P_law_placed (spF K 2 Rn.f_law_placed) := ok_law_placed F15 hF_best_place hB_len
  have hF_law_placed : FnS l.prog w K mg base 6 "_law_placed" s_law_placed P_law_placed Rn.f_law_placed := ⟨f15, _, _, PySem.W.mg_of X G a15, F15, bd_law_placed F15, hG_law_placed⟩
  have hG_fits_cards : FnG l.prog w K mg base 3 f16 _ P_fits_cards (spF K 2 Rn.f_fits_cards) := ok_fits_cards F16 hF_fits_card hB_enumerate hB_isinstance hB_tuple
  have hF_fits_cards : FnS l.prog w K mg base 3 "fits_cards" s_fits_cards P_fits_cards Rn.f_fits_cards := ⟨f16, _, _, PySem.W.mg_of X G a16, F16, bd_fits_cards F16, hG_fits_cards⟩
  have hG_need_cards : FnG l.prog w K mg base 4 f17 _ P_need_cards (spF K 2 Rn.f_need_cards) := ok_need_cards F17 hF_fits_cards
  have hF_need_cards : FnS l.prog w K mg base 4 "need_cards" s_need_cards P_need_cards Rn.f_need_cards := ⟨f17, _, _, PySem.W.mg_of X G a17, F17, bd_need_cards F17, hG_need_cards⟩
  have hG_playable : FnG l.prog w K mg base 2 f18 _ P_playable (spF K 4 Rn.f_playable) := ok_playable F18 hF_stronger hB_list
  have hF_playable : FnS l.prog w K mg base 2 "playable" s_playable P_playable Rn.f_playable := ⟨f18, _, _, PySem.W.mg_of X G a18, F18, bd_playable F18, hG_playable⟩
  have hG_allowed : FnG l.prog w K mg base 5 f19 _ P_allowed (spF K 4 Rn.f_allowed) := ok_allowed F19.funB hF_need_setup hF_need_cards hF_playable hF_need_card
  have hF_allowed_c0 : FnC l.prog w K mg base 5 "allowed" P_allowed Rn.f_allowed 4 [] [0, 1, 2, 3] [.non, .non] := ⟨f19, _, [Value.none, Value.none], [V.non, V.non], PySem.W.mg_of X G a19, k19, hG_allowed, (.cons rfl (.cons rfl .nil)), ⟨_, _, rfl, rfl, ⟨_, _, rfl, rfl, rfl⟩⟩, (F19.cbinds fun _ _ _ _ _ _ _ us ws h1 h2 => match us, ws, h1, h2 with | [_, _, _, _], [], _, _ => ⟨_, rfl, rfl⟩)⟩
  have hF_allowed_c1 : FnC l.prog w K mg base 5 "allowed" P_allowed Rn.f_allowed 2 [] [0, 1, 2, 3] [.non, .non] := ⟨f19, _, [Value.none, Value.none], [V.non, V.non], PySem.W.mg_of X G a19, k19, hG_allowed, (.cons rfl (.cons rfl .nil)), ⟨_, _, rfl, rfl, ⟨_, _, rfl, rfl, rfl⟩⟩, (F19.cbinds fun _ _ _ _ _ _ _ us ws h1 h2 => match us, ws, h1, h2 with | [_, _], [], _, _ => ⟨_, rfl, rfl⟩)⟩
  have hG_beats : FnG l.prog w K mg base 5 f20 _ P_beats (spF K 3 Rn.f_beats) := ok_beats F20 hF_need_setup hF_stronger hF_need_card
  have hF_beats : FnS l.prog w K mg base 5 "beats" s_beats P_beats Rn.f_beats := ⟨f20, _, _, PySem.W.mg_of X G a20, F20, bd_beats F20, hG_beats⟩
  have hG_law_late : FnG l.prog w K mg base 6 f21 _ P_law_late (spF K 4 Rn.f_law_late) := ok_law_late F21 hF_beats hF_law_winner
  have hF_law_late : FnS l.prog w K mg base 6 "_law_late" s_law_late P_law_late Rn.f_law_late := ⟨f21, _, _, PySem.W.mg_of X G a21, F21, bd_law_late F21, hG_law_late⟩
  have hG_law_turn : FnG l.prog w K mg base 7 f22 _ P_law_turn (spF K 4 Rn.f_law_turn) := ok_law_turn F22 hF_allowed_c0 hF_allowed_c1 hF_law_winner hF_law_out hF_law_late hB_tuple hB_sorted hB_len
  have hF_law_turn : FnS l.prog w K mg base 7 "_law_turn" s_law_turn P_law_turn Rn.f_law_turn := ⟨f22, _, _, PySem.W.mg_of X G a22, F22, bd_law_turn F22, hG_law_turn⟩
  have hG_law_right : FnG l.prog w K mg base 8 f23 _ P_law_right (spF K 2 Rn.f_law_right_3) := ok_law_right F23 hF_all_cards hF_law_turn hF_law_placed hF_law_winner hF_law_out hB_range hB_list hB_sorted hB_int hB_len hB_set
  have hF_law_right : FnS l.prog w K mg base 8 "_law_right" s_law_right P_law_right Rn.f_law_right_3 := ⟨f23, _, _, PySem.W.mg_of X G a23, F23, bd_law_right F23, hG_law_right⟩
  exact ok_law F24 hF_law_pot hF_law_right hF_law_setup

end K07

open PySem PySem.W
set_option maxHeartbeats 0 in
theorem PySem.Challenge.cw_seenhands_k07_whole_hands_played_out_holds : PySem.Challenge.rw_seenhands_k07_whole_hands_played_out.Holds := by
  w_on; o_law; k_head; (case hw => w_witness2)
  k_fill
  refine Z.walk_ofG (l := PySem.Challenge.rw_seenhands_k07_whole_hands_played_out) (n := 63) (k := 9) (x := "_law_script") (f := Rn.f_law_K07) rfl (by decide) rfl ⟨rfl, by decide, by decide⟩ (fun w h Y => PySem.W.kIn_of Y) ?F (fun ns h1 h2 => K07.law_true ns h1 h2)
  case F =>
    intro w mg fa h KX G hmg
    refine' K07.all_mk KX G hmg ?a0 ?l0 ?c0 ?k0 ?a1 ?l1 ?c1 ?k1 ?a2 ?l2 ?c2 ?k2 ?a3 ?l3 ?c3 ?k3 ?a4 ?l4 ?c4 ?k4 ?a5 ?l5 ?c5 ?k5 ?a6 ?l6 ?c6 ?k6 ?a7 ?l7 ?c7 ?k7 ?a8 ?l8 ?c8 ?k8 ?a9 ?l9 ?c9 ?k9 ?a10 ?l10 ?c10 ?k10 ?a11 ?l11 ?c11 ?k11 ?a12 ?l12 ?c12 ?k12 ?a13 ?l13 ?c13 ?k13 ?a14 ?l14 ?c14 ?k14 ?a15 ?l15 ?c15 ?k15 ?a16 ?l16 ?c16 ?k16 ?a17 ?l17 ?c17 ?k17 ?a18 ?l18 ?c18 ?k18 ?a19 ?t19 ?l19 ?c19 ?k19 ?a20 ?l20 ?c20 ?k20 ?a21 ?l21 ?c21 ?k21 ?a22 ?l22 ?c22 ?k22 ?a23 ?l23 ?c23 ?k23 ?a24 ?l24 ?c24 ?k24 ?z_max ?z_int ?z_range ?z_sum ?z_tuple ?z_min ?z_len ?z_isinstance ?z_bool ?z_enumerate ?z_sorted ?z_set ?z_list ?z_MOST_CARDS ?z_MOST_SUITS ?z_MOST_RANKS
    (case a0 => k_is); (case l0 => k_is); (case c0 => k_is); (case k0 => k_is); (case a1 => k_is); (case l1 => k_is); (case c1 => k_is); (case k1 => k_is); (case a2 => k_is); (case l2 => k_is); (case c2 => k_is); (case k2 => k_is); (case a3 => k_is); (case l3 => k_is); (case c3 => k_is); (case k3 => k_is); (case a4 => k_is); (case l4 => k_is); (case c4 => k_is); (case k4 => k_is); (case a5 => k_is); (case l5 => k_is); (case c5 => k_is); (case k5 => k_is); (case a6 => k_is); (case l6 => k_is); (case c6 => k_is); (case k6 => k_is); (case a7 => k_is); (case l7 => k_is); (case c7 => k_is); (case k7 => k_is); (case a8 => k_is); (case l8 => k_is); (case c8 => k_is); (case k8 => k_is); (case a9 => k_is); (case l9 => k_is); (case c9 => k_is); (case k9 => k_is); (case a10 => k_is); (case l10 => k_is); (case c10 => k_is); (case k10 => k_is); (case a11 => k_is); (case l11 => k_is); (case c11 => k_is); (case k11 => k_is); (case a12 => k_is); (case l12 => k_is); (case c12 => k_is); (case k12 => k_is); (case a13 => k_is); (case l13 => k_is); (case c13 => k_is); (case k13 => k_is); (case a14 => k_is); (case l14 => k_is); (case c14 => k_is); (case k14 => k_is); (case a15 => k_is); (case l15 => k_is); (case c15 => k_is); (case k15 => k_is); (case a16 => k_is); (case l16 => k_is); (case c16 => k_is); (case k16 => k_is); (case a17 => k_is); (case l17 => k_is); (case c17 => k_is); (case k17 => k_is); (case a18 => k_is); (case l18 => k_is); (case c18 => k_is); (case k18 => k_is); (case a19 => k_is); (case l19 => k_is); (case c19 => k_is); (case k19 => k_is); (case a20 => k_is); (case l20 => k_is); (case c20 => k_is); (case k20 => k_is); (case a21 => k_is); (case l21 => k_is); (case c21 => k_is); (case k21 => k_is); (case a22 => k_is); (case l22 => k_is); (case c22 => k_is); (case k22 => k_is); (case a23 => k_is); (case l23 => k_is); (case c23 => k_is); (case k23 => k_is); (case a24 => k_is); (case l24 => k_is); (case c24 => k_is); (case k24 => k_is); (case z_max => k_is); (case z_int => k_is); (case z_range => k_is); (case z_sum => k_is); (case z_tuple => k_is); (case z_min => k_is); (case z_len => k_is); (case z_isinstance => k_is); (case z_bool => k_is); (case z_enumerate => k_is); (case z_sorted => k_is); (case z_set => k_is); (case z_list => k_is); (case z_MOST_CARDS => k_is); (case z_MOST_SUITS => k_is); (case z_MOST_RANKS => k_is); (case t19 => k_is)

