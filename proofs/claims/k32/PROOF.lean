import PyProof.Rows.All
import Wide.All
import OpenK.AllK
import Wide.FinOn
import KE.KStateDown
import HandS.ForMost
import HandS.Flow
import HandS.IsInst
import HandS.HeadHook2
import KE.KDictKeyed
import HandS.Lambda
import HandS.Defaults
import HandS.Zip
import HandS.Exc
import HandS.ExcCtx
import HandS.Deep
import HandS.TupAny
import HandS.TupMul
import KE.SortData
import HandS.DictComp
import HandS.Walk
import HandS.TupSets
import KE.KeyNested
import KE.DataCmp
import HandS.Style
import HandS.FStr
import HandS.RaiseMore
import PyProof.FitsInt
import HandS.TryOnly
import HandS.More
import HandS.Zip0
import PyProof.EnumMake
import PyProof.EnumFor
import HandS.Strs
import HandS.Words
import HandS.HeadHook1
import HandS.Wide
import Lean
import HandS.Ends
import HandS.WordsExc
import HandS.Head0
import HandS.Head1
import HandS.Head2
import HandS.HeadEnd
import HandS.Head3
import Open.Pieces
import HandS.MakeKwOnly
import HandS.ExcInit
import HandS.ClsMeth
import KE.KExcInit
import PyProof.ExcBaseAll.LookupError
import PyProof.ExcBaseAll.IndexError
import PyProof.ExcBaseAll.ValueError
import PyProof.ExcFactsAll.LookupError
import PyProof.ExcFactsAll.IndexError
import HandS.HotCalls
import KE.KTryMore
import HandS.ExcField
import HandS.HeadHook4
import HandS.EndOwn
import HandS.HeadWalk
import PySem.Challenge.RW_whoseink_k32_doubts_judged
import HandS.SetBool
import KE.KDictSum
import KE.KDictPairs
import HandS.Iter
import HandS.OwnEq
import HandS.TupLen
import HandS.DictTup
import KE.GoesMore
import KE.KItemsList
import PyProof.ListNew
set_option Elab.async false
set_option linter.all false
set_option maxRecDepth 100000
set_option maxHeartbeats 1000000
namespace L3
open PySem PySem.Spec PyProof.Rows L2
/-- a class of the text: its name, the fields of its instances in the order in which they are first stored -/
structure Cl where
  nm : Str
  fs : List Str
/-- data: what never changes, and references to what may -/
inductive D where
  | non | bl (b : Bool) | int (i : Int) | str (x : Str) | ty (n : String) | ref (a : Addr)
  | tup (xs : List D) | lst (xs : List D)
  /-- a list that is read alone (the script) -/
  | lsk (xs : List D)
  /-- a dict whose keys are numbers and texts -/
  | dct (ks : List L2.Key) (xs : List D)
  /-- an instance of a class of the text, the fields' data -/
  | obj (c : Cl) (xs : List D)
  /-- a dict whose keys are tuples of any depth -/
  | dkd (w : World) (ks xs : List D)
  /-- an exception that is handled: it, its dict, its fields -/
  | exc (a dd : Addr) (ns : List Str) (xs : List D)
  /-- a lambda: it, its code object, the code's name -/
  | fn (f c : Addr) (q : Str)
mutual
/-- data that may be keys: numbers, texts, None, tuples of these, at most n deep -/
def D.nk : Nat → D → Bool
  | _, .non => true
  | _, .int _ => true
  | _, .str _ => true
  | n + 1, .tup ds => D.nks n ds
  | _, _ => false
def D.nks : Nat → List D → Bool
  | _, [] => true
  | n, d :: ds => D.nk n d && D.nks n ds
end
mutual
/-- .. truth values among them -/
def D.nkb : Nat → D → Bool
  | _, .non => true
  | _, .bl _ => true
  | _, .int _ => true
  | _, .str _ => true
  | n + 1, .tup ds => D.nkbs n ds
  | _, _ => false
def D.nkbs : Nat → List D → Bool
  | _, [] => true
  | n, d :: ds => D.nkb n d && D.nkbs n ds
end
mutual
def keyN : D → NestedKey
  | .bl b => .num (if b = true then 1 else 0)
  | .int i => .num i
  | .str x => .text x
  | .tup ds => .tup (keyNs ds)
  | _ => .none
def keyNs : List D → List NestedKey
  | [] => []
  | d :: ds => keyN d :: keyNs ds
end
/-- a tuple that may be a key -/
def isKey (d : D) : Bool := match d with
  | .tup _ => D.nk 8 d
  | _ => false
/-- .. of a dict -/
def isKeyB (d : D) : Bool := match d with
  | .tup _ => D.nkb 8 d
  | _ => false
/-- an object that may change -/
inductive MO where
  | lst (xs : List D)
  | dct (ks : List L2.Key) (xs : List D)
  | ins (c : Cl) (xs : List D)
  | dkd (w : World) (ks xs : List D)
  /-- a table of code objects of one name -/
  | tbl (q : Str)
abbrev Mp := Addr → Option MO
def mupd (M : Mp) (a : Addr) (o : MO) : Mp := fun b => if b = a then some o else M b
def mdel (M : Mp) (a : Addr) : Mp := fun b => if b = a then none else M b
theorem mupd_same {M : Mp} {a : Addr} {o : MO} : mupd M a o a = some o := by unfold mupd; rw [if_pos rfl]
theorem mupd_ne {M : Mp} {a b : Addr} {o : MO} (h : b ≠ a) : mupd M a o b = M b := by unfold mupd; rw [if_neg h]
theorem mupd_mupd {M : Mp} {a : Addr} {o u : MO} : mupd (mupd M a o) a u = mupd M a u := by
  funext b; unfold mupd; split <;> rfl
theorem mupd_id {M : Mp} {a : Addr} {o : MO} (h : M a = some o) : mupd M a o = M := by
  funext b; unfold mupd; split
  · rename_i e; rw [e, h]
  · rfl
theorem mdel_same {M : Mp} {a : Addr} : mdel M a a = none := by unfold mdel; rw [if_pos rfl]
theorem mdel_ne {M : Mp} {a b : Addr} (h : b ≠ a) : mdel M a b = M b := by unfold mdel; rw [if_neg h]
theorem mdel_mupd {M : Mp} {a : Addr} {o : MO} (h : M a = none) : mdel (mupd M a o) a = M := by
  funext b; unfold mdel mupd; split
  · rename_i e; rw [e, h]
  · rfl
/-- a text of a size that the machine takes, of signs that there are -/
def SOk (x : Str) : Prop := x.length ≤ sizeLine ∧ ∀ c ∈ x.cps.toList, c < 0x110000
instance (x : Str) : Decidable (SOk x) := by unfold SOk; infer_instance
/-- the keys and the values of a dict -/
def KsOk (ks : List L2.Key) (ds : List D) : Prop := ks.length = ds.length ∧ ∀ x, Sum.inr x ∈ ks → SOk x
/-- a dict's rows: the key's tuple, the key, the value -/
abbrev DRow := Addr × D × V
def RowIs (w : World) (r : DRow) (e : DictEntry) : Prop := e.hash = (keyN r.2.1).hash w ∧ e.key = .ref r.1 ∧ RelV r.2.2 e.val
/-- the dict at a with these rows -/
def DkAt (w : World) (a : Addr) (Ls : List DRow) (h : Heap) : Prop := ((a == sysModules) = false ∧ Ls.length ≤ sizeLine ∧ (∀ r ∈ Ls, isKeyB r.2.1 = true) ∧ (Ls.map fun r => keyN r.2.1).Nodup) ∧ ∃ o es ep, h.get? a = some o ∧ o.ExactDict ∧ o.data = .dict es ep ∧ Paired (RowIs w) Ls es.toList
def DkO (w : World) (a : Addr) (Ls : List DRow) : HO := .ext (DkAt w a Ls)
mutual
def Rep (K : PySem.W.Frag) (F : Hp) : D → V → Prop
  | .non, v => v = .non
  | .bl b, v => v = .bl b
  | .int i, v => v = .int i
  | .str x, v => v = .str x ∧ SOk x
  | .ty n, v => v = .ty n
  | .ref a, v => v = .ref a
  | .tup ds, v => ∃ a xs, v = .ref a ∧ SqT K F a xs ∧ Reps K F ds xs
  | .lst ds, v => ∃ a xs, v = .ref a ∧ F a = some (.lst xs) ∧ Reps K F ds xs
  | .lsk ds, v => ∃ a xs, v = .ref a ∧ SqL K F a xs ∧ Reps K F ds xs
  | .dct ks ds, v => ∃ a o xs, v = .ref a ∧ F a = some (.frz o (.dK (ks.zip xs))) ∧ KsOk ks ds ∧ Reps K F ds xs
  | .obj c ds, v => ∃ a dx xs, v = .ref a ∧ F a = some (.ins (He.ga K c.nm) dx (c.fs.zip xs)) ∧ ds.length ≤ c.fs.length ∧ Reps K F ds xs
  | .dkd w ks ds, v => ∃ a o Ls, v = .ref a ∧ F a = some (.frz o (DkO w a Ls)) ∧ ks = Ls.map (·.2.1) ∧ Reps K F ks (Ls.map fun r => .ref r.1) ∧ Reps K F ds (Ls.map (·.2.2))
  | .exc a dd ns ds, v => v = .ref a ∧ ∃ xs, F dd = some (.xd (ns.zip xs)) ∧ ns.length = ds.length ∧ Reps K F ds xs
  | .fn f c q, v => v = .ref f ∧ F c = some (LamX.CodeO c q)
def Reps (K : PySem.W.Frag) (F : Hp) : List D → List V → Prop
  | [], xs => xs = []
  | d :: ds, xs => ∃ x r, xs = x :: r ∧ Rep K F d x ∧ Reps K F ds r
end
theorem Same.seqT {K : PySem.W.Frag} {H H' : Hp} {a : Addr} {xs : List V} (e : Same H H') (h : SqT K H a xs) : SqT K H' a xs := by
  rcases h with (h | ⟨o, h⟩) | h
  · exact .inl (.inl (e _ _ h))
  · exact .inl (.inr ⟨o, e _ _ h⟩)
  · exact .inr h
section
variable {K : PySem.W.Frag} {F F' : Hp}
mutual
theorem Rep.mono (s : Same F F') : ∀ {d : D} {v : V}, Rep K F d v → Rep K F' d v
  | .non, _, h => h
  | .bl _, _, h => h
  | .int _, _, h => h
  | .str _, _, h => h
  | .ty _, _, h => h
  | .ref _, _, h => h
  | .tup ds, _, ⟨a, xs, e, q, r⟩ => ⟨a, xs, e, Same.seqT s q, Reps.mono s r⟩
  | .lst ds, _, ⟨a, xs, e, q, r⟩ => ⟨a, xs, e, s _ _ q, Reps.mono s r⟩
  | .lsk ds, _, ⟨a, xs, e, q, r⟩ => ⟨a, xs, e, s.seq q, Reps.mono s r⟩
  | .dct ks ds, _, ⟨a, o, xs, e, q, l, r⟩ => ⟨a, o, xs, e, s _ _ q, l, Reps.mono s r⟩
  | .obj c ds, _, ⟨a, o, xs, e, q, l, r⟩ => ⟨a, o, xs, e, s _ _ q, l, Reps.mono s r⟩
  | .dkd w ks ds, _, ⟨a, o, Ls, e, q, l, r1, r2⟩ => ⟨a, o, Ls, e, s _ _ q, l, Reps.mono s r1, Reps.mono s r2⟩
  | .exc a dd ns ds, _, ⟨e, xs, q, l, r⟩ => ⟨e, xs, s _ _ q, l, Reps.mono s r⟩
  | .fn f c q, _, ⟨e, h⟩ => ⟨e, s _ _ h⟩
theorem Reps.mono (s : Same F F') : ∀ {ds : List D} {vs : List V}, Reps K F ds vs → Reps K F' ds vs
  | [], _, h => h
  | d :: ds, _, ⟨x, r, e, h1, h2⟩ => ⟨x, r, e, Rep.mono s h1, Reps.mono s h2⟩
end
theorem Reps.length : ∀ {ds : List D} {vs : List V}, Reps K F ds vs → ds.length = vs.length
  | [], _, h => by cases h; rfl
  | d :: ds, _, ⟨x, r, e, h1, h2⟩ => by subst e; simp [Reps.length h2]
theorem Reps.append : ∀ {ds es : List D} {vs ws : List V}, Reps K F ds vs → Reps K F es ws → Reps K F (ds ++ es) (vs ++ ws)
  | [], _, _, _, h, h' => by cases h; exact h'
  | d :: ds, es, _, ws, ⟨x, r, e, h1, h2⟩, h' => by subst e; exact ⟨x, r ++ ws, rfl, h1, Reps.append h2 h'⟩
theorem Reps.one {d : D} {v : V} (h : Rep K F d v) : Reps K F [d] [v] := ⟨v, [], rfl, h, rfl⟩
theorem Reps.take : ∀ {ds : List D} {vs : List V} (n : Nat), Reps K F ds vs → Reps K F (ds.take n) (vs.take n)
  | _, _, 0, _ => by simp [Reps]
  | [], _, _ + 1, h => by cases h; simp [Reps]
  | d :: ds, _, n + 1, ⟨x, r, e, h1, h2⟩ => by subst e; exact ⟨x, r.take n, rfl, h1, Reps.take n h2⟩
theorem Reps.drop : ∀ {ds : List D} {vs : List V} (n : Nat), Reps K F ds vs → Reps K F (ds.drop n) (vs.drop n)
  | _, _, 0, h => h
  | [], _, _ + 1, h => by cases h; simp [Reps]
  | d :: ds, _, n + 1, ⟨x, r, e, h1, h2⟩ => by subst e; exact Reps.drop n h2
theorem Reps.get : ∀ {ds : List D} {vs : List V} {i : Nat} {d : D}, Reps K F ds vs → ds[i]? = some d → ∃ v, vs[i]? = some v ∧ Rep K F d v
  | [], _, _, _, _, h => by simp at h
  | d :: ds, _, 0, _, ⟨x, r, e, h1, h2⟩, h => by subst e; simp at h; subst h; exact ⟨x, rfl, h1⟩
  | d :: ds, _, i + 1, _, ⟨x, r, e, h1, h2⟩, h => by
    subst e
    obtain ⟨v, hv, hr⟩ := Reps.get (i := i) h2 (by simpa using h)
    exact ⟨v, by simpa using hv, hr⟩
theorem Reps.set : ∀ {ds : List D} {vs : List V} {d : D} {v : V} (i : Nat), Rep K F d v → Reps K F ds vs → Reps K F (ds.set i d) (vs.set i v)
  | [], _, _, _, _, _, h => by cases h; simp [Reps]
  | _ :: ds, _, _, _, 0, hd, ⟨x, r, e, h1, h2⟩ => by subst e; exact ⟨_, r, rfl, hd, h2⟩
  | _ :: ds, _, _, _, i + 1, hd, ⟨x, r, e, h1, h2⟩ => by subst e; exact ⟨x, _, rfl, h1, Reps.set i hd h2⟩
theorem Reps.reverse : ∀ {ds : List D} {vs : List V}, Reps K F ds vs → Reps K F ds.reverse vs.reverse
  | [], _, h => by cases h; simp [Reps]
  | d :: ds, _, ⟨x, r, e, h1, h2⟩ => by subst e; simp only [List.reverse_cons]; exact Reps.append (Reps.reverse h2) (Reps.one h1)
theorem Reps.dropLast {ds : List D} {vs : List V} (h : Reps K F ds vs) : Reps K F ds.dropLast vs.dropLast := by
  rw [List.dropLast_eq_take, List.dropLast_eq_take, ← h.length]; exact h.take _
theorem Reps.isEmpty : ∀ {ds : List D} {vs : List V}, Reps K F ds vs → ds.isEmpty = vs.isEmpty
  | [], _, h => by cases h; rfl
  | d :: ds, _, ⟨x, r, e, h1, h2⟩ => by subst e; rfl
theorem Reps.ofInts : ∀ (ns : List Int), Reps K F (ns.map D.int) (ns.map V.int)
  | [] => rfl
  | n :: ns => ⟨.int n, _, rfl, rfl, Reps.ofInts ns⟩
theorem Reps.strs : ∀ {zs : List Str} {vs : List V}, Reps K F (zs.map D.str) vs → vs = zs.map V.str
  | [], _, h => h
  | n :: ns, _, ⟨x, r, e, h1, h2⟩ => by subst e; rw [Reps.strs h2, show x = V.str n from h1.1]; rfl
theorem Reps.bls : ∀ {zs : List Bool} {vs : List V}, Reps K F (zs.map D.bl) vs → vs = zs.map V.bl
  | [], _, h => h
  | n :: ns, _, ⟨x, r, e, h1, h2⟩ => by subst e; rw [Reps.bls h2, show x = V.bl n from h1]; rfl
end
def findK : List L2.Key → List D → L2.Key → Option D
  | k :: ks, d :: ds, j => if k = j then some d else findK ks ds j
  | _, _, _ => none
/-- a table with one row set: in its place, or at the end -/
def setK (ks : List L2.Key) (ds : List D) (j : L2.Key) (e : D) : List D := if (ks.any fun k => decide (k = j)) = true then List.zipWith (fun k d => if k = j then e else d) ks ds else ds ++ [e]
def addK (ks : List L2.Key) (j : L2.Key) : List L2.Key := if (ks.any fun k => decide (k = j)) = true then ks else ks ++ [j]
theorem isEmpty_zip {α β : Type} {xs : List α} {ys : List β} (h : xs.length = ys.length) : (xs.zip ys).isEmpty = xs.isEmpty := by
  cases xs <;> cases ys <;> simp at h ⊢
theorem findK_some {K : PySem.W.Frag} {F : Hp} : ∀ {ks : List L2.Key} {ds : List D} {xs : List V} {j : L2.Key}, ks.length = ds.length → Reps K F ds xs →
    (∀ d, findK ks ds j = some d → ∃ v, valV (ks.zip xs) j = some v ∧ Rep K F d v) ∧ (findK ks ds j = none → valV (ks.zip xs) j = none)
  | [], ds, xs, j, _, _ => ⟨fun d h => by simp [findK] at h, fun _ => rfl⟩
  | k :: ks, [], xs, j, h, _ => by simp at h
  | k :: ks, d :: ds, _, j, h, ⟨x, r, e, h1, h2⟩ => by
    subst e
    obtain ⟨i1, i2⟩ := findK_some (j := j) (by simpa using h) h2
    by_cases hk : k = j
    · refine ⟨fun g hg => ?_, fun hg => ?_⟩
      · simp only [findK, if_pos hk, Option.some.injEq] at hg
        exact ⟨x, valV_pos (p := (k, x)) hk, hg ▸ h1⟩
      · simp [findK, if_pos hk] at hg
    · refine ⟨fun g hg => ?_, fun hg => ?_⟩
      · simp only [findK, if_neg hk] at hg
        obtain ⟨v, a, b⟩ := i1 g hg
        exact ⟨v, by rw [List.zip_cons_cons, valV_neg (p := (k, x)) hk]; exact a, b⟩
      · simp only [findK, if_neg hk] at hg
        rw [List.zip_cons_cons, valV_neg (p := (k, x)) hk]; exact i2 hg
theorem setK_len {ks : List L2.Key} {ds : List D} {j : L2.Key} {e : D} (h : ks.length = ds.length) : (addK ks j).length = (setK ks ds j e).length := by
  unfold addK setK
  split
  · rw [List.length_zipWith, ← h, Nat.min_self]
  · simp [h]
theorem any_zip {k : L2.Key} : ∀ {ks : List L2.Key} {xs : List V}, ks.length = xs.length → ((ks.zip xs).any fun kv => decide (kv.1 = k)) = ks.any fun j => decide (j = k)
  | [], _, _ => by simp
  | _ :: _, [], h => by simp at h
  | j :: ks, x :: xs, h => by simp [any_zip (ks := ks) (xs := xs) (by simpa using h)]
theorem setK_zip {K : PySem.W.Frag} {F : Hp} {ks : List L2.Key} {ds : List D} {xs : List V} {j : L2.Key} {e : D} {v : V} (h : ks.length = ds.length) (r : Reps K F ds xs) (r1 : Rep K F e v) :
    ∃ ys, putK (ks.zip xs) j v = (addK ks j).zip ys ∧ Reps K F (setK ks ds j e) ys := by
  have hx : ks.length = xs.length := h.trans r.length
  unfold putK addK setK
  rw [any_zip hx]
  split
  · have key : ∀ {ks : List L2.Key} {ds : List D} {xs : List V}, ks.length = ds.length → Reps K F ds xs → ∃ ys, ((ks.zip xs).map fun kv => if kv.1 = j then (kv.1, v) else kv) = ks.zip ys ∧ Reps K F (List.zipWith (fun k d => if k = j then e else d) ks ds) ys := by
      intro ks
      induction ks with
      | nil => intro ds xs _ _; exact ⟨[], rfl, rfl⟩
      | cons k ks ih =>
        intro ds xs h r
        cases ds with
        | nil => simp at h
        | cons d ds =>
          obtain ⟨x, rr, rfl, h1, h2⟩ := r
          obtain ⟨ys, e1, e2⟩ := ih (by simpa using h) h2
          by_cases hk : k = j
          · exact ⟨v :: ys, by rw [List.zip_cons_cons, List.map_cons, e1, if_pos (show (k, x).1 = j from hk)]; rfl, v, ys, rfl, by show Rep K F (if k = j then e else d) v; rw [if_pos hk]; exact r1, e2⟩
          · exact ⟨x :: ys, by rw [List.zip_cons_cons, List.map_cons, e1, if_neg (show ¬ (k, x).1 = j from hk)]; rfl, x, ys, rfl, by show Rep K F (if k = j then e else d) x; rw [if_neg hk]; exact h1, e2⟩
    exact key h r
  · exact ⟨xs ++ [v], by rw [List.zip_append hx]; rfl, r.append (Reps.one r1)⟩
def keyD : D → Option L2.Key
  | .int i => some (.inl i)
  | .str x => some (.inr x)
  | _ => none
theorem keyD_ok {K : PySem.W.Frag} {F : Hp} {d : D} {k : L2.Key} {v : V} (r : Rep K F d v) (h : keyD d = some k) : v = kV k := by
  cases d with
  | int i => cases h; exact r
  | str x => cases h; exact r.1
  | _ => cases h
theorem keyD_sok {K : PySem.W.Frag} {F : Hp} {d : D} {k : L2.Key} {v : V} (r : Rep K F d v) (h : keyD d = some k) : ∀ x, Sum.inr x = k → SOk x := by
  cases d with
  | int i => cases h; intro x e; cases e
  | str x => cases h; intro y e; cases e; exact r.2
  | _ => cases h
theorem KsOk.set {ks : List L2.Key} {ds : List D} {j : L2.Key} {e : D} (h : KsOk ks ds) (hj : ∀ x, Sum.inr x = j → SOk x) : KsOk (addK ks j) (setK ks ds j e) := by
  refine ⟨setK_len h.1, fun x hx => ?_⟩
  unfold addK at hx
  split at hx
  · exact h.2 x hx
  · rcases List.mem_append.mp hx with hx | hx
    · exact h.2 x hx
    · exact hj x (List.mem_singleton.mp hx)
def dKey : L2.Key → D
  | .inl i => .int i
  | .inr x => .str x
/-- an object that may change, as it is tracked at p -/
def RepO (K : PySem.W.Frag) (F : Hp) (p : Addr) : MO → HO → Prop
  | .lst ds, u => ∃ xs, u = .lst xs ∧ Reps K F ds xs
  | .dct ks ds, u => ∃ xs, u = .dK (ks.zip xs) ∧ KsOk ks ds ∧ Reps K F ds xs
  | .ins c ds, u => ∃ dx xs, u = .ins (He.ga K c.nm) dx (c.fs.zip xs) ∧ ds.length ≤ c.fs.length ∧ Reps K F ds xs
  | .dkd w ks ds, u => ∃ Ls, u = DkO w p Ls ∧ ks = Ls.map (·.2.1) ∧ Reps K F ks (Ls.map fun r => .ref r.1) ∧ Reps K F ds (Ls.map (·.2.2))
  | .tbl q, u => ∃ ps, u = .tbl ps ∧ TriplesOk ps.toList ∧ ∀ (pos : Pos) (cv : Value), codeAmong pos ps.toList = some cv → ∃ c, cv = .ref c ∧ F c = some (LamX.CodeO c q)
theorem RepO.mono {K : PySem.W.Frag} {F F' : Hp} {p : Addr} (s : Same F F') : ∀ {o : MO} {u : HO}, RepO K F p o u → RepO K F' p o u
  | .lst _, _, ⟨xs, e, r⟩ => ⟨xs, e, r.mono s⟩
  | .dct _ _, _, ⟨xs, e, l, r⟩ => ⟨xs, e, l, r.mono s⟩
  | .ins _ _, _, ⟨dx, xs, e, l, r⟩ => ⟨dx, xs, e, l, r.mono s⟩
  | .dkd _ _ _, _, ⟨Ls, e, l, r1, r2⟩ => ⟨Ls, e, l, r1.mono s, r2.mono s⟩
  | .tbl _, _, ⟨ps, e, l, r⟩ => ⟨ps, e, l, fun pos cv h => by
    obtain ⟨c, h1, h2⟩ := r pos cv h
    exact ⟨c, h1, s _ _ h2⟩⟩
/-- the heap is parted into F (frozen), M (may change), R (another's, kept as it is), and what nobody asks for -/
structure At (K : PySem.W.Frag) (R F : Hp) (M : Mp) (H : Hp) : Prop where
  fz : Same F H
  mu : ∀ a o, M a = some o → F a = none ∧ ∃ u, H a = some u ∧ RepO K F a o u
  fr : ∀ a o, R a = some o → F a = none ∧ M a = none ∧ H a = some o
section
variable {K : PySem.W.Frag} {R F F' : Hp} {M : Mp} {H : Hp} {p : Addr}
theorem At.freeF (a : At K R F M H) (h : H p = none) : F p = none := by
  cases e : F p with
  | none => rfl
  | some o => rw [a.fz _ _ e] at h; cases h
theorem At.freeM (a : At K R F M H) (h : H p = none) : M p = none := by
  cases e : M p with
  | none => rfl
  | some o => obtain ⟨_, u, q, _⟩ := a.mu _ _ e; rw [q] at h; cases h
theorem At.freeR (a : At K R F M H) (h : H p = none) : R p = none := by
  cases e : R p with
  | none => rfl
  | some o => rw [(a.fr _ _ e).2.2] at h; cases h
theorem same_upd {F : Hp} {o : HO} (h : F p = none) : Same F (upd F p o) := fun b u e => by
  rw [upd_ne (ne_of_none e h)]; exact e
/-- a new frozen object -/
theorem At.laid (a : At K R F M H) (h : H p = none) (o : HO) : At K R (upd F p o) M (upd H p o) ∧ Same F (upd F p o) := by
  have hF := a.freeF h
  refine ⟨⟨fun b u e => ?_, fun b u e => ?_, fun b u e => ?_⟩, same_upd hF⟩
  · by_cases hb : b = p
    · subst hb; rw [upd_same] at e ⊢; exact e
    · rw [upd_ne hb] at e ⊢; exact a.fz _ _ e
  · obtain ⟨h1, v, h2, h3⟩ := a.mu _ _ e
    have hb : b ≠ p := ne_of_none h2 h
    exact ⟨by rw [upd_ne hb]; exact h1, v, by rw [upd_ne hb]; exact h2, h3.mono (same_upd hF)⟩
  · have hb : b ≠ p := ne_of_none e (a.freeR h)
    rw [upd_ne hb, upd_ne hb]; exact a.fr _ _ e
/-- a new object that may change -/
theorem At.born (a : At K R F M H) (h : H p = none) {o : MO} {u : HO} (r : RepO K F p o u) : At K R F (mupd M p o) (upd H p u) := by
  refine ⟨fun b v e => ?_, fun b v e => ?_, fun b v e => ?_⟩
  · have hb : b ≠ p := fun z => by subst z; rw [a.freeF h] at e; cases e
    rw [upd_ne hb]; exact a.fz _ _ e
  · by_cases hb : b = p
    · subst hb; rw [mupd_same] at e; cases e; exact ⟨a.freeF h, u, upd_same, r⟩
    · rw [mupd_ne hb] at e; rw [upd_ne hb]; exact a.mu _ _ e
  · have hb : b ≠ p := ne_of_none e (a.freeR h)
    rw [upd_ne hb, mupd_ne hb]; exact a.fr _ _ e
/-- a new cell that nobody asks for -/
theorem At.skip (a : At K R F M H) (h : H p = none) (u : HO) : At K R F M (upd H p u) := by
  refine ⟨fun b v e => ?_, fun b v e => ?_, fun b v e => ?_⟩
  · have hb : b ≠ p := fun z => by subst z; rw [a.freeF h] at e; cases e
    rw [upd_ne hb]; exact a.fz _ _ e
  · have hb : b ≠ p := fun z => by subst z; rw [a.freeM h] at e; cases e
    rw [upd_ne hb]; exact a.mu _ _ e
  · have hb : b ≠ p := fun z => by subst z; rw [a.freeR h] at e; cases e
    rw [upd_ne hb]; exact a.fr _ _ e
/-- an object changes -/
theorem At.wrote (a : At K R F M H) {o' o : MO} {u : HO} (h : M p = some o') (r : RepO K F p o u) : At K R F (mupd M p o) (upd H p u) := by
  obtain ⟨hF, _⟩ := a.mu _ _ h
  refine ⟨fun b v e => ?_, fun b v e => ?_, fun b v e => ?_⟩
  · have hb : b ≠ p := fun z => by subst z; rw [hF] at e; cases e
    rw [upd_ne hb]; exact a.fz _ _ e
  · by_cases hb : b = p
    · subst hb; rw [mupd_same] at e; cases e; exact ⟨hF, u, upd_same, r⟩
    · rw [mupd_ne hb] at e; rw [upd_ne hb]; exact a.mu _ _ e
  · have hb : b ≠ p := fun z => by subst z; rw [(a.fr _ _ e).2.1] at h; cases h
    rw [upd_ne hb, mupd_ne hb]; exact a.fr _ _ e
/-- an object is frozen -/
theorem At.freeze (a : At K R F M H) {o : MO} (h : M p = some o) : ∃ u, RepO K F p o u ∧ At K R (upd F p u) (mdel M p) H ∧ Same F (upd F p u) := by
  obtain ⟨hF, u, hH, r⟩ := a.mu _ _ h
  refine ⟨u, r, ⟨fun b v e => ?_, fun b v e => ?_, fun b v e => ?_⟩, same_upd hF⟩
  · by_cases hb : b = p
    · subst hb; rw [upd_same] at e; cases e; exact hH
    · rw [upd_ne hb] at e; exact a.fz _ _ e
  · have hb : b ≠ p := fun z => by subst z; rw [mdel_same] at e; cases e
    rw [mdel_ne hb] at e
    obtain ⟨h1, v, h2, h3⟩ := a.mu _ _ e
    exact ⟨by rw [upd_ne hb]; exact h1, v, h2, h3.mono (same_upd hF)⟩
  · have hb : b ≠ p := fun z => by subst z; rw [(a.fr _ _ e).2.1] at h; cases h
    rw [upd_ne hb, mdel_ne hb]; exact a.fr _ _ e
/-- an object is frozen, and its cell is written anew -/
theorem At.freezeAs (a : At K R F M H) {o : MO} (h : M p = some o) (u' : HO) : At K R (upd F p u') (mdel M p) (upd H p u') ∧ Same F (upd F p u') := by
  obtain ⟨hF, u, hH, r⟩ := a.mu _ _ h
  refine ⟨⟨fun b v e => ?_, fun b v e => ?_, fun b v e => ?_⟩, same_upd hF⟩
  · by_cases hb : b = p
    · subst hb; rw [upd_same] at e ⊢; exact e
    · rw [upd_ne hb] at e ⊢; exact a.fz _ _ e
  · have hb : b ≠ p := fun z => by subst z; rw [mdel_same] at e; cases e
    rw [mdel_ne hb] at e
    obtain ⟨h1, v, h2, h3⟩ := a.mu _ _ e
    exact ⟨by rw [upd_ne hb]; exact h1, v, by rw [upd_ne hb]; exact h2, h3.mono (same_upd hF)⟩
  · have hb : b ≠ p := fun z => by subst z; rw [(a.fr _ _ e).2.1] at h; cases h
    rw [upd_ne hb, mdel_ne hb, upd_ne hb]; exact a.fr _ _ e
/-- a cell that nobody has becomes another's -/
theorem At.lend (a : At K R F M H) (h : H p = none) (u : HO) : At K (upd R p u) F M (upd H p u) := by
  refine ⟨fun b v e => ?_, fun b v e => ?_, fun b v e => ?_⟩
  · have hb : b ≠ p := ne_of_none e (a.freeF h)
    rw [upd_ne hb]; exact a.fz _ _ e
  · have hb : b ≠ p := fun z => by subst z; rw [a.freeM h] at e; cases e
    rw [upd_ne hb]; exact a.mu _ _ e
  · by_cases hb : b = p
    · subst hb; rw [upd_same] at e ⊢; exact ⟨a.freeF h, a.freeM h, e⟩
    · rw [upd_ne hb] at e ⊢; exact a.fr _ _ e
/-- .. and changes -/
theorem At.relend {u : HO} (a : At K (upd R p u) F M H) (u' : HO) : At K (upd R p u') F M (upd H p u') := by
  obtain ⟨h1, h2, h3⟩ := a.fr p u upd_same
  refine ⟨fun b v e => ?_, fun b v e => ?_, fun b v e => ?_⟩
  · have hb : b ≠ p := ne_of_none e h1
    rw [upd_ne hb]; exact a.fz _ _ e
  · have hb : b ≠ p := fun z => by subst z; rw [h2] at e; cases e
    rw [upd_ne hb]; exact a.mu _ _ e
  · by_cases hb : b = p
    · subst hb; rw [upd_same] at e ⊢; exact ⟨h1, h2, e⟩
    · rw [upd_ne hb] at e ⊢; exact a.fr _ _ (by rw [upd_ne hb]; exact e)
/-- .. and is frozen -/
theorem At.takeF {u : HO} (a : At K (upd R p u) F M H) (hR : R p = none) : At K R (upd F p u) M H ∧ Same F (upd F p u) := by
  obtain ⟨h1, h2, h3⟩ := a.fr p u upd_same
  refine ⟨⟨fun b v e => ?_, fun b v e => ?_, fun b v e => ?_⟩, same_upd h1⟩
  · by_cases hb : b = p
    · subst hb; rw [upd_same] at e; cases e; exact h3
    · rw [upd_ne hb] at e; exact a.fz _ _ e
  · have hb : b ≠ p := fun z => by subst z; rw [h2] at e; cases e
    obtain ⟨z1, v, z2, z3⟩ := a.mu _ _ e
    exact ⟨by rw [upd_ne hb]; exact z1, v, z2, z3.mono (same_upd h1)⟩
  · have hb : b ≠ p := ne_of_none e hR
    rw [upd_ne hb]; exact a.fr _ _ (by rw [upd_ne hb]; exact e)
/-- .. or stands as an object that may change -/
theorem At.takeM {u : HO} {o : MO} (a : At K (upd R p u) F M H) (hR : R p = none) (r : RepO K F p o u) : At K R F (mupd M p o) H := by
  obtain ⟨h1, h2, h3⟩ := a.fr p u upd_same
  refine ⟨a.fz, fun b v e => ?_, fun b v e => ?_⟩
  · by_cases hb : b = p
    · subst hb; rw [mupd_same] at e; cases e; exact ⟨h1, u, h3, r⟩
    · rw [mupd_ne hb] at e; exact a.mu _ _ e
  · have hb : b ≠ p := ne_of_none e hR
    rw [mupd_ne hb]; exact a.fr _ _ (by rw [upd_ne hb]; exact e)
end
abbrev DEnv := List (Option D)
structure EnvR (K : PySem.W.Frag) (F : Hp) (σ : L2.St) (env : DEnv) : Prop where
  len : σ.length = env.length
  get : ∀ (i : Nat) (d : D), env[i]? = some (some d) → ∃ v, σ[i]? = some (some v) ∧ Rep K F d v
section
variable {K : PySem.W.Frag} {F F' : Hp} {σ : L2.St} {env : DEnv}
theorem EnvR.mono (s : Same F F') (e : EnvR K F σ env) : EnvR K F' σ env := ⟨e.len, fun i d h => by
  obtain ⟨v, h1, h2⟩ := e.get i d h
  exact ⟨v, h1, h2.mono s⟩⟩
theorem EnvR.set (e : EnvR K F σ env) {d : D} {v : V} (i : Nat) (r : Rep K F d v) : EnvR K F (σ.set i (some v)) (env.set i (some d)) := by
  refine ⟨by simp [e.len], fun j g h => ?_⟩
  by_cases hj : i = j
  · subst hj
    by_cases hi : i < env.length
    · rw [List.getElem?_set_self hi] at h
      cases h
      exact ⟨v, List.getElem?_set_self (by rw [e.len]; exact hi), r⟩
    · rw [List.getElem?_eq_none (by simpa using hi)] at h; cases h
  · rw [List.getElem?_set_ne hj] at h ⊢
    exact e.get j g h
theorem EnvR.forget (e : EnvR K F σ env) (i : Nat) : EnvR K F (σ.set i none) (env.set i none) := by
  refine ⟨by simp [e.len], fun j g h => ?_⟩
  by_cases hj : i = j
  · subst hj
    by_cases hi : i < env.length
    · rw [List.getElem?_set_self hi] at h; cases h
    · rw [List.getElem?_eq_none (by simpa using hi)] at h; cases h
  · rw [List.getElem?_set_ne hj] at h ⊢
    exact e.get j g h
end
def wipeD (env : DEnv) : List Nat → DEnv
  | [] => env
  | v :: vs => (wipeD env vs).set v none
theorem EnvR.wipe {K : PySem.W.Frag} {F : Hp} {σ : L2.St} {env : DEnv} (e : EnvR K F σ env) : ∀ vs : List Nat, EnvR K F (wipe σ vs) (wipeD env vs)
  | [] => e
  | v :: vs => (EnvR.wipe e vs).forget v
/-- two ways -/
def brn (c : Bool) (A B : Prop) : Prop := match c with
  | true => A
  | false => B
theorem brn_t {A B : Prop} : brn true A B = A := rfl
theorem brn_f {A B : Prop} : brn false A B = B := rfl
theorem brn_by {c : Bool} {A B : Prop} (h1 : c = true → A) (h2 : c = false → B) : brn c A B := by
  cases c with
  | true => exact h1 rfl
  | false => exact h2 rfl
abbrev DK := D → Mp → Prop
abbrev DE := DEnv → Mp → DK → Prop
abbrev DT := DEnv → Mp → (Bool → Mp → Prop) → Prop
abbrev DA := DEnv → Mp → (List D → Mp → Prop) → Prop
structure DEnds where
  nx : DEnv → Mp → Prop
  rt : DK
  bk : DEnv → Mp → Prop := fun _ _ => False
  ct : DEnv → Mp → Prop := fun _ _ => False
abbrev DS := DEnds → DEnv → Mp → Prop
/-- what is wanted of a value, by data -/
def KD (K : PySem.W.Frag) (R F : Hp) (Qd : DK) (Q : VK) : Prop := ∀ F' H' M' d v, Same F F' → At K R F' M' H' → Rep K F' d v → Qd d M' → Q v H'
def KT (K : PySem.W.Frag) (R F : Hp) (Qd : Bool → Mp → Prop) (Q : Bool → Hp → Prop) : Prop := ∀ F' H' M' b, Same F F' → At K R F' M' H' → Qd b M' → Q b H'
def KA (K : PySem.W.Frag) (R F : Hp) (n : Nat) (Qd : List D → Mp → Prop) (Q : List V → Hp → Prop) : Prop := ∀ F' H' M' ds vs, Same F F' → At K R F' M' H' → Reps K F' ds vs → ds.length = n → Qd ds M' → Q vs H'
def KN (K : PySem.W.Frag) (R F : Hp) (Qd : DEnv → Mp → Prop) (Q : L2.St → Hp → Prop) : Prop := ∀ F' H' M' env σ, Same F F' → At K R F' M' H' → EnvR K F' σ env → Qd env M' → Q σ H'
theorem KD.mono {K : PySem.W.Frag} {R F F1 : Hp} {Qd : DK} {Q : VK} (k : KD K R F Qd Q) (s : Same F F1) : KD K R F1 Qd Q := fun F' H' M' d v s' => k F' H' M' d v (s.trans s')
theorem KT.mono {K : PySem.W.Frag} {R F F1 : Hp} {Qd : Bool → Mp → Prop} {Q : Bool → Hp → Prop} (k : KT K R F Qd Q) (s : Same F F1) : KT K R F1 Qd Q := fun F' H' M' d s' => k F' H' M' d (s.trans s')
theorem KA.mono {K : PySem.W.Frag} {R F F1 : Hp} {n : Nat} {Qd : List D → Mp → Prop} {Q : List V → Hp → Prop} (k : KA K R F n Qd Q) (s : Same F F1) : KA K R F1 n Qd Q := fun F' H' M' d v s' => k F' H' M' d v (s.trans s')
theorem KN.mono {K : PySem.W.Frag} {R F F1 : Hp} {Qd : DEnv → Mp → Prop} {Q : L2.St → Hp → Prop} (k : KN K R F Qd Q) (s : Same F F1) : KN K R F1 Qd Q := fun F' H' M' d v s' => k F' H' M' d v (s.trans s')
structure KE (K : PySem.W.Frag) (R F : Hp) (Dd : DEnds) (D : Ends) : Prop where
  nx : KN K R F Dd.nx D.nx
  rt : KD K R F Dd.rt D.rt
  bk : KN K R F Dd.bk D.bk
  ct : KN K R F Dd.ct D.ct
theorem KE.mono {K : PySem.W.Frag} {R F F1 : Hp} {Dd : DEnds} {D : Ends} (k : KE K R F Dd D) (s : Same F F1) : KE K R F1 Dd D := ⟨k.nx.mono s, k.rt.mono s, k.bk.mono s, k.ct.mono s⟩
def up (K : PySem.W.Frag) (t : DE) : TE := fun σ H Q => ∃ R F env M Qd, At K R F M H ∧ EnvR K F σ env ∧ t env M Qd ∧ KD K R F Qd Q
def upT (K : PySem.W.Frag) (t : DT) : TT := fun σ H Q => ∃ R F env M Qd, At K R F M H ∧ EnvR K F σ env ∧ t env M Qd ∧ KT K R F Qd Q
def upA (K : PySem.W.Frag) (n : Nat) (t : DA) : TA := fun σ H Q => ∃ R F env M Qd, At K R F M H ∧ EnvR K F σ env ∧ t env M Qd ∧ KA K R F n Qd Q
def upS (K : PySem.W.Frag) (t : DS) : TS := fun D σ H => ∃ R F env M Dd, At K R F M H ∧ EnvR K F σ env ∧ t Dd env M ∧ KE K R F Dd D
abbrev PDE (X : Cx) (e : Expr) (t : DE) : Prop := PE X e (up X.K t)
abbrev PDT (X : Cx) (e : Expr) (t : DT) : Prop := PT X e (upT X.K t)
abbrev PDA (X : Cx) (es : List Expr) (t : DA) : Prop := PA X es (upA X.K es.length t)
abbrev PDS (X : Cx) (st : Stmt) (t : DS) : Prop := PS X st (upS X.K t)
abbrev PDSs (X : Cx) (st : List Stmt) (t : DS) : Prop := PSs X st (upS X.K t)
section
variable {X : Cx}
theorem pe_imp {e : Expr} {t t' : TE} (h : PE X e t) (i : ∀ σ H Q, t' σ H Q → t σ H Q) : PE X e t' := ⟨fun pins s σ H Q I q => h.run pins s σ H Q I (i _ _ _ q)⟩
theorem pt_imp {e : Expr} {t t' : TT} (h : PT X e t) (i : ∀ σ H Q, t' σ H Q → t σ H Q) : PT X e t' := ⟨fun pins s σ H Q I q => h.run pins s σ H Q I (i _ _ _ q)⟩
theorem pw_imp {e : Expr} {t t' : TT} (h : PW X e t) (i : ∀ σ H Q, t' σ H Q → t σ H Q) : PW X e t' := ⟨fun wh pins s σ H Q I q => h.run wh pins s σ H Q I (i _ _ _ q)⟩
theorem pa_imp {es : List Expr} {t t' : TA} (h : PA X es t) (i : ∀ σ H Q, t' σ H Q → t σ H Q) : PA X es t' := ⟨fun pos pins s σ H Q I q => h.run pos pins s σ H Q I (i _ _ _ q)⟩
theorem ps_imp {st : Stmt} {t t' : TS} (h : PS X st t) (i : ∀ D σ H, t' D σ H → t D σ H) : PS X st t' := ⟨fun pins s σ H D I q => h.run pins s σ H D I (i _ _ _ q)⟩
theorem pss_imp {st : List Stmt} {t t' : TS} (h : PSs X st t) (i : ∀ D σ H, t' D σ H → t D σ H) : PSs X st t' := ⟨fun pins s σ H D I q => h.run pins s σ H D I (i _ _ _ q)⟩
def dVar (i : Nat) : DE := fun env M Q => match env[i]? with
  | some (some d) => Q d M
  | _ => False
theorem dv (i : Nat) {x : Str} {pos : Pos} (hN : X.N[i]? = some x := by rfl) (hv : Vis X.env.scope x := by first | exact Or.inl rfl | exact Or.inr (Or.inl rfl) | exact Or.inr (Or.inr rfl)) (hd : (x == ("__debug__" : Str)) = false := by decide)
    (hcd : (x == ("__classdict__" : Str)) = false := by decide) : PDE X (.Name x pos) (dVar i) := by
  refine pe_imp (pe_var hN hv hd hcd) fun σ H Q ⟨R, F, env, M, Qd, a, e, h, k⟩ => ?_
  unfold dVar at h
  split at h
  · rename_i d hi
    obtain ⟨v, h1, h2⟩ := e.get i d hi
    exact ⟨v, h1, k F H M d v (Same.refl F) a h2 h⟩
  · exact h.elim
def dC (d : D) : DE := fun _ M Q => Q d M
theorem upC {K : PySem.W.Frag} {d : D} {v : V} (hr : ∀ F, Rep K F d v) : ∀ σ H Q, up K (dC d) σ H Q → tC v σ H Q := fun σ H Q ⟨R, F, env, M, Qd, a, e, h, k⟩ => k F H M d v (Same.refl F) a (hr F) h
theorem pd_int {i j pos} : PDE X (.Constant (.int i) j pos) (dC (.int i)) := pe_imp pe_int (upC fun _ => rfl)
theorem pd_bl {b j pos} : PDE X (.Constant (.bool b) j pos) (dC (.bl b)) := pe_imp pe_bl (upC fun _ => rfl)
theorem pd_non {j pos} : PDE X (.Constant .none j pos) (dC .non) := pe_imp pe_non (upC fun _ => rfl)
theorem pd_str {x j pos} (h : SOk x := by decide +kernel) : PDE X (.Constant (.str x) j pos) (dC (.str x)) := pe_imp pe_str (upC fun _ => ⟨rfl, h⟩)
/-- a module's constant -/
theorem pd_glob {x : Str} {d : D} {v : V} {u : Value} {pos : Pos} (hg : Gl X x) (hm : X.mg x = some u) (r : RelV v u) (hr : ∀ F, Rep X.K F d v) (hd : (x == ("__debug__" : Str)) = false := by decide) : PDE X (.Name x pos) (dC d) := pe_imp (pe_glob hg hm r hd) (upC hr)
theorem pd_globI {x : Str} {i : Int} {t : Tok} {pos : Pos} (hg : Gl X x) (hm : X.mg x = some (.int i t)) (hd : (x == ("__debug__" : Str)) = false := by decide) : PDE X (.Name x pos) (dC (.int i)) := pd_glob (v := .int i) hg hm ⟨t, rfl⟩ (fun _ => rfl) hd
theorem pd_globS {x z : Str} {t : Tok} {pos : Pos} (hg : Gl X x) (hm : X.mg x = some (.str z t)) (hz : SOk z := by decide +kernel) (hd : (x == ("__debug__" : Str)) = false := by decide) : PDE X (.Name x pos) (dC (.str z)) := pd_glob (v := .str z) hg hm ⟨t, rfl⟩ (fun _ => ⟨rfl, hz⟩) hd
abbrev R2D := D → D → Mp → DK → Prop
def dBin (r : R2D) (ta tb : DE) : DE := fun env M Q => ta env M fun x M1 => tb env M1 fun y M2 => r x y M2 Q
/-- a rule on values serves a rule on data -/
def Serves2 (K : PySem.W.Frag) (r : R2D) (rV : R2) : Prop := ∀ R F M H d e x y Qd Q, At K R F M H → Rep K F d x → Rep K F e y → r d e M Qd → KD K R F Qd Q → rV x y H Q
theorem up_bin {K : PySem.W.Frag} {r : R2D} {rV : R2} {ta tb : DE} (hs : Serves2 K r rV) : ∀ σ H Q, up K (dBin r ta tb) σ H Q → tOp rV (up K ta) (up K tb) σ H Q := fun σ H Q ⟨R, F, env, M, Qd, a, e, h, k⟩ =>
  ⟨R, F, env, M, _, a, e, h, fun F1 H1 M1 d v s1 a1 r1 h1 => ⟨R, F1, env, M1, _, a1, e.mono s1, h1, fun F2 H2 M2 d2 v2 s2 a2 r2 h2 => hs R F2 M2 H2 d d2 v v2 Qd Q a2 (r1.mono s2) r2 h2 (k.mono (s1.trans s2))⟩⟩
structure OpD (X : Cx) (f : Value → Value → Sem Value) (r : R2D) : Prop where
  ex : ∃ rV, OpR X f rV ∧ Serves2 X.K r rV
variable {a b c : Expr} {ta tb tc : DE} {pos : Pos}
theorem pd_op {op : Operator} {r : R2D} (ho : OpD X (binaryOp op) r) (ha : PDE X a ta) (hb : PDE X b tb) : PDE X (.BinOp a op b pos) (dBin r ta tb) := by
  obtain ⟨rV, h1, h2⟩ := ho.ex
  exact pe_imp (pe_op h1 ha hb) (up_bin h2)
theorem pd_cmp {op : CmpOp} {r : R2D} (ho : OpD X (compareOp op) r) (ha : PDE X a ta) (hb : PDE X b tb) (hm : behindInMarks op b = false := by first | exact nomark _ | rfl) : PDE X (.Compare a [op] [b] pos) (dBin r ta tb) := by
  obtain ⟨rV, h1, h2⟩ := ho.ex
  exact pe_imp (pe_cmpR h1 ha hb hm) (up_bin h2)
/-- a reading of a truth value as a test -/
def dTest (t : DE) : DT := fun env M Q => t env M fun d M1 => match d with
  | .bl b => Q b M1
  | _ => False
theorem up_test {K : PySem.W.Frag} {t : DE} {tV : TE} (h : ∀ σ H Q, up K t σ H Q → tV σ H Q) : ∀ σ H Q, upT K (dTest t) σ H Q → tTest tV σ H Q := fun σ H Q ⟨R, F, env, M, Qd, a, e, h1, k⟩ => by
  refine h σ H _ ⟨R, F, env, M, _, a, e, h1, fun F' H' M' d v s a' r q => ?_⟩
  cases d with
  | bl b => exact ⟨b, r, k F' H' M' b s a' q⟩
  | _ => exact q.elim
theorem pdt_cmp {op : CmpOp} {r : R2D} (ho : OpD X (compareOp op) r) (ha : PDE X a ta) (hb : PDE X b tb) (hm : behindInMarks op b = false := by first | exact nomark _ | rfl) : PDT X (.Compare a [op] [b] pos) (dTest (dBin r ta tb)) := by
  obtain ⟨rV, h1, h2⟩ := ho.ex
  exact pt_imp (pt_cmpR h1 ha hb hm) (up_test (up_bin h2))
def dChain (r r' : R2D) (ta tb tc : DE) : DE := fun env M Q => ta env M fun x M1 => tb env M1 fun y M2 => r x y M2 fun z M3 => match z with
  | .bl k => brn k (tc env M3 fun w M4 => r' y w M4 Q) (Q (.bl false) M3)
  | _ => False
theorem up_chain {K : PySem.W.Frag} {r r' : R2D} {rV rV' : R2} (hs : Serves2 K r rV) (hs' : Serves2 K r' rV') : ∀ σ H Q, up K (dChain r r' ta tb tc) σ H Q → tChain rV rV' (up K ta) (up K tb) (up K tc) σ H Q := fun σ H Q ⟨R, F, env, M, Qd, a, e, h, k⟩ =>
  ⟨R, F, env, M, _, a, e, h, fun F1 H1 M1 d v s1 a1 r1 h1 => ⟨R, F1, env, M1, _, a1, e.mono s1, h1, fun F2 H2 M2 d2 v2 s2 a2 r2 h2 => by
    refine hs R F2 M2 H2 d d2 v v2 _ _ a2 (r1.mono s2) r2 h2 fun F3 H3 M3 d3 v3 s3 a3 r3 h3 => ?_
    cases d3 with
    | bl b =>
      refine ⟨b, r3, ?_⟩
      change brn b _ _ at h3
      cases b with
      | true =>
        rw [brn_t] at h3; rw [if_pos rfl]
        exact ⟨R, F3, env, M3, _, a3, ((e.mono s1).mono s2).mono s3, h3, fun F4 H4 M4 d4 v4 s4 a4 r4 h4 => hs' R F4 M4 H4 d2 d4 v2 v4 Qd Q a4 (r2.mono (s3.trans s4)) r4 h4 (k.mono (((s1.trans s2).trans s3).trans s4))⟩
      | false =>
        rw [brn_f] at h3; rw [if_neg Bool.false_ne_true]
        exact k F3 H3 M3 (.bl false) (.bl false) ((s1.trans s2).trans s3) a3 (show Rep _ _ (.bl false) _ from rfl) h3
    | _ => exact h3.elim⟩⟩
theorem pd_chain {op op' : CmpOp} {r r' : R2D} (ho : OpD X (compareOp op) r) (ho' : OpD X (compareOp op') r') (ha : PDE X a ta) (hb : PDE X b tb) (hc : PDE X c tc)
    (hm : lastMarks [op, op'] [b, c] = false := by with_unfolding_all rfl) : PDE X (.Compare a [op, op'] [b, c] pos) (dChain r r' ta tb tc) := by
  obtain ⟨rV, h1, h2⟩ := ho.ex
  obtain ⟨rV', h1', h2'⟩ := ho'.ex
  exact pe_imp (pe_chain h1 h1' ha hb hc hm) (up_chain h2 h2')
/-- one argument -/
def dUn (r : D → Mp → DK → Prop) (ta : DE) : DE := fun env M Q => ta env M fun x M1 => r x M1 Q
def rNegI : D → Mp → DK → Prop := fun d M Q => match d with
  | .int i => Q (.int (-i)) M
  | _ => False
theorem pd_neg (ha : PDE X a ta) : PDE X (.UnaryOp .USub a pos) (dUn rNegI ta) := by
  refine pe_imp (pe_un un_neg ha) fun σ H Q ⟨R, F, env, M, Qd, a, e, h, k⟩ => ⟨R, F, env, M, _, a, e, h, fun F1 H1 M1 d v s1 a1 r1 h1 => ?_⟩
  cases d with
  | int i => exact ⟨i, r1, k F1 H1 M1 (.int (-i)) _ s1 a1 rfl h1⟩
  | _ => exact h1.elim
def truD (M : Mp) : D → Option Bool
  | .non => some false
  | .bl b => some b
  | .int i => some (i != 0)
  | .str x => some ((x.length : Int) != 0)
  | .tup ds => some (!ds.isEmpty)
  | .lst ds => some (!ds.isEmpty)
  | .ref a => match M a with
    | some (.lst ds) => some (!ds.isEmpty)
    | some (.dct ks _) => some (!ks.isEmpty)
    | _ => none
  | _ => none
def dTru (ta : DE) : DT := fun env M Q => ta env M fun d M1 => match truD M1 d with
  | some b => Q b M1
  | none => False
theorem tru_ok {K : PySem.W.Frag} {R F : Hp} {M : Mp} {H : Hp} (a : At K R F M H) : ∀ {d : D} {v : V} {b : Bool}, Rep K F d v → truD M d = some b → TruV K v H b
  | .non, _, _, r, h => by cases r; cases h; rfl
  | .bl _, _, _, r, h => by cases r; cases h; rfl
  | .int _, _, _, r, h => by cases r; cases h; rfl
  | .str _, _, _, r, h => by obtain ⟨r, z⟩ := r; cases r; cases h; exact ⟨z.1, rfl⟩
  | .tup ds, _, _, ⟨p, xs, e, q, r⟩, h => by
    subst e; cases h; rw [r.isEmpty]; exact .inr (.inl ⟨xs, Same.seqT a.fz q, rfl⟩)
  | .lst ds, _, _, ⟨p, xs, e, q, r⟩, h => by
    subst e; cases h; rw [r.isEmpty]; exact .inl ⟨xs, SqL.of (a.fz _ _ q), rfl⟩
  | .ref p, _, _, r, h => by
    cases r
    simp only [truD] at h
    split at h
    · rename_i ds hm
      cases h
      obtain ⟨_, u, hu, xs, e, r⟩ := a.mu _ _ hm
      subst e
      rw [r.isEmpty]
      exact .inl ⟨xs, SqL.of hu, rfl⟩
    · rename_i ks ds hm
      cases h
      obtain ⟨_, u, hu, xs, e, l, r⟩ := a.mu _ _ hm
      subst e
      refine .inr (.inr ⟨_, hu, ?_⟩)
      rw [isEmpty_zip (by rw [l.1, r.length])]
    · cases h
  | .ty _, _, _, _, h => by cases h
  | .lsk _, _, _, _, h => by cases h
  | .dct _ _, _, _, _, h => by cases h
  | .obj _ _, _, _, _, h => by cases h
  | .dkd _ _ _, _, _, _, h => by cases h
  | .exc _ _ _ _, _, _, _, h => by cases h
  | .fn _ _ _, _, _, _, h => by cases h
theorem pdt (ha : PDE X a ta) (he : ∀ whole, isTrue a X.env whole = (do let v ← whole; standAt a.pos; holding [v] (truthy v)) := by intro _; rfl) : PDT X a (dTru ta) := by
  refine pt_imp (pt_truth ha he) fun σ H Q ⟨R, F, env, M, Qd, a, e, h, k⟩ => ⟨R, F, env, M, _, a, e, h, fun F1 H1 M1 d v s1 a1 r1 h1 => ?_⟩
  split at h1
  · rename_i b hb
    exact ⟨b, tru_ok a1 r1 hb, k F1 H1 M1 b s1 a1 h1⟩
  · exact h1.elim
abbrev PDW (X : Cx) (e : Expr) (t : DT) : Prop := PW X e (upT X.K t)
variable {tA tB : DT} {rest : List Expr}
def dAnd (t u : DT) : DT := fun env M Q => t env M fun c M1 => brn c (u env M1 Q) (Q false M1)
def dOr (t u : DT) : DT := fun env M Q => t env M fun c M1 => brn c (Q true M1) (u env M1 Q)
def dNot (t : DT) : DT := fun env M Q => t env M fun c M1 => Q (!c) M1
theorem pdw_and1 (ha : PDT X a tA) : PDW X (.BoolOp .And [a] pos) tA := pw_and1 ha
theorem pdw_or1 (ha : PDT X a tA) : PDW X (.BoolOp .Or [a] pos) tA := pw_or1 ha
theorem pdw_and (ha : PDT X a tA) (hb : PDW X (.BoolOp .And (b :: rest) pos) tB) : PDW X (.BoolOp .And (a :: b :: rest) pos) (dAnd tA tB) := by
  refine pw_imp (pw_and ha hb) fun σ H Q ⟨R, F, env, M, Qd, a, e, h, k⟩ => ⟨R, F, env, M, _, a, e, h, fun F1 H1 M1 b s1 a1 h1 => ?_⟩
  cases b with
  | true => rw [brn_t] at h1; rw [if_pos rfl]; exact ⟨R, F1, env, M1, Qd, a1, e.mono s1, h1, k.mono s1⟩
  | false => rw [brn_f] at h1; rw [if_neg Bool.false_ne_true]; exact k F1 H1 M1 _ s1 a1 h1
theorem pdw_or (ha : PDT X a tA) (hb : PDW X (.BoolOp .Or (b :: rest) pos) tB) : PDW X (.BoolOp .Or (a :: b :: rest) pos) (dOr tA tB) := by
  refine pw_imp (pw_or ha hb) fun σ H Q ⟨R, F, env, M, Qd, a, e, h, k⟩ => ⟨R, F, env, M, _, a, e, h, fun F1 H1 M1 b s1 a1 h1 => ?_⟩
  cases b with
  | true => rw [brn_t] at h1; rw [if_pos rfl]; exact k F1 H1 M1 _ s1 a1 h1
  | false => rw [brn_f] at h1; rw [if_neg Bool.false_ne_true]; exact ⟨R, F1, env, M1, Qd, a1, e.mono s1, h1, k.mono s1⟩
theorem pdt_not (ha : PDT X a tA) : PDT X (.UnaryOp .Not a pos) (dNot tA) := by
  refine pt_imp (pt_not ha) fun σ H Q ⟨R, F, env, M, Qd, a, e, h, k⟩ => ⟨R, F, env, M, _, a, e, h, fun F1 H1 M1 b s1 a1 h1 => k F1 H1 M1 _ s1 a1 h1⟩
/-- as values -/
def dAndV (ta tb : DE) : DE := fun env M Q => ta env M fun x M1 => match truD M1 x with
  | some c => brn c (tb env M1 Q) (Q x M1)
  | none => False
def dOrV (ta tb : DE) : DE := fun env M Q => ta env M fun x M1 => match truD M1 x with
  | some c => brn c (Q x M1) (tb env M1 Q)
  | none => False
def dNotV (ta : DE) : DE := fun env M Q => ta env M fun x M1 => match truD M1 x with
  | some c => Q (.bl (!c)) M1
  | none => False
theorem pd_one {op} (h : PDE X a ta) : PDE X (.BoolOp op [a] pos) ta := pe_one h
theorem pd_and (ha : PDE X a ta) (hb : PDE X (.BoolOp .And (b :: rest) pos) tb) : PDE X (.BoolOp .And (a :: b :: rest) pos) (dAndV ta tb) := by
  refine pe_imp (pe_andT ha hb) fun σ H Q ⟨R, F, env, M, Qd, a, e, h, k⟩ => ⟨R, F, env, M, _, a, e, h, fun F1 H1 M1 d v s1 a1 r1 h1 => ?_⟩
  split at h1
  · rename_i c hc
    refine ⟨c, tru_ok a1 r1 hc, ?_⟩
    cases c with
    | true => rw [brn_t] at h1; rw [if_pos rfl]; exact ⟨R, F1, env, M1, Qd, a1, e.mono s1, h1, k.mono s1⟩
    | false => rw [brn_f] at h1; rw [if_neg Bool.false_ne_true]; exact k F1 H1 M1 _ _ s1 a1 r1 h1
  · exact h1.elim
theorem pd_or (ha : PDE X a ta) (hb : PDE X (.BoolOp .Or (b :: rest) pos) tb) : PDE X (.BoolOp .Or (a :: b :: rest) pos) (dOrV ta tb) := by
  refine pe_imp (pe_orT ha hb) fun σ H Q ⟨R, F, env, M, Qd, a, e, h, k⟩ => ⟨R, F, env, M, _, a, e, h, fun F1 H1 M1 d v s1 a1 r1 h1 => ?_⟩
  split at h1
  · rename_i c hc
    refine ⟨c, tru_ok a1 r1 hc, ?_⟩
    cases c with
    | true => rw [brn_t] at h1; rw [if_pos rfl]; exact k F1 H1 M1 _ _ s1 a1 r1 h1
    | false => rw [brn_f] at h1; rw [if_neg Bool.false_ne_true]; exact ⟨R, F1, env, M1, Qd, a1, e.mono s1, h1, k.mono s1⟩
  · exact h1.elim
theorem pd_not (ha : PDE X a ta) : PDE X (.UnaryOp .Not a pos) (dNotV ta) := by
  refine pe_imp (pe_notT ha) fun σ H Q ⟨R, F, env, M, Qd, a, e, h, k⟩ => ⟨R, F, env, M, _, a, e, h, fun F1 H1 M1 d v s1 a1 r1 h1 => ?_⟩
  split at h1
  · rename_i c hc
    exact ⟨c, tru_ok a1 r1 hc, k F1 H1 M1 (.bl (!c)) _ s1 a1 rfl h1⟩
  · exact h1.elim
def dIf (t : DT) (ta tb : DE) : DE := fun env M Q => t env M fun c M1 => brn c (ta env M1 Q) (tb env M1 Q)
theorem pd_if (hc : PDT X c tA) (ha : PDE X a ta) (hb : PDE X b tb) : PDE X (.IfExp c a b pos) (dIf tA ta tb) := by
  refine pe_imp (pe_ifExp hc ha hb) fun σ H Q ⟨R, F, env, M, Qd, a, e, h, k⟩ => ⟨R, F, env, M, _, a, e, h, fun F1 H1 M1 b s1 a1 h1 => ?_⟩
  cases b with
  | true => rw [brn_t] at h1; rw [if_pos rfl]; exact ⟨R, F1, env, M1, Qd, a1, e.mono s1, h1, k.mono s1⟩
  | false => rw [brn_f] at h1; rw [if_neg Bool.false_ne_true]; exact ⟨R, F1, env, M1, Qd, a1, e.mono s1, h1, k.mono s1⟩
def dNil : DA := fun _ M Q => Q [] M
def dCons (ta : DE) (tr : DA) : DA := fun env M Q => ta env M fun x M1 => tr env M1 fun xs M2 => Q (x :: xs) M2
theorem pda_nil : PDA X [] dNil := pa_imp pa_nil fun σ H Q ⟨R, F, env, M, Qd, a, e, h, k⟩ => k F H M [] [] (Same.refl F) a rfl rfl h
theorem pda_cons {es : List Expr} {t : DA} (ha : PDE X a ta) (hr : PDA X es t) (hs : starEach (a :: es) X.env = (false, eval a X.env) :: starEach es X.env := by rfl) : PDA X (a :: es) (dCons ta t) :=
  pa_imp (pa_cons ha hr hs) fun σ H Q ⟨R, F, env, M, Qd, a, e, h, k⟩ => ⟨R, F, env, M, _, a, e, h, fun F1 H1 M1 d v s1 a1 r1 h1 => ⟨R, F1, env, M1, _, a1, e.mono s1, h1, fun F2 H2 M2 ds vs s2 a2 r2 l2 h2 =>
    k F2 H2 M2 (d :: ds) (v :: vs) (s1.trans s2) a2 ⟨v, vs, rfl, r1.mono s2, r2⟩ (by simp [l2]) h2⟩⟩
variable {es : List Expr} {t : DA}
def dTup (t : DA) : DE := fun env M Q => t env M fun ds M1 => Q (.tup ds) M1
def dLst (t : DA) : DE := fun env M Q => t env M fun ds M1 => Q (.lst ds) M1
def dLstM (t : DA) : DE := fun env M Q => t env M fun ds M1 => ∀ p, M1 p = none → Q (.ref p) (mupd M1 p (.lst ds))
theorem tup_new {K : PySem.W.Frag} {R F : Hp} {M : Mp} {H : Hp} {ds : List D} {vs : List V} {Qd : DK} {Q : VK} {p : Addr} (a : At K R F M H) (r : Reps K F ds vs) (k : KD K R F Qd Q) (h : Qd (.tup ds) M) (hp : H p = none) : Q (.ref p) (upd H p (.tup vs)) := by
  obtain ⟨a1, s1⟩ := a.laid hp (.tup vs)
  exact k _ _ M (.tup ds) _ s1 a1 ⟨p, vs, rfl, SqT.of upd_same, r.mono s1⟩ h
theorem lst_new {K : PySem.W.Frag} {R F : Hp} {M : Mp} {H : Hp} {ds : List D} {vs : List V} {Qd : DK} {Q : VK} {p : Addr} (a : At K R F M H) (r : Reps K F ds vs) (k : KD K R F Qd Q) (h : Qd (.lst ds) M) (hp : H p = none) : Q (.ref p) (upd H p (.lst vs)) := by
  obtain ⟨a1, s1⟩ := a.laid hp (.lst vs)
  exact k _ _ M (.lst ds) _ s1 a1 ⟨p, vs, rfl, upd_same, r.mono s1⟩ h
theorem lst_born {K : PySem.W.Frag} {R F : Hp} {M : Mp} {H : Hp} {ds : List D} {vs : List V} {Qd : DK} {Q : VK} {p : Addr} (a : At K R F M H) (r : Reps K F ds vs) (k : KD K R F Qd Q) (h : ∀ p, M p = none → Qd (.ref p) (mupd M p (.lst ds))) (hp : H p = none) : Q (.ref p) (upd H p (.lst vs)) :=
  k F _ _ (.ref p) _ (Same.refl F) (a.born hp (o := .lst ds) ⟨vs, rfl, r⟩) rfl (h p (a.freeM hp))
theorem small1k {n : Nat} (h : n ≤ 1000) : n ≤ sizeLine := Nat.le_of_lt (small1000 h)
theorem pd_tup {k : Nat} (h : PDA X es t) (hz : es.length ≤ 1000 := by decide) : PDE X (.Tuple es k pos) (dTup t) :=
  pe_imp (pe_tup h) fun σ H Q ⟨R, F, env, M, Qd, a, e, h, k⟩ => ⟨R, F, env, M, _, a, e, h, fun F1 H1 M1 ds vs s1 a1 r1 l1 h1 => ⟨small1k (by rw [← r1.length, l1]; exact hz), fun p hp => tup_new a1 r1 (k.mono s1) h1 hp⟩⟩
theorem pd_lst (h : PDA X es t) (hz : es.length ≤ 1000 := by decide) : PDE X (.List es pos) (dLst t) :=
  pe_imp (pe_lst h) fun σ H Q ⟨R, F, env, M, Qd, a, e, h, k⟩ => ⟨R, F, env, M, _, a, e, h, fun F1 H1 M1 ds vs s1 a1 r1 l1 h1 => ⟨small1k (by rw [← r1.length, l1]; exact hz), fun p hp => lst_new a1 r1 (k.mono s1) h1 hp⟩⟩
theorem pd_lstM (h : PDA X es t) (hz : es.length ≤ 1000 := by decide) : PDE X (.List es pos) (dLstM t) :=
  pe_imp (pe_lst h) fun σ H Q ⟨R, F, env, M, Qd, a, e, h, k⟩ => ⟨R, F, env, M, _, a, e, h, fun F1 H1 M1 ds vs s1 a1 r1 l1 h1 => ⟨small1k (by rw [← r1.length, l1]; exact hz), fun p hp => lst_born a1 r1 (k.mono s1) h1 hp⟩⟩
end
end L3
set_option Elab.async false
set_option linter.all false
set_option maxRecDepth 100000
set_option maxHeartbeats 1000000
namespace L3
open PySem PySem.Spec PyProof.Rows L2
section
variable {X : Cx} {st : Stmt} {rest : List Stmt} {t u : DS} {e : Expr} {te : DE} {pos : Pos}
def dNext : DS := fun D env M => D.nx env M
def dSeq (t u : DS) : DS := fun D env M => t { D with nx := fun e m => u D e m } env M
theorem pdss_nil : PDSs X [] dNext := pss_imp pss_nil fun D σ H ⟨R, F, env, M, Dd, a, e, h, k⟩ => k.nx F H M env σ (Same.refl F) a e h
theorem pdss_cons (h1 : PDS X st t) (h2 : PDSs X rest u) : PDSs X (st :: rest) (dSeq t u) :=
  pss_imp (pss_cons h1 h2) fun D σ H ⟨R, F, env, M, Dd, a, e, h, k⟩ => ⟨R, F, env, M, _, a, e, h, ⟨fun F1 H1 M1 env1 σ1 s1 a1 e1 q1 => ⟨R, F1, env1, M1, Dd, a1, e1, q1, k.mono s1⟩, k.rt, k.bk, k.ct⟩⟩
theorem pdss_one (h1 : PDS X st t) : PDSs X [st] t := pss_one h1
def dDrop (te : DE) : DS := fun D env M => te env M fun _ M1 => D.nx env M1
theorem pds_expr (he : PDE X e te) (hs : swapsWith e none pos.line X.env = pure false := by rfl) : PDS X (.Expr e pos) (dDrop te) :=
  ps_imp (ps_expr he hs) fun D σ H ⟨R, F, env, M, Dd, a, e, h, k⟩ => ⟨R, F, env, M, _, a, e, h, fun F1 H1 M1 d v s1 a1 r1 q1 => k.nx F1 H1 M1 env σ s1 a1 (e.mono s1) q1⟩
def dRet (te : DE) : DS := fun D env M => te env M D.rt
theorem pds_ret (he : PDE X e te) : PDS X (.Return (some e) pos) (dRet te) :=
  ps_imp (ps_ret he) fun D σ H ⟨R, F, env, M, Dd, a, e, h, k⟩ => ⟨R, F, env, M, _, a, e, h, k.rt⟩
def dIfS (c : DT) (t u : DS) : DS := fun D env M => c env M fun b M1 => brn b (t D env M1) (u D env M1)
theorem pds_if {c : Expr} {a b : List Stmt} {tc : DT} (hc : PDT X c tc) (ha : PDSs X a t) (hb : PDSs X b u) : PDS X (.If c a b pos) (dIfS tc t u) :=
  ps_imp (ps_if hc ha hb) fun D σ H ⟨R, F, env, M, Dd, a, e, h, k⟩ => ⟨R, F, env, M, _, a, e, h, fun F1 H1 M1 b s1 a1 q1 => by
    cases b with
    | true => rw [brn_t] at q1; rw [if_pos rfl]; exact ⟨R, F1, env, M1, Dd, a1, e.mono s1, q1, k.mono s1⟩
    | false => rw [brn_f] at q1; rw [if_neg Bool.false_ne_true]; exact ⟨R, F1, env, M1, Dd, a1, e.mono s1, q1, k.mono s1⟩⟩
def dNever : DS := fun _ _ _ => False
theorem pds_never : PDS X st dNever := ps_imp ps_never fun D σ H ⟨R, F, env, M, Dd, a, e, h, k⟩ => h
inductive Tg where
  | name (i : Nat)
  | tup (ts : List Tg)
mutual
def Tg.bind : Tg → D → DEnv → (DEnv → Prop) → Prop
  | .name i, d, env, k => k (env.set i (some d))
  | .tup ts, d, env, k => match d with
    | .tup ds => Tg.binds ts ds env k
    | _ => False
def Tg.binds : List Tg → List D → DEnv → (DEnv → Prop) → Prop
  | [], [], env, k => k env
  | t :: ts, d :: ds, env, k => Tg.bind t d env fun env1 => Tg.binds ts ds env1 k
  | _, _, _, _ => False
end
mutual
def Tg.slots : Tg → List Nat
  | .name i => [i]
  | .tup ts => Tg.slotsL ts
def Tg.slotsL : List Tg → List Nat
  | [] => []
  | t :: ts => Tg.slots t ++ Tg.slotsL ts
end
mutual
def tgOf (K : PySem.W.Frag) : Tg → TG
  | .name i => gName i
  | .tup ts => gTup K ts.length (tgsOf K ts)
def tgsOf (K : PySem.W.Frag) : List Tg → TGs
  | [] => gNil
  | t :: ts => gCons (tgOf K t) (tgsOf K ts)
end
abbrev PDG (X : Cx) (tg : Expr) (t : Tg) : Prop := PG X tg (tgOf X.K t)
abbrev PDGs (X : Cx) (tgs : List Expr) (ts : List Tg) : Prop := PGs X tgs (tgsOf X.K ts)
theorem wipe_get (σ : L2.St) (j : Nat) : ∀ vs : List Nat, (wipe σ vs)[j]? = if j ∈ vs then (σ[j]?).map (fun _ => none) else σ[j]?
  | [] => by simp [wipe]
  | v :: vs => by
    show ((wipe σ vs).set v none)[j]? = _
    by_cases hv : v = j
    · subst hv
      rw [List.getElem?_set, if_pos rfl, if_pos List.mem_cons_self, wipe_length]
      by_cases hl : v < σ.length
      · rw [if_pos hl, List.getElem?_eq_getElem hl]; rfl
      · rw [if_neg hl, List.getElem?_eq_none (Nat.le_of_not_lt hl)]; rfl
    · rw [List.getElem?_set_ne hv, wipe_get σ j vs]
      by_cases hm : j ∈ vs
      · rw [if_pos hm, if_pos (List.mem_cons_of_mem _ hm)]
      · rw [if_neg hm, if_neg (by simp [hm, Ne.symm hv])]
theorem wipe_ext {σ σ' : L2.St} {vs : List Nat} (hl : σ.length = σ'.length) (h : ∀ j, j ∉ vs → σ[j]? = σ'[j]?) : wipe σ vs = wipe σ' vs := by
  apply List.ext_getElem?
  intro j
  rw [wipe_get, wipe_get]
  by_cases hm : j ∈ vs
  · rw [if_pos hm, if_pos hm]
    by_cases hj : j < σ.length
    · rw [List.getElem?_eq_getElem hj, List.getElem?_eq_getElem (hl ▸ hj)]; rfl
    · rw [List.getElem?_eq_none (Nat.le_of_not_lt hj), List.getElem?_eq_none (by omega)]
  · rw [if_neg hm, if_neg hm]; exact h j hm
theorem wipe_out {σ σ' : L2.St} {vs : List Nat} (h : wipe σ vs = wipe σ' vs) : σ.length = σ'.length ∧ ∀ j, j ∉ vs → σ[j]? = σ'[j]? := by
  refine ⟨by rw [← wipe_length σ vs, h, wipe_length], fun j hj => ?_⟩
  have := congrArg (fun l => l[j]?) h
  simp only [wipe_get, if_neg hj] at this
  exact this
theorem wipe_sub {σ σ' : L2.St} {vs ws : List Nat} (hs : ∀ v ∈ vs, v ∈ ws) (h : wipe σ vs = wipe σ' vs) : wipe σ ws = wipe σ' ws := by
  obtain ⟨hl, hg⟩ := wipe_out h
  exact wipe_ext hl fun j hj => hg j fun hm => hj (hs j hm)
theorem wipe_set (σ : L2.St) (i : Nat) (x : Option V) (vs : List Nat) (h : i ∈ vs) : wipe (σ.set i x) vs = wipe σ vs :=
  wipe_ext (by simp) fun j hj => List.getElem?_set_ne (fun e => hj (by rw [← e]; exact h))
theorem wipe_wipe (σ : L2.St) (vs : List Nat) : wipe (wipe σ vs) vs = wipe σ vs :=
  wipe_ext (wipe_length _ _) fun j hj => by rw [wipe_get, if_neg hj]
theorem Tg.binds_len : ∀ (ts : List Tg) (ds : List D) (env : DEnv) (k : DEnv → Prop), Tg.binds ts ds env k → ds.length = ts.length := by
  intro ts
  refine Tg.rec_1 (motive_1 := fun t => ∀ (d : D) (env : DEnv) (k : DEnv → Prop), t.bind d env k → ∃ env1, k env1) (motive_2 := fun ts => ∀ (ds : List D) (env : DEnv) (k : DEnv → Prop), Tg.binds ts ds env k → ds.length = ts.length ∧ ∃ env1, k env1) ?_ ?_ ?_ ?_ ts |> fun h ds env k q => (h ds env k q).1
  · intro i d env k h; exact ⟨_, h⟩
  · intro ts ih d env k h
    cases d with
    | tup ds => exact (ih ds env k h).2
    | _ => exact h.elim
  · intro ds env k h
    cases ds with
    | nil => exact ⟨rfl, _, h⟩
    | cons d ds => exact h.elim
  · intro t ts i1 i2 ds env k h
    cases ds with
    | nil => exact h.elim
    | cons d ds =>
      obtain ⟨env1, h1⟩ := i1 d env _ h
      obtain ⟨e, q⟩ := i2 ds env1 k h1
      exact ⟨by simp [e], q⟩
/-- the rule of a target serves its data -/
theorem tg_serves {K : PySem.W.Frag} {R F : Hp} {M : Mp} {H : Hp} (a : At K R F M H) : ∀ (t : Tg) (σ : L2.St) (env : DEnv) (d : D) (v : V) (Qd : DEnv → Prop) (Q : L2.St → Hp → Prop), EnvR K F σ env → Rep K F d v → t.bind d env Qd →
    (∀ σ' env', EnvR K F σ' env' → wipe σ' t.slots = wipe σ t.slots → Qd env' → Q σ' H) → tgOf K t v σ H Q := by
  intro t
  refine Tg.rec (motive_1 := fun t => ∀ (σ : L2.St) (env : DEnv) (d : D) (v : V) (Qd : DEnv → Prop) (Q : L2.St → Hp → Prop), EnvR K F σ env → Rep K F d v → t.bind d env Qd →
    (∀ σ' env', EnvR K F σ' env' → wipe σ' t.slots = wipe σ t.slots → Qd env' → Q σ' H) → tgOf K t v σ H Q)
    (motive_2 := fun ts => ∀ (σ : L2.St) (env : DEnv) (ds : List D) (vs : List V) (Qd : DEnv → Prop) (Q : L2.St → Hp → Prop), EnvR K F σ env → Reps K F ds vs → Tg.binds ts ds env Qd →
    (∀ σ' env', EnvR K F σ' env' → wipe σ' (Tg.slotsL ts) = wipe σ (Tg.slotsL ts) → Qd env' → Q σ' H) → tgsOf K ts vs σ H Q) ?_ ?_ ?_ ?_ t
  · intro i σ env d v Qd Q e r h k
    exact k _ _ (e.set i r) (wipe_set _ _ _ _ (by simp [Tg.slots])) h
  · intro ts ih σ env d v Qd Q e r h k
    cases d with
    | tup ds =>
      obtain ⟨p, xs, rfl, q, r⟩ := r
      have e1 := Tg.binds_len ts ds env Qd h
      have e2 := r.length
      exact ⟨p, xs, rfl, Same.seqT a.fz q, by omega, ih σ env ds xs Qd Q e r h k⟩
    | _ => exact h.elim
  · intro σ env ds vs Qd Q e r h k
    cases ds with
    | nil => exact ⟨r, k σ env e rfl h⟩
    | cons d ds => exact h.elim
  · intro tg tgs i1 i2 σ env ds vs Qd Q e r h k
    cases ds with
    | nil => exact h.elim
    | cons d ds =>
      obtain ⟨x, xr, rfl, r1, r2⟩ := r
      refine ⟨x, xr, rfl, i1 σ env d x _ _ e r1 h fun σ1 env1 e1 w1 q1 => ?_⟩
      refine i2 σ1 env1 ds xr Qd Q e1 r2 q1 fun σ2 env2 e2 w2 q2 => k σ2 env2 e2 ?_ q2
      have z1 : ∀ v ∈ tg.slots, v ∈ Tg.slotsL (tg :: tgs) := fun v hv => List.mem_append_left _ hv
      have z2 : ∀ v ∈ Tg.slotsL tgs, v ∈ Tg.slotsL (tg :: tgs) := fun v hv => List.mem_append_right _ hv
      exact (wipe_sub z2 w2).trans (wipe_sub z1 w1)
theorem pdg_name {i : Nat} {x : Str} (hN : X.N.Nodup) (hi : X.N[i]? = some x := by rfl) (hx : Loc X.env.scope x := by first | exact Or.inl rfl | exact Or.inr rfl) (hf : X.fn x = true ∨ X.env.scope.names.lookup x = some .local := by first | exact .inl rfl | exact .inr rfl | assumption) : PDG X (.Name x pos) (.name i) :=
  pg_name hN hi hx hf
theorem pdgs_nil : PDGs X [] [] := pgs_nil
theorem pdgs_cons {g : Expr} {gs : List Expr} {tg : Tg} {tgs : List Tg} (h1 : PDG X g tg) (h2 : PDGs X gs tgs)
    (hs : (assignEach (g :: gs) X.env).map (·.2) = assign g X.env :: (assignEach gs X.env).map (·.2) := by rfl) : PDGs X (g :: gs) (tg :: tgs) := pgs_cons h1 h2 hs
theorem pdg_tup {es : List Expr} {k : Nat} {ts : List Tg} (h : PDGs X es ts) (hc : X.calm = true := by rfl)
    (hn : (assignEach es X.env).length = ts.length := by rfl) (hst : (assignEach es X.env).findIdx? (·.1) = none := by rfl) : PDG X (.Tuple es k pos) (.tup ts) := pg_tup hc h hn hst
def dAsg (te : DE) (t : Tg) : DS := fun D env M => te env M fun d M1 => t.bind d env fun env1 => D.nx env1 M1
theorem pds_asg {tg : Expr} {t : Tg} (he : PDE X e te) (hg : PDG X tg t) (hs : swapsWithSole [tg] e pos.line X.env = pure false := by rfl) (hw : swappedStores [tg] e X.env = pure none := by rfl)
    (h1 : (assignEach [tg] X.env).map (·.2) = [assign tg X.env] := by rfl) : PDS X (.Assign [tg] e pos) (dAsg te t) := by
  exact ps_imp (ps_asg he hg hs hw h1) fun D σ H ⟨R, F, env, M, Dd, a, e, h, k⟩ => ⟨R, F, env, M, _, a, e, h, fun F1 H1 M1 d v s1 a1 r1 q1 =>
    tg_serves a1 t σ env d v _ _ (e.mono s1) r1 q1 fun σ' env' e' _ q' => k.nx F1 H1 M1 env' σ' s1 a1 e' q'⟩
def dSet (i : Nat) (te : DE) : DS := fun D env M => te env M fun d M1 => D.nx (env.set i (some d)) M1
theorem pds_set {i : Nat} {x : Str} {pos' : Pos} (hN : X.N.Nodup) (he : PDE X e te) (hi : X.N[i]? = some x := by rfl) (hx : Loc X.env.scope x := by first | exact Or.inl rfl | exact Or.inr rfl) (hs : swapsWith e (some (.Name x pos')) pos.line X.env = pure false := by rfl) (hf : X.fn x = true ∨ X.env.scope.names.lookup x = some .local := by first | exact .inl rfl | exact .inr rfl | assumption) :
    PDS X (.Assign [.Name x pos'] e pos) (dSet i te) :=
  ps_imp (ps_set hN hi hx he hs hf) fun D σ H ⟨R, F, env, M, Dd, a, e, h, k⟩ => ⟨R, F, env, M, _, a, e, h, fun F1 H1 M1 d v s1 a1 r1 q1 => k.nx F1 H1 M1 _ _ s1 a1 ((e.mono s1).set i r1) q1⟩
/-- a, b = x, y with plain local names -/
def dPar (i j : Nat) (ta : DA) : DS := fun D env M => ta env M fun ds M1 => match ds with
  | [d, g] => D.nx ((env.set i (some d)).set j (some g)) M1
  | _ => False
theorem pds_par {i j : Nat} {x y : Str} {a b : Expr} {ta : DA} {px py pt : Pos} {kt k2 pt2} (hN : X.N.Nodup) (ha : PDA X [a, b] ta) (hc : X.calm = true := by rfl) (hi : X.N[i]? = some x := by rfl) (hj : X.N[j]? = some y := by rfl) (hij : i ≠ j := by decide)
    (hx : X.env.scope.names.lookup x = some .local := by rfl) (hy : X.env.scope.names.lookup y = some .local := by rfl)
    (hw : swappedStores [.Tuple [.Name x px, .Name y py] kt pt] (.Tuple [a, b] k2 pt2) X.env = pure (some [x, y]) := by rfl)
    (hs : swapsWithSole [.Tuple [.Name x px, .Name y py] kt pt] (.Tuple [a, b] k2 pt2) pos.line X.env = pure false := by rfl) :
    PDS X (.Assign [.Tuple [.Name x px, .Name y py] kt pt] (.Tuple [a, b] k2 pt2) pos) (dPar i j ta) :=
  ps_imp (ps_par hc hN hi hj hij hx hy ha hw hs) fun D σ H ⟨R, F, env, M, Dd, a, e, h, k⟩ => ⟨R, F, env, M, _, a, e, h, fun F1 H1 M1 ds vs s1 a1 r1 l1 q1 => by
    match ds, r1, q1 with
    | [d, g], ⟨x, r, e1, h1, y, r', e2, h2, e3⟩, q1 =>
      subst e1 e2 e3
      exact ⟨x, y, rfl, k.nx F1 H1 M1 _ _ s1 a1 (((e.mono s1).set i h1).set j h2) q1⟩⟩
/-- an own list or dict held by a name is frozen: a step of ours, not of the program -/
def dFrz (te : DE) : DE := fun env M Q => te env M fun d M1 => match d with
  | .ref q => match M1 q with
    | some (.lst ds) => Q (.lst ds) (mdel M1 q)
    | some (.dct ks ds) => Q (.dct ks ds) (mdel M1 q)
    | some (.ins c ds) => Q (.obj c ds) (mdel M1 q)
    | some (.dkd w ks ds) => Q (.dkd w ks ds) (mdel M1 q)
    | _ => False
  | _ => False
theorem pe_lock {X : Cx} {e : Expr} {t : TE} (h : PE X e t) : PE X e (fun σ H Q => t σ H fun v H1 => Q v H1 ∨ ∃ d u, v = .ref d ∧ H1 d = some u ∧ Mut (some u) ∧ ∀ o, Q v (upd H1 d (.frz o u))) := ⟨fun pins s σ H Q I q =>
  thn (h.run pins s σ H _ I q) fun u s1 ⟨v, H1, I1, r, q1⟩ => by
    rcases q1 with q1 | ⟨d, kvs, e, hd, mu, q1⟩
    · exact ⟨v, H1, I1, r, q1⟩
    · obtain ⟨od, I2⟩ := I1.lock hd mu
      exact ⟨v, _, I2, r, q1 od⟩⟩
theorem pd_frz (he : PDE X e te) : PDE X e (dFrz te) := pe_imp (pe_lock he) fun σ H Q ⟨R, F, env, M, Qd, a, e, h, k⟩ => ⟨R, F, env, M, _, a, e, h, fun F1 H1 M1 d v s1 a1 r1 q1 => by
  split at q1
  · rename_i q
    split at q1
    · rename_i ds hm
      obtain ⟨u, ru, a2, s2⟩ := a1.freeze hm
      obtain ⟨xs, rfl, rx⟩ := ru
      exact .inl (k _ H1 _ (.lst ds) v (s1.trans s2) a2 ⟨q, xs, r1, upd_same, rx.mono s2⟩ q1)
    · rename_i ks ds hm
      obtain ⟨_, u, hu, xs, rfl, l, rx⟩ := a1.mu _ _ hm
      refine .inr ⟨q, _, r1, hu, trivial, fun o => ?_⟩
      obtain ⟨a2, s2⟩ := a1.freezeAs hm (.frz o (.dK (ks.zip xs)))
      exact k _ _ _ (.dct ks ds) v (s1.trans s2) a2 ⟨q, o, xs, r1, upd_same, l, rx.mono s2⟩ q1
    · rename_i c ds hm
      obtain ⟨u, ru, a2, s2⟩ := a1.freeze hm
      obtain ⟨dx, xs, rfl, l, rx⟩ := ru
      exact .inl (k _ H1 _ (.obj c ds) v (s1.trans s2) a2 ⟨q, dx, xs, r1, upd_same, l, rx.mono s2⟩ q1)
    · rename_i w ks ds hm
      obtain ⟨_, u, hu, Ls, rfl, l, rk, rx⟩ := a1.mu _ _ hm
      refine .inr ⟨q, _, r1, hu, trivial, fun o => ?_⟩
      obtain ⟨a2, s2⟩ := a1.freezeAs hm (.frz o (DkO w q Ls))
      exact k _ _ _ (.dkd w ks ds) v (s1.trans s2) a2 ⟨q, o, Ls, r1, upd_same, l, rk.mono s2, rx.mono s2⟩ q1
    · exact q1.elim
  · exact q1.elim⟩
/-- the walk J gives the items one by one -/
structure Gives (K : PySem.W.Frag) (J : It) (F : Hp) (items : List D) : Prop where
  small : items.length ≤ sizeLine
  stop : ∀ R F' M H, Same F F' → At K R F' M H → J.stop items.length H
  go : ∀ i d R F' M H, Same F F' → At K R F' M H → items[i]? = some d → J.go i H ∧ ∀ x H', J.yld i H x H' → ∃ F2, Same F' F2 ∧ At K R F2 M H' ∧ Rep K F2 d x
abbrev DI := DEnv → Mp → (List D → Mp → Prop) → Prop
def upI (K : PySem.W.Frag) (w : DI) : TI := fun σ H Z => ∃ R F env M Qd, At K R F M H ∧ EnvR K F σ env ∧ w env M Qd ∧ ∀ F' H' M' items J, Same F F' → At K R F' M' H' → Gives K J F' items → Qd items M' → Z J H'
abbrev PDI (X : Cx) (tg iter : Expr) (w : DI) : Prop := PI X tg iter (upI X.K w)
theorem pi_imp {tg iter : Expr} {w w' : TI} (h : PI X tg iter w) (i : ∀ σ H R, w' σ H R → w σ H R) : PI X tg iter w' := ⟨fun pins s σ H R I q => h.run pins s σ H R I (i _ _ _ q)⟩
/-- for, turn by turn -/
def dForL0 (t : Tg) (tb : DS) : List D → DS
  | [] => fun D env M => D.nx env M
  | x :: r => fun D env M => t.bind x env fun env1 => tb { D with nx := fun e m => dForL0 t tb r D e m, ct := fun e m => dForL0 t tb r D e m, bk := D.nx } env1 M
/-- .. not unfolded by itself -/
@[irreducible] def dForL (t : Tg) (tb : DS) (xs : List D) : DS := dForL0 t tb xs
theorem dForL_eq {t : Tg} {tb : DS} {xs : List D} : dForL t tb xs = dForL0 t tb xs := by unfold dForL; rfl
def dFor (w : DI) (t : Tg) (tb : DS) : DS := fun D env M => w env M fun items M1 => dForL t tb items D env M1
theorem pds_for {tg iter : Expr} {body : List Stmt} {w : DI} {t : Tg} {tb : DS} (hp : PassesOwn (model X.prog X.w) X.A X.env X.xe) (hi : PDI X tg iter w) (hg : PDG X tg t) (hb : PDSs X body tb) (hc : X.calm = true := by rfl)
    (hs : ∀ x, foldedSetIterable iter X.env x = pure x := by intro _; rfl) : PDS X (.For tg iter body [] pos) (dFor w t tb) := by
  refine ps_imp (ps_for hp hc hi hg hb hs) fun D σ H ⟨R, F, env, M, Dd, a, e, h, k⟩ => ⟨R, F, env, M, _, a, e, h, fun F1 H1 M1 items J s1 a1 gv q1 => ?_⟩
  rw [dForL_eq] at q1
  refine ⟨fun i m σ H => ∃ F2 env2 M2, Same F1 F2 ∧ At X.K R F2 M2 H ∧ EnvR X.K F2 σ env2 ∧ dForL0 t tb (items.drop i) Dd env2 M2 ∧ m = items.length - i ∧ i ≤ items.length, ⟨items.length, F1, env, M1, Same.refl _, a1, e.mono s1, q1, by simp, Nat.zero_le _⟩, ?_⟩
  rintro i m σ2 H2 ⟨F2, env2, M2, s2, a2, e2, q2, rfl, hi⟩
  by_cases hlt : i < items.length
  · rw [List.drop_eq_getElem_cons hlt] at q2
    obtain ⟨hgo, hy⟩ := gv.go i items[i] R F2 M2 H2 s2 a2 (List.getElem?_eq_getElem hlt)
    refine .inr ⟨hgo, fun σ' H' => ∃ F3 env3 M3, Same F1 F3 ∧ At X.K R F3 M3 H' ∧ EnvR X.K F3 σ' env3 ∧ dForL0 t tb (items.drop (i + 1)) Dd env3 M3, fun σ' H' ⟨F3, env3, M3, s3, a3, e3, q3⟩ => ⟨items.length - (i + 1), by omega, F3, env3, M3, s3, a3, e3, q3, rfl, hlt⟩, fun x H' y => ?_⟩
    obtain ⟨F3, s3, a3, r3⟩ := hy x H' y
    refine tg_serves a3 t σ2 env2 items[i] x _ _ (e2.mono s3) r3 q2 fun σ' env' e' _ q' => ?_
    have k3 := k.mono (s1.trans (s2.trans s3))
    exact ⟨R, F3, env', M2, _, a3, e', q', ⟨fun F4 H4 M4 env4 σ4 s4 a4 e4 q4 => ⟨F4, env4, M4, s2.trans (s3.trans s4), a4, e4, q4⟩, k3.rt, k3.nx, fun F4 H4 M4 env4 σ4 s4 a4 e4 q4 => ⟨F4, env4, M4, s2.trans (s3.trans s4), a4, e4, q4⟩⟩⟩
  · have e : i = items.length := by omega
    subst e
    rw [List.drop_length] at q2
    exact .inl ⟨gv.stop R F2 M2 H2 s2 a2, k.nx F2 H2 M2 env2 σ2 (s1.trans s2) a2 e2 q2⟩
abbrev PDTs (X : Cx) (ifs : List Expr) (t : DT) : Prop := PTs X ifs (upT X.K t)
def dYes : DT := fun _ M Q => Q true M
theorem pts_imp {ifs : List Expr} {t t' : TT} (h : PTs X ifs t) (i : ∀ σ H Q, t' σ H Q → t σ H Q) : PTs X ifs t' := ⟨fun pins s σ H Q I q => h.run pins s σ H Q I (i _ _ _ q)⟩
theorem pdts_nil : PDTs X [] dYes := pts_imp pts_nil fun σ H Q ⟨R, F, env, M, Qd, a, e, h, k⟩ => k F H M true (Same.refl F) a h
theorem pdts_one {c : Expr} {t : DT} (h : PDT X c t) : PDTs X [c] t := pts_one h
def dLcL0 (t : Tg) (tt : DT) (te : DE) (env : DEnv) : List D → List D → Mp → (List D → Mp → Prop) → Prop
  | [], acc, M, Q => Q acc M
  | x :: r, acc, M, Q => t.bind x env fun env1 => tt env1 M fun b M1 => brn b (te env1 M1 fun y M2 => dLcL0 t tt te env r (acc ++ [y]) M2 Q) (dLcL0 t tt te env r acc M1 Q)
@[irreducible] def dLcL (t : Tg) (tt : DT) (te : DE) (env : DEnv) (xs acc : List D) (M : Mp) (Q : List D → Mp → Prop) : Prop := dLcL0 t tt te env xs acc M Q
theorem dLcL_eq {t : Tg} {tt : DT} {te : DE} {env : DEnv} {xs acc : List D} {M : Mp} {Q : List D → Mp → Prop} : dLcL t tt te env xs acc M Q = dLcL0 t tt te env xs acc M Q := by unfold dLcL; rfl
def dLc (w : DI) (t : Tg) (tt : DT) (te : DE) (vs : List Nat) : DE := fun env M Q => w env M fun items M1 => dLcL t tt te (wipeD env vs) items [] M1 fun ds M2 => Q (.lst ds) M2
/-- the same, the new list one that may change -/
def dLcM (w : DI) (t : Tg) (tt : DT) (te : DE) (vs : List Nat) : DE := fun env M Q => w env M fun items M1 => dLcL t tt te (wipeD env vs) items [] M1 fun ds M2 => ∀ p, M2 p = none → Q (.ref p) (mupd M2 p (.lst ds))
theorem lc_served {K : PySem.W.Frag} {w : DI} {t : Tg} {tt : DT} {te : DE} {vs : List Nat} (hv : ∀ v ∈ t.slots, v ∈ vs) {σ : L2.St} {H : Hp} {Q : VK} {R F : Hp} {env : DEnv} {M : Mp} {Qd : List D → Mp → Prop}
    (a : At K R F M H) (e : EnvR K F σ env) (h : w env M fun items M1 => dLcL t tt te (wipeD env vs) items [] M1 Qd)
    (k : ∀ F' H' M' ds D xs, Same F F' → At K (upd R D (.lst xs)) F' M' H' → R D = none → Reps K F' ds xs → Qd ds M' → Q (.ref D) H') :
    tLc (upI K w) (tgOf K t) (upT K tt) (up K te) vs σ H Q := by
  refine ⟨R, F, env, M, _, a, e, h, fun F1 H1 M1 items J s1 a1 gv q1 => ?_⟩
  rw [dLcL_eq] at q1
  intro D hD
  have hRD := a1.freeR hD
  refine ⟨fun i m H => ∃ F2 M2 ds xs, Same F1 F2 ∧ At K (upd R D (.lst xs)) F2 M2 H ∧ Reps K F2 ds xs ∧ dLcL0 t tt te (wipeD env vs) (items.drop i) ds M2 Qd ∧ m = items.length - i ∧ i ≤ items.length ∧ ds.length ≤ i,
    ⟨items.length, F1, M1, [], [], Same.refl _, a1.lend hD _, rfl, q1, by simp, Nat.zero_le _, Nat.le_refl _⟩, ?_⟩
  rintro i m H2 ⟨F2, M2, ds, xs, s2, a2, rx, q2, rfl, hi, hl⟩
  by_cases hlt : i < items.length
  · rw [List.drop_eq_getElem_cons hlt] at q2
    obtain ⟨hgo, hy⟩ := gv.go i items[i] _ F2 _ _ s2 a2 (List.getElem?_eq_getElem hlt)
    refine .inr ⟨hgo, fun H' => ∃ F3 M3 ds3 xs3, Same F1 F3 ∧ At K (upd R D (.lst xs3)) F3 M3 H' ∧ Reps K F3 ds3 xs3 ∧ dLcL0 t tt te (wipeD env vs) (items.drop (i + 1)) ds3 M3 Qd ∧ ds3.length ≤ i + 1,
      fun H' ⟨F3, M3, ds3, xs3, s3, a3, r3, q3, l3⟩ => ⟨items.length - (i + 1), by omega, F3, M3, ds3, xs3, s3, a3, r3, q3, rfl, hlt, l3⟩, fun x H' y => ?_⟩
    obtain ⟨F3, s3, a3, r3⟩ := hy x H' y
    refine tg_serves a3 t (wipe σ vs) (wipeD env vs) items[i] x _ _ ((e.wipe vs).mono ((s1.trans s2).trans s3)) r3 q2 fun σ' env' e' w' q' => ?_
    refine ⟨(wipe_sub hv w').trans (wipe_wipe σ vs), _, F3, env', M2, _, a3, e', q', fun F4 H4 M4 b s4 a4 q4 => ?_⟩
    show if b = true then _ else _
    cases b with
    | true =>
      rw [brn_t] at q4; rw [if_pos rfl]
      refine ⟨_, F4, env', M4, _, a4, e'.mono s4, q4, fun F5 H5 M5 d v s5 a5 r5 q5 => ?_⟩
      have z := a5.fr D _ upd_same
      refine ⟨xs, z.2.2, ?_, F5, M5, ds ++ [d], xs ++ [v], ((s2.trans s3).trans s4).trans s5, by have := a5.relend (u' := .lst (xs ++ [v])); exact this, ((rx.mono s3).mono s4 |>.mono s5).append (Reps.one r5), q5, by simp; omega⟩
      have := rx.length
      have := gv.small
      omega
    | false =>
      rw [brn_f] at q4; rw [if_neg Bool.false_ne_true]
      exact ⟨F4, M4, ds, xs, (s2.trans s3).trans s4, a4, (rx.mono s3).mono s4, q4, by omega⟩
  · have e : i = items.length := by omega
    subst e
    rw [List.drop_length] at q2
    exact .inl ⟨gv.stop _ F2 M2 _ s2 a2, k F2 _ M2 ds D xs (s1.trans s2) a2 hRD rx q2⟩
section
variable {X : Cx} {pos : Pos} {elt tg iter : Expr} {ifs : List Expr} {scope : Scope} {own : List (Str × Nat)} {w : DI} {t : Tg} {tt : DT} {te : DE}
theorem lc_lst {K : PySem.W.Frag} {w : DI} {t : Tg} {tt : DT} {te : DE} {vs : List Nat} (hv : ∀ v ∈ t.slots, v ∈ vs) : ∀ σ H Q, up K (dLc w t tt te vs) σ H Q → tLc (upI K w) (tgOf K t) (upT K tt) (up K te) vs σ H Q :=
  fun σ H Q ⟨R, F, env, M, Qd, a, e, h, k⟩ => lc_served hv a e h fun F' H' M' ds D xs s a' hR r q => by
    obtain ⟨a2, s2⟩ := a'.takeF hR
    exact k _ H' M' (.lst ds) _ (s.trans s2) a2 ⟨D, xs, rfl, upd_same, r.mono s2⟩ q
theorem lc_lstM {K : PySem.W.Frag} {w : DI} {t : Tg} {tt : DT} {te : DE} {vs : List Nat} (hv : ∀ v ∈ t.slots, v ∈ vs) : ∀ σ H Q, up K (dLcM w t tt te vs) σ H Q → tLc (upI K w) (tgOf K t) (upT K tt) (up K te) vs σ H Q :=
  fun σ H Q ⟨R, F, env, M, Qd, a, e, h, k⟩ => lc_served hv a e h fun F' H' M' ds D xs s a' hR r q =>
    k F' H' _ (.ref D) _ s (a'.takeM hR (o := .lst ds) ⟨xs, rfl, r⟩) rfl (q D (a'.fr D _ upd_same).2.1)
/-- the context of a comprehension's block -/
abbrev BlkAll (X : Cx) (scope : Scope) (φ : Cx → Prop) : Prop := ∀ (s : Shared) (H : Hp) (C : Addr) (cl : List (Str × Addr)) (fp : List Addr), φ (X.blk s H scope (compEnvC scope cl C X.env) fp)
theorem pd_lc (hN : X.N.Nodup) (hi : PDI X tg iter w) (ok : BlkOk X.N X.env.scope scope own)
    (hg : BlkAll X scope fun Y => PDG Y tg t) (ht : BlkAll X scope fun Y => PDTs Y ifs tt) (he : BlkAll X scope fun Y => PDE Y elt te) (hv : ∀ v ∈ t.slots, v ∈ own.map (·.2) := by decide)
    (hc : X.calm = true := by rfl) (hs : ∀ x, foldedSetIterable iter X.env x = pure x := by intro _; rfl) :
    PDE X (.ListComp elt [⟨tg, iter, ifs, 0⟩] scope pos) (dLc w t tt te (own.map (·.2))) :=
  pe_imp (pe_lc hc hN hi ok hg ht he hs) (lc_lst hv)
theorem pd_lcM (hN : X.N.Nodup) (hi : PDI X tg iter w) (ok : BlkOk X.N X.env.scope scope own)
    (hg : BlkAll X scope fun Y => PDG Y tg t) (ht : BlkAll X scope fun Y => PDTs Y ifs tt) (he : BlkAll X scope fun Y => PDE Y elt te) (hv : ∀ v ∈ t.slots, v ∈ own.map (·.2) := by decide)
    (hc : X.calm = true := by rfl) (hs : ∀ x, foldedSetIterable iter X.env x = pure x := by intro _; rfl) :
    PDE X (.ListComp elt [⟨tg, iter, ifs, 0⟩] scope pos) (dLcM w t tt te (own.map (·.2))) :=
  pe_imp (pe_lc hc hN hi ok hg ht he hs) (lc_lstM hv)
/-- name = [..] on one line, the name a local -/
theorem pds_setLc {i : Nat} {y : Str} {py spos : Pos} (hN : X.N.Nodup) (hsw : swapsWith (.ListComp elt [⟨tg, iter, ifs, 0⟩] scope pos) (some (.Name y py)) spos.line X.env = pure true) (hi : PDI X tg iter w) (ok : BlkOk X.N X.env.scope scope own)
    (hg : BlkAll X scope fun Y => PDG Y tg t) (ht : BlkAll X scope fun Y => PDTs Y ifs tt) (he : BlkAll X scope fun Y => PDE Y elt te) (hv : ∀ v ∈ t.slots, v ∈ own.map (·.2) := by decide)
    (hy : X.N[i]? = some y := by rfl) (hyl : X.env.scope.names.lookup y = some .local := by rfl)
    (hc : X.calm = true := by rfl) (hs : ∀ x, foldedSetIterable iter X.env x = pure x := by intro _; rfl) :
    PDS X (.Assign [.Name y py] (.ListComp elt [⟨tg, iter, ifs, 0⟩] scope pos) spos) (dSet i (dLc w t tt te (own.map (·.2)))) :=
  ps_imp (ps_setLc hc hN hy hyl hsw hi ok hg ht he hs) fun D σ H ⟨R, F, env, M, Dd, a, e, h, k⟩ => lc_lst hv _ _ _ ⟨R, F, env, M, _, a, e, h, fun F1 H1 M1 d v s1 a1 r1 q1 => k.nx F1 H1 M1 _ _ s1 a1 ((e.mono s1).set i r1) q1⟩
theorem pds_setLcM {i : Nat} {y : Str} {py spos : Pos} (hN : X.N.Nodup) (hsw : swapsWith (.ListComp elt [⟨tg, iter, ifs, 0⟩] scope pos) (some (.Name y py)) spos.line X.env = pure true) (hi : PDI X tg iter w) (ok : BlkOk X.N X.env.scope scope own)
    (hg : BlkAll X scope fun Y => PDG Y tg t) (ht : BlkAll X scope fun Y => PDTs Y ifs tt) (he : BlkAll X scope fun Y => PDE Y elt te) (hv : ∀ v ∈ t.slots, v ∈ own.map (·.2) := by decide)
    (hy : X.N[i]? = some y := by rfl) (hyl : X.env.scope.names.lookup y = some .local := by rfl)
    (hc : X.calm = true := by rfl) (hs : ∀ x, foldedSetIterable iter X.env x = pure x := by intro _; rfl) :
    PDS X (.Assign [.Name y py] (.ListComp elt [⟨tg, iter, ifs, 0⟩] scope pos) spos) (dSet i (dLcM w t tt te (own.map (·.2)))) :=
  ps_imp (ps_setLc hc hN hy hyl hsw hi ok hg ht he hs) fun D σ H ⟨R, F, env, M, Dd, a, e, h, k⟩ => lc_lstM hv _ _ _ ⟨R, F, env, M, _, a, e, h, fun F1 H1 M1 d v s1 a1 r1 q1 => k.nx F1 H1 M1 _ _ s1 a1 ((e.mono s1).set i r1) q1⟩
end
end
end L3
set_option Elab.async false
set_option linter.all false
set_option maxRecDepth 100000
set_option maxHeartbeats 1000000
namespace L3
open PySem PySem.Spec PyProof.Rows L2
/-- what is wanted of an exception: its class, the fields of its own dict, the store -/
abbrev DX := Str → List Str → List D → Mp → Prop
abbrev SpD := List D → Mp → DK → DX → Prop
def KX (K : PySem.W.Frag) (R F : Hp) (Ed : DX) (E : XK) : Prop := ∀ F' H' M' nm dd ns ds xs, Same F F' → At K R F' M' H' → F' dd = some (.xd (ns.zip xs)) → ns.length = ds.length → Reps K F' ds xs → Ed nm ns ds M' → E (.ref (He.ga K nm)) (some dd) H'
theorem KX.mono {K : PySem.W.Frag} {R F F1 : Hp} {Ed : DX} {E : XK} (k : KX K R F Ed E) (s : Same F F1) : KX K R F1 Ed E := fun F' H' M' nm dd ns ds xs s' => k F' H' M' nm dd ns ds xs (s.trans s')
def upSp (K : PySem.W.Frag) (n : Nat) (sp : SpD) : Sp := fun vs H Q E => ∃ R F M ds Qd Ed, At K R F M H ∧ Reps K F ds vs ∧ ds.length = n ∧ sp ds M Qd Ed ∧ KD K R F Qd Q ∧ KX K R F Ed E
abbrev X0 : DX := fun _ _ _ _ => False
theorem kx0 {K : PySem.W.Frag} {R F : Hp} {E : XK} : KX K R F X0 E := fun _ _ _ _ _ _ _ _ _ _ _ _ _ h => h.elim
/-- what raises nothing is passed on -/
theorem passE0 {X : Cx} : Passes (L2N.CX X.prog X.w) X E0 := fun _ _ _ _ _ _ _ ⟨_, _, _, _, _, _, _, _, _, _, _, _, h⟩ => h.elim
def startD (N : List Str) (ds : List D) : DEnv := ds.map some ++ List.replicate (N.length - ds.length) none
theorem start_env {K : PySem.W.Frag} {F : Hp} {N : List Str} {ds : List D} {vs : List V} (r : Reps K F ds vs) : EnvR K F (L2.start N vs) (startD N ds) := by
  have hl := r.length
  refine ⟨by unfold L2.start startD; simp [hl], fun i d h => ?_⟩
  unfold startD at h
  by_cases hi : i < ds.length
  · rw [List.getElem?_append_left (by simpa using hi), List.getElem?_map] at h
    cases e : ds[i]? with
    | none => rw [e] at h; cases h
    | some g =>
      rw [e] at h; cases h
      obtain ⟨v, h1, h2⟩ := r.get e
      refine ⟨v, ?_, h2⟩
      unfold L2.start
      rw [List.getElem?_append_left (by simpa [← hl] using hi), List.getElem?_map, h1]; rfl
  · rw [List.getElem?_append_right (by simpa using hi), List.getElem?_replicate] at h
    split at h <;> cases h
/-- a def as it stands behind the top -/
structure DefAt (K : PySem.W.Frag) (mg : Str → Option Value) (x : Str) (st : Stmt) : Prop where
  ex : ∃ f fd, FunD K x x (defArgs st) (defBody st) (defScope st) [] [] f fd ∧ mg x = some (.ref f)
/-- .. and keeps a promise -/
structure DefOk (P : Program) (w : World) (K : PySem.W.Frag) (mg : Str → Option Value) (base : Heap) (k : Nat) (x : Str) (n : Nat) (sp : SpD) : Prop where
  ex : ∃ f fd ps, FnOk P w K mg base (L2N.CX P w) k f fd ps (upSp K n sp) ∧ ps.length = n ∧ mg x = some (.ref f) ∧ PySem.W.keepIn K (.ref f) = true ∧ Binds K fd ps []
theorem DefOk.mono {P : Program} {w : World} {K : PySem.W.Frag} {mg : Str → Option Value} {base : Heap} {j k : Nat} {x : Str} {n : Nat} {sp : SpD} (d : DefOk P w K mg base j x n sp) (h : j ≤ k) : DefOk P w K mg base k x n sp := by
  obtain ⟨f, fd, ps, a, b⟩ := d.ex
  exact ⟨f, fd, ps, a.mono h, b⟩
theorem DefOk.imp {P : Program} {w : World} {K : PySem.W.Frag} {mg : Str → Option Value} {base : Heap} {k : Nat} {x : Str} {n : Nat} {sp sp' : SpD} (d : DefOk P w K mg base k x n sp) (h : ∀ ds M Q E, sp' ds M Q E → sp ds M Q E) : DefOk P w K mg base k x n sp' := by
  obtain ⟨f, fd, ps, a, b⟩ := d.ex
  exact ⟨f, fd, ps, a.imp fun vs H Q E ⟨R, F, M, ds, Qd, Ed, h1, h2, h3, h4, h5⟩ => ⟨R, F, M, ds, Qd, Ed, h1, h2, h3, h _ _ _ _ h4, h5⟩, b⟩
/-- the context of a def's body that lets nothing out -/
abbrev bodyCx (P : Program) (w : World) (K : PySem.W.Frag) (mg : Str → Option Value) (base : Heap) (N : List Str) (x : Str) (st : Stmt) (f : Addr) (cdv : Value) (A : Around) (outer : List PySem.Env) (s : Shared) (H : Hp) (E : XK) : Cx :=
  (cxOf (L2N.CX P w) P w K mg base N x (defScope st) f cdv A outer s H E).nox
theorem def_fn {P : Program} {w : World} {K : PySem.W.Frag} {mg : Str → Option Value} {base : Heap} {k : Nat} {x : Str} {st : Stmt} {f : Addr} {fd : FuncData} {N ps : List Str} {sp : SpD} {t : DS} (F : FunD K x x (defArgs st) (defBody st) (defScope st) [] [] f fd) (S : FnScope N ps (defScope st))
    (hb : ∀ f cdv A outer s H E, Room k (A.deeper (envOfC x (defScope st) s.heap.objs.size f cdv)) → PDSs (bodyCx P w K mg base N x st f cdv A outer s H E) (defBody st) t)
    (hr : ∀ ds M Q E, ds.length = ps.length → sp ds M Q E → t { nx := fun _ M' => Q .non M', rt := Q } (startD N ds) M) : FnOk P w K mg base (L2N.CX P w) (k + 1) f fd ps (upSp K ps.length sp) := by
  refine F.ok S (fun vs H Q E ⟨R, F, M, ds, Qd, Ed, _, r, hl, _⟩ => by rw [← r.length, hl]) (fun cdv A outer s H vs Q E hroom h => ?_)
  obtain ⟨R, F', M, ds, Qd, Ed, a, r, hl, hsp, kd, kx⟩ := h
  refine ⟨_, (hb f cdv A outer s H E hroom).nox, R, F', startD N ds, M, { nx := fun _ M' => Qd .non M', rt := Qd }, a, start_env r, hr ds M Qd Ed hl hsp, ⟨fun F1 H1 M1 env1 σ1 s1 a1 e1 q => kd F1 H1 M1 .non .non s1 a1 rfl q, kd, fun _ _ _ _ _ _ _ _ q => q.elim, fun _ _ _ _ _ _ _ _ q => q.elim⟩⟩
theorem def_ok {P : Program} {w : World} {K : PySem.W.Frag} {mg : Str → Option Value} {base : Heap} {k : Nat} {x : Str} {st : Stmt} {N ps : List Str} {sp : SpD} {t : DS} (d : DefAt K mg x st) (S : FnScope N ps (defScope st))
    (bind : ∀ (kV doc pm : Value) (an : Option Addr) (cdv ct : Value) (us : List Value), us.length = ps.length → bindArgs (PySem.W.fnOf x x (defArgs st) (defBody st) (defScope st) .none kV doc pm an cdv ct) ⟨us, []⟩ = pure (ps.zip us))
    (hb : ∀ f cdv A outer s H E, Room k (A.deeper (envOfC x (defScope st) s.heap.objs.size f cdv)) → PDSs (bodyCx P w K mg base N x st f cdv A outer s H E) (defBody st) t)
    (hr : ∀ ds M Q E, ds.length = ps.length → sp ds M Q E → t { nx := fun _ M' => Q .non M', rt := Q } (startD N ds) M) : DefOk P w K mg base (k + 1) x ps.length sp := by
  obtain ⟨f, fd, F, hm⟩ := d.ex
  exact ⟨f, fd, ps, def_fn F S hb hr, rfl, hm, F.kp, F.bindsN bind⟩
/-- a promise that nobody can ask for -/
theorem def_void {P : Program} {w : World} {K : PySem.W.Frag} {mg : Str → Option Value} {base : Heap} {k : Nat} {x : Str} {st : Stmt} {ps : List Str} {sp : SpD} (d : DefAt K mg x st)
    (bind : ∀ (kV doc pm : Value) (an : Option Addr) (cdv ct : Value) (us : List Value), us.length = ps.length → bindArgs (PySem.W.fnOf x x (defArgs st) (defBody st) (defScope st) .none kV doc pm an cdv ct) ⟨us, []⟩ = pure (ps.zip us))
    (z : ∀ ds M Q E, sp ds M Q E → False) : DefOk P w K mg base k x ps.length sp := by
  obtain ⟨f, fd, F, hm⟩ := d.ex
  exact ⟨f, fd, ps, ⟨fun vs H Q E ⟨R, F, M, ds, Qd, Ed, _, r, hl, _⟩ => by rw [← r.length, hl], fun A outer s H args us vs Q E _ _ _ _ ⟨R, F, M, ds, Qd, Ed, _, r, hl, h, _⟩ => (z _ _ _ _ h).elim⟩, rfl, hm, F.kp, F.bindsN bind⟩
section
variable {X : Cx} {e : Expr} {es : List Expr} {te ta tb : DE} {t : DA} {pos p : Pos} {a b : Expr}
def dCall (sp : SpD) (t : DA) : DE := fun env M Q => t env M fun ds M1 => sp ds M1 Q X0
theorem pd_call {k : Nat} {x : Str} {n : Nat} {sp : SpD} (d : DefOk X.prog X.w X.K X.mg X.base k x n sp) (hr : Room k X.A) (ha : PDA X (e :: es) t) (hn : (e :: es).length = n := by rfl) (hg : Gl X x := by rfl)
    (hdb : (x == ("__debug__" : Str)) = false := by decide) (he : starEach (e :: es) X.env = (false, eval e X.env) :: starEach es X.env := by rfl) (hpl : (backTo pos (starEach es X.env)).any (·.1) = false := by rfl) :
    PDE X (.Call (.Name x p) (e :: es) [] pos) (dCall sp t) := by
  obtain ⟨f, fd, ps, F, hl, hm, hk, hb⟩ := d.ex
  refine pe_imp (pe_call F hr hg hm hk hb .nil passE0 ha hdb he hpl) fun σ H Q ⟨R, F, env, M, Qd, a, e, h, k⟩ => ⟨R, F, env, M, _, a, e, h, fun F1 H1 M1 ds vs s1 a1 r1 l1 q1 => ?_⟩
  show upSp X.K n sp (vs ++ []) H1 Q E0
  rw [List.append_nil]
  exact ⟨R, F1, M1, ds, Qd, X0, a1, r1, by rw [l1, hn], q1, k.mono s1, kx0⟩
theorem pd_call0 {k : Nat} {x : Str} {sp : SpD} (d : DefOk X.prog X.w X.K X.mg X.base k x 0 sp) (hr : Room k X.A) (hg : Gl X x := by rfl)
    (hdb : (x == ("__debug__" : Str)) = false := by decide) : PDE X (.Call (.Name x p) [] [] pos) (dCall sp dNil) := by
  obtain ⟨f, fd, ps, F, hl, hm, hk, hb⟩ := d.ex
  refine pe_imp (pe_call0 F hr hg hm hk hb .nil passE0 hdb) fun σ H Q ⟨R, F, env, M, Qd, a, e, h, k⟩ => ?_
  exact ⟨R, F, M, [], Qd, X0, a, rfl, rfl, h, k, kx0⟩
theorem gives_list {K : PySem.W.Frag} {F : Hp} {a : Addr} {xs : List V} {ds : List D} (h : SqL K F a xs) (r : Reps K F ds xs) (hz : xs.length ≤ sizeLine) : Gives K (Itl K a) F ds := by
  refine ⟨by rw [r.length]; exact hz, fun R F' M H s a' => ⟨xs, a'.fz.seq (s.seq h), by rw [r.length]; exact Nat.le_refl _⟩, fun i d R F' M H s a' hi => ?_⟩
  obtain ⟨x, hx, rx⟩ := r.get hi
  refine ⟨⟨xs, x, a'.fz.seq (s.seq h), hx⟩, fun y H' ⟨e, q⟩ => ?_⟩
  have := q xs (a'.fz.seq (s.seq h))
  rw [hx] at this; cases this
  exact ⟨F', Same.refl _, by rw [e]; exact a', rx.mono s⟩
theorem gives_tup {K : PySem.W.Frag} {F : Hp} {a : Addr} {xs : List V} {ds : List D} (h : SqT K F a xs) (r : Reps K F ds xs) (hz : xs.length ≤ sizeLine) : Gives K (Itt K a) F ds := by
  refine ⟨by rw [r.length]; exact hz, fun R F' M H s a' => ⟨xs, Same.seqT a'.fz (Same.seqT s h), by rw [r.length]; exact Nat.le_refl _⟩, fun i d R F' M H s a' hi => ?_⟩
  obtain ⟨x, hx, rx⟩ := r.get hi
  refine ⟨⟨xs, x, Same.seqT a'.fz (Same.seqT s h), hx⟩, fun y H' ⟨e, q⟩ => ?_⟩
  have := q xs (Same.seqT a'.fz (Same.seqT s h))
  rw [hx] at this; cases this
  exact ⟨F', Same.refl _, by rw [e]; exact a', rx.mono s⟩
/-- one sign as a text -/
def sgn (c : Nat) : D := .str ⟨#[c]⟩
def signs (x : Str) : List D := x.cps.toList.map sgn
theorem sgn_ok {x : Str} (h : SOk x) {c : Nat} (hc : c ∈ x.cps.toList) : SOk ⟨#[c]⟩ :=
  ⟨by show 1 ≤ sizeLine; decide, fun d hd => by
    have e : d = c := by simpa using hd
    rw [e]; exact h.2 c hc⟩
theorem gives_str {K : PySem.W.Frag} {F : Hp} {x : Str} (h : SOk x) : Gives K (Its x) F (signs x) := by
  have hl : (signs x).length = x.cps.size := by unfold signs; simp
  refine ⟨by rw [hl]; exact h.1, fun R F' M H s a' => by show x.cps.size ≤ _; rw [hl]; exact Nat.le_refl _, fun i d R F' M H s a' hi => ?_⟩
  have hlt : i < (signs x).length := (List.getElem?_eq_some_iff.mp hi).1
  refine ⟨by show i < x.cps.size; rw [← hl]; exact hlt, fun y H' ⟨e, c, hc, ey⟩ => ⟨F', Same.refl _, by rw [e]; exact a', ?_⟩⟩
  subst ey
  have hc' : x.cps.toList[i]? = some c := by simpa using hc
  unfold signs at hi
  rw [List.getElem?_map, hc'] at hi
  cases hi
  exact ⟨rfl, sgn_ok h (List.mem_of_getElem? hc')⟩
def rng (lo : Int) (n : Nat) : List D := (List.range n).map fun (i : Nat) => D.int (lo + i)
theorem rng_length {lo : Int} {n : Nat} : (rng lo n).length = n := by simp [rng]
theorem gives_range {K : PySem.W.Frag} {F : Hp} {lo : Int} {n : Nat} (h : n ≤ sizeLine) : Gives K (Itr lo n) F (rng lo n) := by
  refine ⟨by rw [rng_length]; exact h, fun R F' M H s a' => by show n ≤ _; rw [rng_length]; exact Nat.le_refl _, fun i d R F' M H s a' hi => ?_⟩
  have hlt : i < n := by have := (List.getElem?_eq_some_iff.mp hi).1; rwa [rng_length] at this
  refine ⟨hlt, fun y H' ⟨e, ey⟩ => ⟨F', Same.refl _, by rw [e]; exact a', ?_⟩⟩
  unfold rng at hi
  rw [List.getElem?_map, List.getElem?_range hlt] at hi
  cases hi
  exact ey
/-- a frozen list -/
def iLst (te : DE) : DI := fun env M Q => te env M fun d M1 => match d with
  | .lst ds => Q ds M1
  | _ => False
def iTpl (te : DE) : DI := fun env M Q => te env M fun d M1 => match d with
  | .tup ds => Q ds M1
  | _ => False
def iTxt (te : DE) : DI := fun env M Q => te env M fun d M1 => match d with
  | .str x => Q (signs x) M1
  | _ => False
/-- the value with the heap that is held -/
theorem pe_held {t : TE} (h : PE X e t) : PE X e (fun σ H Q => t σ H fun v H1 => (∀ (pins : List (Addr × Obj)) (s : Shared) (σ : L2.St), Inv X pins σ H1 s → Q v H1)) :=
  ⟨fun pins s σ H Q I q => thn (h.run pins s σ H _ I q) fun u s1 ⟨v, H1, I1, r, q1⟩ => ⟨v, H1, I1, r, q1 pins s1 σ I1⟩⟩
theorem pa_held {ta : TA} (h : PA X es ta) : PA X es (fun σ H Q => ta σ H fun v H1 => (∀ (pins : List (Addr × Obj)) (s : Shared) (σ : L2.St), Inv X pins σ H1 s → Q v H1)) :=
  ⟨fun pos pins s σ H Q I q => thn (h.run pos pins s σ H _ I q) fun u s1 ⟨v, H1, I1, r, q1⟩ => ⟨v, H1, I1, r, q1 pins s1 σ I1⟩⟩
theorem pdi_lst {tg : Expr} (he : PDE X e te) : PDI X tg e (iLst te) := by
  refine pi_imp (pi_list (pe_held he)) fun σ H Z ⟨R, F, env, M, Qd, a, e, h, k⟩ => ⟨R, F, env, M, _, a, e, h, fun F1 H1 M1 d v s1 a1 r1 q1 pins s σ I => ?_⟩
  cases d with
  | lst ds =>
    obtain ⟨p, xs, rfl, hq', rx⟩ := r1
    have hq : SqL X.K F1 p xs := SqL.of hq'
    have hH := a1.fz.seq hq
    obtain ⟨its, rv, pl, hz⟩ := I.list hH
    exact ⟨p, rfl, ⟨xs, hH⟩, k F1 H1 M1 ds _ s1 a1 (gives_list hq rx hz) q1⟩
  | _ => exact q1.elim
theorem pdi_tup {tg : Expr} (he : PDE X e te) : PDI X tg e (iTpl te) := by
  refine pi_imp (pi_tup (pe_held he)) fun σ H Z ⟨R, F, env, M, Qd, a, e, h, k⟩ => ⟨R, F, env, M, _, a, e, h, fun F1 H1 M1 d v s1 a1 r1 q1 pins s σ I => ?_⟩
  cases d with
  | tup ds =>
    obtain ⟨p, xs, rfl, hq, rx⟩ := r1
    have hH := Same.seqT a1.fz hq
    obtain ⟨its, rv, pl, hz⟩ := I.tuple hH
    exact ⟨p, rfl, ⟨xs, hH⟩, k F1 H1 M1 ds _ s1 a1 (gives_tup hq rx hz) q1⟩
  | _ => exact q1.elim
theorem pdi_str {tg : Expr} (he : PDE X e te) : PDI X tg e (iTxt te) := by
  refine pi_imp (pi_str he) fun σ H Z ⟨R, F, env, M, Qd, a, e, h, k⟩ => ⟨R, F, env, M, _, a, e, h, fun F1 H1 M1 d v s1 a1 r1 q1 => ?_⟩
  cases d with
  | str x =>
    obtain ⟨rfl, hx⟩ := r1
    exact ⟨x, rfl, k F1 H1 M1 _ _ s1 a1 (gives_str hx) q1⟩
  | _ => exact q1.elim
def small (n : Int) : Prop := n ≤ 16777216
def iRange1 (t : DA) : DI := fun env M Q => t env M fun ds M1 => match ds with
  | [.int n] => (-16777216 ≤ n ∧ n ≤ 16777216) ∧ Q (rng 0 n.toNat) M1
  | _ => False
theorem pdi_range1 {tg : Expr} (hm : X.mg "range" = none) (ha : PDA X [a] t) (hg : Gl X "range" := by rfl) (hs : starEach [a] X.env = [(false, eval a X.env)] := by rfl) : PDI X tg (.Call (.Name "range" p) [a] [] pos) (iRange1 t) := by
  refine pi_imp (pi_range1 hg hm ha hs) fun σ H Z ⟨R, F, env, M, Qd, a, e, h, k⟩ => ⟨R, F, env, M, _, a, e, h, fun F1 H1 M1 ds vs s1 a1 r1 l1 q1 => ?_⟩
  split at q1
  · rename_i n
    obtain ⟨x, r, rfl, rx, rfl⟩ := r1
    obtain ⟨⟨b1, b2⟩, q1⟩ := q1
    exact ⟨n, by rw [show x = V.int n from rx], by omega, by omega, k F1 H1 M1 _ _ s1 a1 (gives_range (by rw [sizeLine_eq]; omega)) q1⟩
  · exact q1.elim
/-- a new tuple of each turn -/
theorem new_pair {K : PySem.W.Frag} {R F : Hp} {M : Mp} {H : Hp} {T : Addr} {d g : D} {x y : V} (a : At K R F M H) (hT : H T = none) (r1 : Rep K F d x) (r2 : Rep K F g y) : ∃ F2, Same F F2 ∧ At K R F2 M (upd H T (.tup [x, y])) ∧ Rep K F2 (.tup [d, g]) (.ref T) := by
  obtain ⟨a1, s1⟩ := a.laid hT (.tup [x, y])
  exact ⟨_, s1, a1, T, [x, y], rfl, SqT.of upd_same, x, [y], rfl, r1.mono s1, y, [], rfl, r2.mono s1, rfl⟩
/-- zip of two frozen lists, of two tuples -/
def iZipD (t : DA) : DI := fun env M Q => t env M fun ds M1 => match ds with
  | [.lst xs, .lst ys] => Q (List.zipWith (fun x y => .tup [x, y]) xs ys) M1
  | [.tup xs, .tup ys] => Q (List.zipWith (fun x y => .tup [x, y]) xs ys) M1
  | _ => False
theorem zip_at {xs ys : List D} {i : Nat} {d : D} (h : (List.zipWith (fun x y => D.tup [x, y]) xs ys)[i]? = some d) : ∃ x y, xs[i]? = some x ∧ ys[i]? = some y ∧ d = .tup [x, y] := by
  rw [List.getElem?_zipWith] at h
  cases hx : xs[i]? with
  | none => rw [hx] at h; cases h
  | some x =>
    cases hy : ys[i]? with
    | none => rw [hx, hy] at h; cases h
    | some y => rw [hx, hy] at h; cases h; exact ⟨x, y, rfl, rfl, rfl⟩
theorem pdi_zip {e2 : Expr} {elts : List Expr} {kk : Nat} {tpos : Pos} (hm : X.mg "zip" = none) (ha : PDA X [e, e2] t) (hg : Gl X "zip" := by rfl)
    (hs : starEach [e, e2] X.env = (false, eval e X.env) :: starEach [e2] X.env := by rfl) (hpl : (backTo pos (starEach [e2] X.env)).any (·.1) = false := by rfl) : PDI X (.Tuple elts kk tpos) (.Call (.Name "zip" p) [e, e2] [] pos) (iZipD t) := by
  refine pi_imp (RZ.pi_zipA hg hm (pa_held ha) hs hpl) fun σ H Z ⟨R, F, env, M, Qd, a, e, h, k⟩ => ⟨R, F, env, M, _, a, e, h, fun F1 H1 M1 ds vs s1 a1 r1 l1 q1 pins s σ I => ?_⟩
  split at q1
  · rename_i xs ys
    obtain ⟨_, _, rfl, ⟨p, vx, rfl, hx', rx⟩, _, _, rfl, ⟨p2, vy, rfl, hy', ry⟩, rfl⟩ := r1
    have hx : SqL X.K F1 p vx := SqL.of hx'
    have hy : SqL X.K F1 p2 vy := SqL.of hy'
    obtain ⟨_, _, _, hz⟩ := I.list (a1.fz.seq hx)
    have lx := rx.length
    have ly := ry.length
    refine ⟨p, p2, vx, vy, rfl, .inl ⟨a1.fz.seq hx, a1.fz.seq hy, k F1 H1 M1 _ _ s1 a1 ⟨by rw [List.length_zipWith]; omega, fun R F' M H s a' => ⟨vx, vy, a'.fz.seq (s.seq hx), a'.fz.seq (s.seq hy), by rw [List.length_zipWith]; omega⟩, fun i d R F' M H s a' hi => ?_⟩ q1⟩⟩
    obtain ⟨x, y, h1, h2, rfl⟩ := zip_at hi
    obtain ⟨u, hu, ru⟩ := rx.get h1
    obtain ⟨v, hv, rv⟩ := ry.get h2
    refine ⟨⟨vx, vy, u, v, a'.fz.seq (s.seq hx), a'.fz.seq (s.seq hy), hu, hv⟩, fun v' H' ⟨T, x', y', ev, hT, eH, z1, z2⟩ => ?_⟩
    have e1 := z1 vx (a'.fz.seq (s.seq hx)); rw [hu] at e1; cases e1
    have e2 := z2 vy (a'.fz.seq (s.seq hy)); rw [hv] at e2; cases e2
    subst ev eH
    exact new_pair a' hT (ru.mono s) (rv.mono s)
  · rename_i xs ys
    obtain ⟨_, _, rfl, ⟨p, vx, rfl, hx, rx⟩, _, _, rfl, ⟨p2, vy, rfl, hy, ry⟩, rfl⟩ := r1
    obtain ⟨_, _, _, hz⟩ := I.tuple (Same.seqT a1.fz hx)
    have lx := rx.length
    have ly := ry.length
    refine ⟨p, p2, vx, vy, rfl, .inr ⟨Same.seqT a1.fz hx, Same.seqT a1.fz hy, k F1 H1 M1 _ _ s1 a1 ⟨by rw [List.length_zipWith]; omega, fun R F' M H s a' => ⟨vx, vy, Same.seqT a'.fz (Same.seqT s hx), Same.seqT a'.fz (Same.seqT s hy), by rw [List.length_zipWith]; omega⟩, fun i d R F' M H s a' hi => ?_⟩ q1⟩⟩
    obtain ⟨x, y, h1, h2, rfl⟩ := zip_at hi
    obtain ⟨u, hu, ru⟩ := rx.get h1
    obtain ⟨v, hv, rv⟩ := ry.get h2
    refine ⟨⟨vx, vy, u, v, Same.seqT a'.fz (Same.seqT s hx), Same.seqT a'.fz (Same.seqT s hy), hu, hv⟩, fun v' H' ⟨T, x', y', ev, hT, eH, z1, z2⟩ => ?_⟩
    have e1 := z1 vx (Same.seqT a'.fz (Same.seqT s hx)); rw [hu] at e1; cases e1
    have e2 := z2 vy (Same.seqT a'.fz (Same.seqT s hy)); rw [hv] at e2; cases e2
    subst ev eH
    exact new_pair a' hT (ru.mono s) (rv.mono s)
  · exact q1.elim
def r2I (C : Int → Int → Prop) (g : Int → Int → D) : R2D := fun d e M Q => match d, e with
  | .int i, .int j => C i j ∧ Q (g i j) M
  | _, _ => False
def r2J (g : Int → Int → D) : R2D := fun d e M Q => match d, e with
  | .int i, .int j => Q (g i j) M
  | _, _ => False
abbrev rSubI : R2D := r2J fun i j => .int (i - j)
abbrev rMulI : R2D := r2I CMul fun i j => .int (i * j)
abbrev rModI : R2D := r2I (fun _ j => 0 < j) fun i j => .int (i % j)
abbrev rPowI : R2D := r2I CPow fun i j => .int (i ^ j.toNat)
abbrev rLtI : R2D := r2J fun i j => .bl (decide (i < j))
abbrev rLeI : R2D := r2J fun i j => .bl (decide (i ≤ j))
abbrev rGtI : R2D := r2J fun i j => .bl (decide (j < i))
abbrev rGeI : R2D := r2J fun i j => .bl (decide (j ≤ i))
theorem opd_int {f : Value → Value → Sem Value} {C : Int → Int → Prop} {g : Int → Int → V} {gd : Int → Int → D} (h : OpR X f (rI C g)) (hg : ∀ K F i j, Rep K F (gd i j) (g i j)) : OpD X f (r2I C gd) :=
  ⟨_, h, fun R F M H d e x y Qd Q a r1 r2 q k => by
    unfold r2I at q
    split at q
    · rename_i i j
      exact ⟨i, j, r1, r2, q.1, k F H M _ _ (Same.refl _) a (hg _ _ _ _) q.2⟩
    · exact q.elim⟩
theorem opd_int0 {f : Value → Value → Sem Value} {g : Int → Int → V} {gd : Int → Int → D} (h : OpR X f (rI0 g)) (hg : ∀ K F i j, Rep K F (gd i j) (g i j)) : OpD X f (r2J gd) :=
  ⟨_, h, fun R F M H d e x y Qd Q a r1 r2 q k => by
    unfold r2J at q
    split at q
    · rename_i i j
      exact ⟨i, j, r1, r2, k F H M _ _ (Same.refl _) a (hg _ _ _ _) q⟩
    · exact q.elim⟩
theorem opd_subI : OpD X (binaryOp .Sub) rSubI := opd_int0 op_sub fun _ _ _ _ => rfl
theorem opd_mulI : OpD X (binaryOp .Mult) rMulI := opd_int op_mul fun _ _ _ _ => rfl
theorem opd_mod : OpD X (binaryOp .Mod) rModI := opd_int op_mod fun _ _ _ _ => rfl
theorem opd_pow : OpD X (binaryOp .Pow) rPowI := opd_int op_pow fun _ _ _ _ => rfl
theorem opd_lt : OpD X (compareOp .Lt) rLtI := opd_int0 op_lt fun _ _ _ _ => rfl
theorem opd_le : OpD X (compareOp .LtE) rLeI := opd_int0 op_le fun _ _ _ _ => rfl
theorem opd_gt : OpD X (compareOp .Gt) rGtI := opd_int0 op_gt fun _ _ _ _ => rfl
theorem opd_ge : OpD X (compareOp .GtE) rGeI := opd_int0 op_ge fun _ _ _ _ => rfl
end
end L3
set_option Elab.async false
set_option linter.all false
set_option maxRecDepth 100000
set_option maxHeartbeats 1000000
namespace L3
open PySem PySem.Spec PyProof.Rows L2
mutual
def D.py : D → PyData
  | .non => .none
  | .bl b => .bool b
  | .int i => .int i
  | .str x => .str x
  | .tup ds => .tuple (D.pys ds)
  | .lst ds => .list (D.pys ds)
  | _ => .none
def D.pys : List D → List PyData
  | [] => []
  | d :: ds => D.py d :: D.pys ds
end
mutual
/-- no references within, at most n deep -/
def D.le : Nat → D → Bool
  | _, .non => true
  | _, .bl _ => true
  | _, .int _ => true
  | _, .str _ => true
  | n + 1, .tup ds => D.les n ds
  | n + 1, .lst ds => D.les n ds
  | _, _ => false
def D.les : Nat → List D → Bool
  | _, [] => true
  | n, d :: ds => D.le n d && D.les n ds
end
def eqD (d e : D) : Bool := PyData.eqv d.py e.py
section
variable {K : PySem.W.Frag} {F : Hp}
mutual
theorem py_dp : ∀ {n : Nat} {d : D} {v : V}, Rep K F d v → D.le n d = true → Dp K F v d.py ∧ d.py.canLay0 = true ∧ d.py.depth ≤ n + 1
  | n, .non, _, r, _ => by cases r; exact ⟨.non, rfl, by simp [D.py, PyData.depth]⟩
  | n, .bl b, _, r, _ => by cases r; exact ⟨.bl b, rfl, by simp [D.py, PyData.depth]⟩
  | n, .int i, _, r, _ => by cases r; exact ⟨.int i, rfl, by simp [D.py, PyData.depth]⟩
  | n, .str x, _, ⟨r, z⟩, _ => by
    cases r
    refine ⟨.str x, ?_, by simp [D.py, PyData.depth]⟩
    simp only [D.py, PyData.canLay0, PyData.strOk, Array.all_eq_true]
    intro i hi
    exact decide_eq_true (z.2 _ (by simp))
  | n + 1, .tup ds, _, ⟨a, xs, e, q, r⟩, h => by
    subst e
    obtain ⟨h1, h2, h3⟩ := pys_dp r (show D.les n ds = true by simpa [D.le] using h)
    exact ⟨.tup q h1, by simpa [D.py, PyData.canLay0] using h2, by simp only [D.py, PyData.depth]; omega⟩
  | n + 1, .lst ds, _, ⟨a, xs, e, q, r⟩, h => by
    subst e
    obtain ⟨h1, h2, h3⟩ := pys_dp r (show D.les n ds = true by simpa [D.le] using h)
    exact ⟨.lst (SqL.of q) h1, by simpa [D.py, PyData.canLay0] using h2, by simp only [D.py, PyData.depth]; omega⟩
  | 0, .tup ds, _, _, h => by simp [D.le] at h
  | 0, .lst ds, _, _, h => by simp [D.le] at h
  | _, .ref _, _, _, h => by simp [D.le] at h
  | _, .ty _, _, _, h => by simp [D.le] at h
  | _, .lsk _, _, _, h => by simp [D.le] at h
  | _, .dct _ _, _, _, h => by simp [D.le] at h
  | _, .obj _ _, _, _, h => by simp [D.le] at h
  | _, .dkd _ _ _, _, _, h => by simp [D.le] at h
  | _, .exc _ _ _ _, _, _, h => by simp [D.le] at h
  | _, .fn _ _ _, _, _, h => by simp [D.le] at h
theorem pys_dp : ∀ {n : Nat} {ds : List D} {vs : List V}, Reps K F ds vs → D.les n ds = true → DpAll K F vs (D.pys ds) ∧ PyData.canLayAll0 (D.pys ds) = true ∧ PyData.depthAll (D.pys ds) ≤ n + 1
  | n, [], _, r, _ => by cases r; exact ⟨.nil, by simp [D.pys, PyData.canLayAll0], by simp [D.pys, PyData.depthAll]⟩
  | n, d :: ds, _, ⟨x, r, e, r1, r2⟩, h => by
    subst e
    have h' : D.le n d = true ∧ D.les n ds = true := by simpa [D.les] using h
    obtain ⟨a1, a2, a3⟩ := py_dp r1 h'.1
    obtain ⟨b1, b2, b3⟩ := pys_dp r2 h'.2
    exact ⟨.cons a1 b1, by simp [D.pys, PyData.canLayAll0, a2, b2], by simp only [D.pys, PyData.depthAll]; omega⟩
end
theorem py_shaped {d : D} {v : V} (r : Rep K F d v) (h : D.le 60 d = true) : Dp K F v d.py ∧ SeqAt.shaped d.py = true := by
  obtain ⟨h1, h2, h3⟩ := py_dp r h
  exact ⟨h1, by unfold SeqAt.shaped; rw [h2, decide_eq_true (by omega)]; rfl⟩
end
theorem dp_mono {K : PySem.W.Frag} {F H : Hp} (s : Same F H) {v : V} {d : PyData} (h : Dp K F v d) : Dp K H v d := by
  refine Dp.rec (motive_1 := fun v d _ => Dp K H v d) (motive_2 := fun vs ds _ => DpAll K H vs ds) ?_ ?_ ?_ ?_ ?_ ?_ ?_ ?_ h
  · exact .non
  · exact .bl
  · exact .int
  · exact .str
  · intro a xs ds q _ ih; exact .lst (s.seq q) ih
  · intro a xs ds q _ ih; exact .tup (Same.seqT s q) ih
  · exact .nil
  · intro v vs d ds _ _ i1 i2; exact .cons i1 i2
/-- an own list that is held by a reference, as it stands -/
def resD (M : Mp) (d : D) : D := match d with
  | .ref q => match M q with
    | some (.lst ds) => .lst ds
    | _ => d
  | _ => d
/-- .. and where it stands in the heap -/
theorem res_rep {K : PySem.W.Frag} {R F : Hp} {M : Mp} {H : Hp} {d : D} {v : V} (a : At K R F M H) (r : Rep K F d v) : Rep K H (resD M d) v := by
  unfold resD
  split
  · rename_i q
    split
    · rename_i ds hm
      obtain ⟨_, u, hu, xs, rfl, rx⟩ := a.mu _ _ hm
      exact ⟨q, xs, r, hu, rx.mono a.fz⟩
    · exact r
  · exact r.mono a.fz
/-- a dict as it stands -/
def resK (M : Mp) (d : D) : Option (List L2.Key × List D) := match d with
  | .dct ks ds => some (ks, ds)
  | .ref q => match M q with
    | some (.dct ks ds) => some (ks, ds)
    | _ => none
  | _ => none
theorem resK_at {K : PySem.W.Frag} {R F : Hp} {M : Mp} {H : Hp} {d : D} {v : V} {ks : List L2.Key} {ds : List D} (a : At K R F M H) (r : Rep K F d v) (h : resK M d = some (ks, ds)) :
    ∃ p xs, v = .ref p ∧ Rd H p (.dK (ks.zip xs)) ∧ KsOk ks ds ∧ Reps K F ds xs := by
  unfold resK at h
  split at h
  · cases h
    obtain ⟨p, o, xs, rfl, hq, l, rx⟩ := r
    exact ⟨p, xs, rfl, .inr ⟨o, a.fz _ _ hq⟩, l, rx⟩
  · split at h
    · rename_i hm
      cases h
      obtain ⟨_, u, hu, xs, rfl, l, rx⟩ := a.mu _ _ hm
      exact ⟨_, xs, r, .inl hu, l, rx⟩
    · cases h
  · cases h
theorem resK_get {K : PySem.W.Frag} {R F : Hp} {M : Mp} {H : Hp} {d e : D} {x y : V} {ks : List L2.Key} {ds : List D} {k : L2.Key} (a : At K R F M H) (r : Rep K F d x) (r2 : Rep K F e y) (h : resK M d = some (ks, ds)) (hk : keyD e = some k) :
    ∃ p o, x = .ref p ∧ DGet H p y o ∧ (∀ g, findK ks ds k = some g → ∃ v, o = some v ∧ Rep K F g v) ∧ (findK ks ds k = none → o = none) := by
  obtain ⟨p, xs, rfl, hr, l, rx⟩ := resK_at a r h
  obtain ⟨h1, h2⟩ := findK_some (j := k) l.1 rx
  exact ⟨p, _, rfl, .inl ⟨_, k, hr, keyD_ok r2 hk, rfl⟩, h1, h2⟩
def rEqDD (g : Bool → Bool) : R2D := fun d e M Q => (D.le 60 (resD M d) = true ∧ D.le 60 (resD M e) = true) ∧ Q (.bl (g (eqD (resD M d) (resD M e)))) M
section
variable {X : Cx}
theorem opd_eq {k : Nat} (hr : Room k X.A) : OpD X (compareOp .Eq) (rEqDD id) := ⟨_, op_eqD hr.units, fun R F M H d e x y Qd Q a r1 r2 ⟨⟨l1, l2⟩, q⟩ kd => by
  obtain ⟨d1, s1⟩ := py_shaped (res_rep a r1) l1
  obtain ⟨d2, s2⟩ := py_shaped (res_rep a r2) l2
  exact ⟨_, _, d1, d2, s1, s2, kd F H M (.bl _) _ (Same.refl _) a rfl q⟩⟩
theorem opd_ne {k : Nat} (hr : Room k X.A) : OpD X (compareOp .NotEq) (rEqDD not) := ⟨_, op_neD hr.units, fun R F M H d e x y Qd Q a r1 r2 ⟨⟨l1, l2⟩, q⟩ kd => by
  obtain ⟨d1, s1⟩ := py_shaped (res_rep a r1) l1
  obtain ⟨d2, s2⟩ := py_shaped (res_rep a r2) l2
  exact ⟨_, _, d1, d2, s1, s2, kd F H M (.bl _) _ (Same.refl _) a rfl q⟩⟩
/-- is None, is not None -/
def isNonD : D → Bool
  | .non => true
  | _ => false
theorem isNonD_ok {K : PySem.W.Frag} {F : Hp} {d : D} {v : V} (r : Rep K F d v) : decide (v = .non) = isNonD d := by
  cases d with
  | non => cases r; rfl
  | bl b => cases r; rfl
  | int b => cases r; rfl
  | str b => obtain ⟨r, _⟩ := r; cases r; rfl
  | ty b => cases r; rfl
  | ref b => cases r; rfl
  | tup ds => obtain ⟨_, _, rfl, _⟩ := r; rfl
  | lst ds => obtain ⟨_, _, rfl, _⟩ := r; rfl
  | lsk ds => obtain ⟨_, _, rfl, _⟩ := r; rfl
  | dct ks ds => obtain ⟨_, _, _, rfl, _⟩ := r; rfl
  | obj c ds => obtain ⟨_, _, _, rfl, _⟩ := r; rfl
  | dkd w ks ds => obtain ⟨_, _, _, rfl, _⟩ := r; rfl
  | exc p dd ns ds => obtain ⟨rfl, _⟩ := r; rfl
  | fn p c q => obtain ⟨rfl, _⟩ := r; rfl
def rIsD (g : Bool → Bool) : R2D := fun d e M Q => match e with
  | .non => Q (.bl (g (isNonD d))) M
  | _ => False
theorem opd_is : OpD X (compareOp .Is) (rIsD id) := ⟨_, op_isN, fun R F M H d e x y Qd Q a r1 r2 q kd => by
  cases e with
  | non => exact ⟨r2, by rw [isNonD_ok r1]; exact kd F H M (.bl _) _ (Same.refl _) a rfl q⟩
  | _ => exact q.elim⟩
/-- + of ints, texts, tuples, frozen lists -/
def rAddD : R2D := fun d e M Q => match d, e with
  | .int i, .int j => Q (.int (i + j)) M
  | .str x, .str y => x.length + y.length ≤ sizeLine ∧ Q (.str (x ++ y)) M
  | .tup xs, .tup ys => xs.length + ys.length ≤ sizeLine ∧ Q (.tup (xs ++ ys)) M
  | .lst xs, .lst ys => xs.length + ys.length ≤ sizeLine ∧ Q (.lst (xs ++ ys)) M
  | _, _ => False
theorem sok_append {x y : Str} (h : SOk x) (h' : SOk y) (hz : x.length + y.length ≤ sizeLine) : SOk (x ++ y) := by
  have e : (x ++ y).cps = x.cps ++ y.cps := rfl
  refine ⟨by show (x ++ y).cps.size ≤ _; rw [e, Array.size_append]; exact hz, fun c hc => ?_⟩
  rw [e, Array.toList_append, List.mem_append] at hc
  exact hc.elim (h.2 c) (h'.2 c)
theorem opd_add : OpD X (binaryOp .Add) rAddD := ⟨_, op_add.or (op_add_str.or (op_catA.or op_cat)), fun R F M H d e x y Qd Q a r1 r2 q kd => by
  unfold rAddD at q
  split at q
  · rename_i i j
    exact .inl ⟨i, j, r1, r2, kd F H M (.int _) _ (Same.refl _) a rfl q⟩
  · rename_i z w
    exact .inr (.inl ⟨z, w, r1.1, r2.1, q.1, kd F H M (.str _) _ (Same.refl _) a ⟨rfl, sok_append r1.2 r2.2 q.1⟩ q.2⟩)
  · rename_i xs ys
    obtain ⟨p, vx, rfl, hx, rx⟩ := r1
    obtain ⟨p2, vy, rfl, hy, ry⟩ := r2
    have lx := rx.length
    have ly := ry.length
    refine .inr (.inr (.inl ⟨p, p2, vx, vy, rfl, rfl, Same.seqT a.fz hx, Same.seqT a.fz hy, by omega, fun e => ?_, fun _ e => ?_, fun _ _ P hP => tup_new a (rx.append ry) kd q.2 hP⟩))
    · have : xs = [] := List.eq_nil_of_length_eq_zero (by rw [lx, e]; rfl)
      subst this
      exact kd F H M (.tup ys) _ (Same.refl _) a ⟨p2, vy, rfl, hy, ry⟩ q.2
    · have : ys = [] := List.eq_nil_of_length_eq_zero (by rw [ly, e]; rfl)
      subst this
      exact kd F H M (.tup xs) _ (Same.refl _) a ⟨p, vx, rfl, hx, rx⟩ (by have := q.2; rwa [List.append_nil] at this)
  · rename_i xs ys
    obtain ⟨p, vx, rfl, hx, rx⟩ := r1
    obtain ⟨p2, vy, rfl, hy, ry⟩ := r2
    have lx := rx.length
    have ly := ry.length
    exact .inr (.inr (.inr ⟨p, p2, vx, vy, rfl, rfl, a.fz _ _ hx, a.fz _ _ hy, by omega, fun P hP => lst_new a (rx.append ry) kd q.2 hP⟩))
  · exact q.elim⟩
/-- x in xs -/
def strIn (x y : Str) : Bool := !(Builtin.Str.occurrences y x 0 y.length 1).isEmpty
def rInK (g : Bool → Bool) (d e : D) (M : Mp) (Q : DK) : Prop := match resK M e with
  | some (ks, ds) => match keyD d with
    | some k => Q (.bl (g (findK ks ds k).isSome)) M
    | none => False
  | none => False
def rInDD (g : Bool → Bool) : R2D := fun d e M Q => match resD M e with
  | .str y => match d with
    | .str x => Q (.bl (g (strIn x y))) M
    | _ => False
  | .lst ys => (D.le 60 d = true ∧ D.les 58 ys = true) ∧ Q (.bl (g (ys.any fun z => eqD z d))) M
  | .tup ys => (D.le 60 d = true ∧ D.les 58 ys = true) ∧ Q (.bl (g (ys.any fun z => eqD z d))) M
  | _ => rInK g d e M Q
theorem any_py (ys : List D) (d : D) : ((D.pys ys).any fun z => PyData.eqv z d.py) = ys.any fun z => eqD z d := by
  induction ys with
  | nil => rfl
  | cons y ys ih => simp only [D.pys, List.any_cons, ih, eqD]
theorem lst_shaped {K : PySem.W.Frag} {F : Hp} {ys : List D} {v : V} (r : Rep K F (.lst ys) v) (h : D.les 58 ys = true) : Dp K F v (.list (D.pys ys)) ∧ SeqAt.shaped (.list (D.pys ys)) = true := by
  obtain ⟨h1, h2, h3⟩ := py_dp (n := 59) r (by simpa [D.le] using h)
  simp only [D.py] at h1 h2 h3
  exact ⟨h1, by unfold SeqAt.shaped; rw [h2, decide_eq_true (by omega)]; rfl⟩
theorem tup_shaped {K : PySem.W.Frag} {F : Hp} {ys : List D} {v : V} (r : Rep K F (.tup ys) v) (h : D.les 58 ys = true) : Dp K F v (.tuple (D.pys ys)) ∧ SeqAt.shaped (.tuple (D.pys ys)) = true := by
  obtain ⟨h1, h2, h3⟩ := py_dp (n := 59) r (by simpa [D.le] using h)
  simp only [D.py] at h1 h2 h3
  exact ⟨h1, by unfold SeqAt.shaped; rw [h2, decide_eq_true (by omega)]; rfl⟩
/-- y in a dict -/
def rInT (g : Bool → Bool) : R2 := fun y x H Q => ∃ a o, x = .ref a ∧ DGet H a y o ∧ Q (.bl (g o.isSome)) H
theorem op_inT (hu : X.A.units + 1 < cLine) : OpR X (compareOp .In) (rInT id) := by
  intro pins s σ H y x v u Q I ry rx ⟨a, o, e, g, q⟩
  subst e
  obtain rfl : u = Value.ref a := rx
  exact d_in hu I g ry fun s' I' => ⟨.bl o.isSome, H, I', rfl, q⟩
theorem op_notinT (hu : X.A.units + 1 < cLine) : OpR X (compareOp .NotIn) (rInT not) := by
  intro pins s σ H y x v u Q I ry rx ⟨a, o, e, g, q⟩
  subst e
  obtain rfl : u = Value.ref a := rx
  exact d_notIn hu I g ry fun s' I' => ⟨.bl (!o.isSome), H, I', rfl, q⟩
theorem in_served {K : PySem.W.Frag} (g : Bool → Bool) {rS rL : R2} (hS : ∀ i j H (Q : VK), Q (.bl (g (!(Builtin.Str.occurrences j i 0 j.length 1).isEmpty))) H → rS (.str i) (.str j) H Q)
    (hL : ∀ x y (d : PyData) (ds : List PyData) H (Q : VK), Dp K H x d → (Dp K H y (.list ds) ∧ SeqAt.shaped (.list ds) = true ∨ Dp K H y (.tuple ds) ∧ SeqAt.shaped (.tuple ds) = true) → SeqAt.shaped d = true → Q (.bl (g (ds.any fun z => PyData.eqv z d))) H → rL x y H Q) :
    Serves2 K (rInDD g) (fun x y H Q => rS x y H Q ∨ rL x y H Q ∨ rInT g x y H Q) := fun R F M H d e x y Qd Q a r1 r2 q kd => by
  have r2' := res_rep a r2
  have key : rInK g d e M Qd → rInT g x y H Q := fun q => by
    unfold rInK at q
    split at q
    · rename_i ks ds hr
      split at q
      · rename_i k hk
        obtain ⟨p, o, rfl, hg, h1, h2⟩ := resK_get a r2 r1 hr hk
        refine ⟨p, o, rfl, hg, kd F H M (.bl (g o.isSome)) _ (Same.refl _) a rfl ?_⟩
        have eo : o.isSome = (findK ks ds k).isSome := by
          cases hf : findK ks ds k with
          | none => rw [h2 hf]; rfl
          | some z => obtain ⟨v, e, _⟩ := h1 z hf; rw [e]; rfl
        rw [eo]; exact q
      · exact q.elim
    · exact q.elim
  unfold rInDD at q
  split at q
  · rename_i z hz
    rw [hz] at r2'
    split at q
    · rename_i w
      obtain ⟨e1, _⟩ := r1
      obtain ⟨e2, _⟩ := r2'
      subst e1 e2
      exact .inl (hS w z H Q (kd F H M (.bl _) _ (Same.refl _) a rfl q))
    · exact q.elim
  · rename_i ys hz
    rw [hz] at r2'
    obtain ⟨⟨l1, l2⟩, q⟩ := q
    obtain ⟨d1, s1⟩ := py_shaped (r1.mono a.fz) l1
    obtain ⟨d2, s2⟩ := lst_shaped r2' l2
    exact .inr (.inl (hL x y _ _ H Q d1 (.inl ⟨d2, s2⟩) s1 (by rw [any_py]; exact kd F H M (.bl _) _ (Same.refl _) a rfl q)))
  · rename_i ys hz
    rw [hz] at r2'
    obtain ⟨⟨l1, l2⟩, q⟩ := q
    obtain ⟨d1, s1⟩ := py_shaped (r1.mono a.fz) l1
    obtain ⟨d2, s2⟩ := tup_shaped r2' l2
    exact .inr (.inl (hL x y _ _ H Q d1 (.inr ⟨d2, s2⟩) s1 (by rw [any_py]; exact kd F H M (.bl _) _ (Same.refl _) a rfl q)))
  · exact .inr (.inr (key q))
/-- .. in a tuple -/
def rInU (K : PySem.W.Frag) (g : Bool → Bool) : R2 := fun x y H Q => ∃ d ds, Dp K H x d ∧ Dp K H y (.tuple ds) ∧ SeqAt.shaped d = true ∧ SeqAt.shaped (.tuple ds) = true ∧ Q (.bl (g (ds.any fun z => PyData.eqv z d))) H
theorem op_inU (hu : X.A.units + 65 < cLine) : OpR X (compareOp .In) (rInU X.K id) := by
  intro pins s σ H x y v u Q I rx ry ⟨d, ds, hd, he, sd, se, q⟩
  obtain ⟨as, r1⟩ := Dp.reads I d x v hd rx
  obtain ⟨bs, r2⟩ := Dp.reads I (.tuple ds) y u he ry
  exact SeqAt.in_tuple_reads r2 r1 (SeqAt.canLay_of_shaped se) (SeqAt.canLay_of_shaped sd) (room_in_shaped sd hu) ⟨.bl (ds.any fun z => PyData.eqv z d), H, I, rfl, q⟩
theorem op_notinU (hu : X.A.units + 65 < cLine) : OpR X (compareOp .NotIn) (rInU X.K not) := by
  intro pins s σ H x y v u Q I rx ry ⟨d, ds, hd, he, sd, se, q⟩
  obtain ⟨as, r1⟩ := Dp.reads I d x v hd rx
  obtain ⟨bs, r2⟩ := Dp.reads I (.tuple ds) y u he ry
  exact SeqAt.notIn_tuple_reads r2 r1 (SeqAt.canLay_of_shaped se) (SeqAt.canLay_of_shaped sd) (room_in_shaped sd hu) ⟨.bl (!(ds.any fun z => PyData.eqv z d)), H, I, rfl, q⟩
theorem opd_in {k : Nat} (hr : Room k X.A) : OpD X (compareOp .In) (rInDD id) := ⟨_, op_in_str.or (((op_inD (by have := hr.un; omega)).or (op_inU (by have := hr.un; omega))).or (op_inT (by have := hr.un; omega))),
  in_served (rL := fun x y H Q => rInD X.K x y H Q ∨ rInU X.K id x y H Q) id (fun i j H Q q => ⟨i, j, rfl, rfl, q⟩) fun x y d ds H Q d1 d2 s1 q => d2.elim (fun z => .inl ⟨d, ds, d1, z.1, s1, z.2, q⟩) fun z => .inr ⟨d, ds, d1, z.1, s1, z.2, q⟩⟩
theorem opd_notin {k : Nat} (hr : Room k X.A) : OpD X (compareOp .NotIn) (rInDD not) := ⟨_, op_notin_str.or (((op_notInD (by have := hr.un; omega)).or (op_notinU (by have := hr.un; omega))).or (op_notinT (by have := hr.un; omega))),
  in_served (rL := fun x y H Q => rNotInD X.K x y H Q ∨ rInU X.K not x y H Q) not (fun i j H Q q => ⟨i, j, rfl, rfl, q⟩) fun x y d ds H Q d1 d2 s1 q => d2.elim (fun z => .inl ⟨d, ds, d1, z.1, s1, z.2, q⟩) fun z => .inr ⟨d, ds, d1, z.1, s1, z.2, q⟩⟩
variable {a b : Expr} {e : Expr} {es : List Expr} {te ta tb : DE} {t : DA} {pos p : Pos}
def rIxK (d e : D) (M : Mp) (Q : DK) : Prop := match resK M d with
  | some (ks, ds) => match keyD e with
    | some k => match findK ks ds k with
      | some x => Q x M
      | none => False
    | none => False
  | none => False
def rIxI (e : D) (xs : List D) (M : Mp) (Q : DK) : Prop := match e with
  | .int i => match atI xs i with
    | some x => Q x M
    | none => False
  | _ => False
def rIxD : R2D := fun d e M Q => match resD M d with
  | .tup ds => rIxI e ds M Q
  | .lst ds => rIxI e ds M Q
  | .str z => match e with
    | .int i => match atI z.cps.toList i with
      | some c => Q (sgn c) M
      | none => False
    | _ => False
  | _ => rIxK d e M Q
theorem atI_reps {K : PySem.W.Frag} {F : Hp} {ds : List D} {vs : List V} {i : Int} {d : D} (r : Reps K F ds vs) (h : atI ds i = some d) : ∃ v, atI vs i = some v ∧ Rep K F d v := by
  unfold atI at h ⊢
  rw [← r.length]
  cases e : ixN ds.length i with
  | none => rw [e] at h; cases h
  | some j => rw [e] at h; exact r.get h
theorem atI_mem {α : Type} {xs : List α} {i : Int} {v : α} (h : atI xs i = some v) : v ∈ xs := by
  unfold atI at h
  cases e : ixN xs.length i with
  | none => rw [e] at h; cases h
  | some j => rw [e] at h; exact List.mem_of_getElem? h
def rIxT2 : R2 := fun x y H Q => ∃ a v, x = .ref a ∧ DGet H a y (some v) ∧ Q v H
theorem ix_dT (hu : X.A.units + 1 < cLine) : IxR X rIxT2 := by
  intro value slice pins s σ H x y v u Q I rx ry ⟨a, w, e, g, q⟩ hs
  subst e
  obtain rfl : v = Value.ref a := rx
  exact tail_any (dict_typeIs I g) PySem.F.slot_dict_getitem.lookup (d_getItem hu I g ry fun w' s' I' r => ⟨w, H, I', r, q⟩) hs
theorem ixI_el {e : D} {xs : List D} {M : Mp} {Q : DK} (h : rIxI e xs M Q) : ∃ i x, e = .int i ∧ atI xs i = some x ∧ Q x M := by
  unfold rIxI at h
  split at h
  · split at h
    · rename_i hx; exact ⟨_, _, rfl, hx, h⟩
    · exact h.elim
  · exact h.elim
theorem ix_served {K : PySem.W.Frag} : Serves2 K rIxD (fun x y H Q => rIx K x y H Q ∨ rIxT2 x y H Q) := fun R F M H d e x y Qd Q a r1 r2 q kd => by
  -- an item of a frozen sequence is data; of an own one too
  have key : ∀ i ds g, e = .int i → (resD M d = .tup ds ∨ resD M d = .lst ds) → atI ds i = some g → Qd g M → rIx K x y H Q := by
    intro i ds g he hd hg qg
    subst he
    cases (show y = V.int i from r2)
    cases d with
    | tup es =>
      have e1 : es = ds := by rcases hd with z | z <;> cases z; rfl
      subst e1
      obtain ⟨P, vs, rfl, hq, r⟩ := r1
      obtain ⟨v, hv, rv⟩ := atI_reps r hg
      exact .inr (.inl ⟨P, vs, i, v, rfl, rfl, Same.seqT a.fz hq, hv, kd F H M g v (Same.refl _) a rv qg⟩)
    | lst es =>
      have e1 : es = ds := by rcases hd with z | z <;> cases z; rfl
      subst e1
      obtain ⟨P, vs, rfl, hq, r⟩ := r1
      obtain ⟨v, hv, rv⟩ := atI_reps r hg
      exact .inl ⟨P, vs, i, v, rfl, rfl, SqL.of (a.fz _ _ hq), hv, kd F H M g v (Same.refl _) a rv qg⟩
    | ref P =>
      cases (show x = V.ref P from r1)
      simp only [resD] at hd
      split at hd
      · rename_i es hm
        have e1 : es = ds := by rcases hd with z | z <;> cases z; rfl
        subst e1
        obtain ⟨_, u, hu, vs, rfl, r⟩ := a.mu _ _ hm
        obtain ⟨v, hv, rv⟩ := atI_reps r hg
        exact .inl ⟨P, vs, i, v, rfl, rfl, SqL.of hu, hv, kd F H M g v (Same.refl _) a rv qg⟩
      · rcases hd with z | z <;> cases z
    | _ => rcases hd with z | z <;> cases z
  unfold rIxD at q
  split at q
  · rename_i ds hd
    obtain ⟨i, g, he, hg, q⟩ := ixI_el q
    exact .inl (key i ds g he (.inl hd) hg q)
  · rename_i ds hd
    obtain ⟨i, g, he, hg, q⟩ := ixI_el q
    exact .inl (key i ds g he (.inr hd) hg q)
  · rename_i z hd
    split at q
    · rename_i i
      cases (show y = V.int i from r2)
      split at q
      · rename_i c hg
        have rz := res_rep a r1
        rw [hd] at rz
        exact .inl (.inr (.inr ⟨z, i, c, rz.1, rfl, rz.2.1, hg, kd F H M (sgn c) _ (Same.refl _) a ⟨rfl, sgn_ok rz.2 (atI_mem hg)⟩ q⟩))
      · exact q.elim
    · exact q.elim
  · unfold rIxK at q
    split at q
    · rename_i ks ds hr
      split at q
      · rename_i k hk
        split at q
        · rename_i g hg
          obtain ⟨p, o, rfl, hget, h1, _⟩ := resK_get a r1 r2 hr hk
          obtain ⟨v, rfl, rv⟩ := h1 g hg
          exact .inr ⟨p, v, rfl, hget, kd F H M g v (Same.refl _) a rv q⟩
        · exact q.elim
      · exact q.elim
    · exact q.elim
theorem pd_ix {k : Nat} (hr : Room k X.A) (ha : PDE X a ta) (hb : PDE X b tb) (hs : PlainIx b := by intro _ _; rfl) : PDE X (.Subscript a b pos) (dBin rIxD ta tb) := pe_imp (pe_ix (ix_seq.or (ix_dT (by have := hr.un; omega))) ha hb hs) (up_bin ix_served)
abbrev DO := DEnv → Mp → (Option Int → Mp → Prop) → Prop
def upO (K : PySem.W.Frag) (t : DO) : TO := fun σ H Z => ∃ R F env M Qd, At K R F M H ∧ EnvR K F σ env ∧ t env M Qd ∧ ∀ F' H' M' o, Same F F' → At K R F' M' H' → Qd o M' → Z o H'
abbrev PDO (X : Cx) (e : Option Expr) (t : DO) : Prop := PO X e (upO X.K t)
def dNoPart : DO := fun _ M Q => Q none M
def dPart (te : DE) : DO := fun env M Q => te env M fun d M1 => match d with
  | .int i => Q (some i) M1
  | _ => False
theorem po_imp {o : Option Expr} {t t' : TO} (h : PO X o t) (i : ∀ σ H Q, t' σ H Q → t σ H Q) : PO X o t' := ⟨fun pins s σ H Q I q => h.run pins s σ H Q I (i _ _ _ q)⟩
theorem pdo_none : PDO X none dNoPart := po_imp po_none fun σ H Z ⟨R, F, env, M, Qd, a, e, h, k⟩ => k F H M none (Same.refl _) a h
theorem pdo_some (he : PDE X e te) : PDO X (some e) (dPart te) := po_imp (po_some he) fun σ H Z ⟨R, F, env, M, Qd, a, e, h, k⟩ => ⟨R, F, env, M, _, a, e, h, fun F1 H1 M1 d v s1 a1 r1 q1 => by
  cases d with
  | int i => exact ⟨i, r1, k F1 H1 M1 _ s1 a1 q1⟩
  | _ => exact q1.elim⟩
def cut {α : Type} (xs : List α) (lo hi : Option Int) : List α := (xs.drop (HT.sIx xs.length 0 lo)).take (HT.sIx xs.length xs.length hi - HT.sIx xs.length 0 lo)
theorem cut_reps {K : PySem.W.Frag} {F : Hp} {ds : List D} {vs : List V} (r : Reps K F ds vs) (lo hi : Option Int) : Reps K F (cut ds lo hi) (cutV vs lo hi) := by
  unfold cut cutV
  rw [← r.length]
  exact (r.drop _).take _
theorem cut_le {α : Type} (xs : List α) (lo hi : Option Int) : (cut xs lo hi).length ≤ xs.length := by
  unfold cut; rw [List.length_take, List.length_drop]; omega
theorem cut_mem {α : Type} {xs : List α} {lo hi : Option Int} {x : α} (h : x ∈ cut xs lo hi) : x ∈ xs := List.mem_of_mem_drop (List.mem_of_mem_take h)
def dSl (te : DE) (tl th : DO) : DE := fun env M Q => te env M fun d M1 => tl env M1 fun lo M2 => th env M2 fun hi M3 => match resD M3 d with
  | .tup ds => Q (.tup (cut ds lo hi)) M3
  | .lst ds => Q (.lst (cut ds lo hi)) M3
  | .lsk ds => Q (.lst (cut ds lo hi)) M3
  | .str x => Q (.str (cutS x lo hi)) M3
  | _ => False
theorem sok_cut {x : Str} (h : SOk x) (lo hi : Option Int) : SOk (cutS x lo hi) := ⟨Nat.le_trans (cutS_length x lo hi) h.1, fun c hc => h.2 c (by
  unfold cutS at hc
  exact List.mem_of_mem_drop (List.mem_of_mem_take (by simpa using hc)))⟩
theorem pd_slice {lo hi : Option Expr} {tl th : DO} {p2 : Pos} (he : PDE X e te) (hl : PDO X lo tl) (hu : PDO X hi th) : PDE X (.Subscript e (.Slice lo hi none p2) pos) (dSl te tl th) := by
  refine pe_imp (pe_slice (sl_tupA.or (sl_list.or sl_str)) he hl hu) fun σ H Q ⟨R, F, env, M, Qd, a, e, h, k⟩ => ⟨R, F, env, M, _, a, e, h, fun F1 H1 M1 d v s1 a1 r1 q1 =>
    ⟨R, F1, env, M1, _, a1, e.mono s1, q1, fun F2 H2 M2 lo s2 a2 q2 => ⟨R, F2, env, M2, _, a2, (e.mono s1).mono s2, q2, fun F3 H3 M3 hi s3 a3 q3 => ?_⟩⟩⟩
  have r3 := r1.mono (s2.trans s3)
  have k3 := k.mono ((s1.trans s2).trans s3)
  have rr := res_rep a3 r3
  split at q3
  · rename_i ds hd
    have ed : d = .tup ds := by
      cases d with
      | ref q =>
        simp only [resD] at hd
        split at hd <;> cases hd
      | _ => exact hd
    subst ed
    obtain ⟨P, xs, rfl, hq, rx⟩ := r3
    refine .inl ⟨P, xs, rfl, Same.seqT a3.fz hq, fun hw => ?_, fun _ T hT => tup_new a3 (cut_reps rx lo hi) k3 q3 hT⟩
    have ec : cut ds lo hi = ds := by
      unfold cut
      rw [rx.length, hw.1, hw.2, ← rx.length]
      simp
    rw [ec] at q3
    exact k3 F3 H3 M3 (.tup ds) _ (Same.refl _) a3 ⟨P, xs, rfl, hq, rx⟩ q3
  · rename_i ds hd
    rw [hd] at rr
    have rcut : ∃ P xs, v = .ref P ∧ H3 P = some (.lst xs) ∧ Reps X.K F3 ds xs := by
      cases d with
      | ref q =>
        simp only [resD] at hd
        split at hd
        · rename_i es hm
          cases hd
          obtain ⟨_, u, hu, xs, rfl, rx⟩ := a3.mu _ _ hm
          exact ⟨q, xs, r3, hu, rx⟩
        · cases hd
      | lst es =>
        cases hd
        obtain ⟨P, xs, rfl, hq, rx⟩ := r3
        exact ⟨P, xs, rfl, a3.fz _ _ hq, rx⟩
      | _ => cases hd
    obtain ⟨P, xs, rfl, hq, rx⟩ := rcut
    exact .inr (.inl ⟨P, xs, rfl, SqL.of hq, fun T hT => lst_new a3 (cut_reps rx lo hi) k3 q3 hT⟩)
  · rename_i ds hd
    have ed : d = .lsk ds := by
      cases d with
      | ref q =>
        simp only [resD] at hd
        split at hd <;> cases hd
      | _ => exact hd
    subst ed
    obtain ⟨P, xs, rfl, hq, rx⟩ := r3
    exact .inr (.inl ⟨P, xs, rfl, a3.fz.seq hq, fun T hT => lst_new a3 (cut_reps rx lo hi) k3 q3 hT⟩)
  · rename_i x hd
    rw [hd] at rr
    exact .inr (.inr ⟨x, rr.1, rr.2.1, k3 F3 H3 M3 (.str _) _ (Same.refl _) a3 ⟨rfl, sok_cut rr.2 lo hi⟩ q3⟩)
  · exact q3.elim
end
end L3
set_option Elab.async false
set_option linter.all false
set_option maxRecDepth 100000
set_option maxHeartbeats 1000000
namespace L3
open PySem PySem.Spec PyProof.Rows L2
section
variable {X : Cx} {a b o i : Expr} {e : Expr} {es : List Expr} {te ta tb to ti : DE} {t : DA} {pos p apos tpos : Pos}
def mLst (M : Mp) (d : D) (k : Addr → List D → Prop) : Prop := match d with
  | .ref q => match M q with
    | some (.lst ds) => k q ds
    | _ => False
  | _ => False
theorem mLst_at {K : PySem.W.Frag} {R F : Hp} {M : Mp} {H : Hp} {d : D} {v : V} {k : Addr → List D → Prop} (a : At K R F M H) (r : Rep K F d v) (h : mLst M d k) : ∃ q ds xs, v = .ref q ∧ M q = some (.lst ds) ∧ H q = some (.lst xs) ∧ Reps K F ds xs ∧ k q ds := by
  unfold mLst at h
  split at h
  · rename_i q
    split at h
    · rename_i ds hm
      obtain ⟨_, u, hu, xs, rfl, rx⟩ := a.mu _ _ hm
      exact ⟨q, ds, xs, r, hm, hu, rx, h⟩
    · exact h.elim
  · exact h.elim
/-- o[i] = e of an own list, of an own dict -/
def mIx (M : Mp) (o i v : D) (k : Mp → Prop) : Prop := match o with
  | .ref q => match M q with
    | some (.lst ds) => match i with
      | .int j => match ixN ds.length j with
        | some n => k (mupd M q (.lst (ds.set n v)))
        | none => False
      | _ => False
    | some (.dct ks ds) => match keyD i with
      | some j => ks.length < sizeLine ∧ k (mupd M q (.dct (addK ks j) (setK ks ds j v)))
      | none => False
    | _ => False
  | _ => False
def dSetIx (te to ti : DE) : DS := fun D env M => te env M fun v M1 => to env M1 fun o M2 => ti env M2 fun i M3 => mIx M3 o i v fun M4 => D.nx env M4
theorem PSet.or {t u : TSet} (h : PSet X t) (g : PSet X u) : PSet X (fun o i v H Q => t o i v H Q ∨ u o i v H Q) := by
  intro pins s σ H o i v ov iv w Q I ro ri rv q
  rcases q with q | q
  · exact h pins s σ H o i v ov iv w Q I ro ri rv q
  · exact g pins s σ H o i v ov iv w Q I ro ri rv q
def rSetT : V → V → V → Hp → (Hp → Prop) → Prop := fun o i v H Q => ∃ a H', o = .ref a ∧ DPut H a i v H' ∧ Q H'
theorem set_dT (hu : X.A.units + 1 < cLine) : PSet X rSetT := by
  intro pins s σ H o i v ov iv u Q I ro ri rv ⟨a, H', e, g, q⟩
  subst e
  obtain rfl : ov = Value.ref a := ro
  exact d_setItem hu I g ri rv fun s' I' => ⟨H', I', q⟩
theorem mIx_ok {K : PySem.W.Frag} {R F : Hp} {M : Mp} {H : Hp} {o i d : D} {x y v : V} {k : Mp → Prop} {Q : Hp → Prop} (a : At K R F M H) (ro : Rep K F o x) (ri : Rep K F i y) (rv : Rep K F d v) (h : mIx M o i d k)
    (hk : ∀ M' H', At K R F M' H' → k M' → Q H') : rSetL x y v H Q ∨ rSetT x y v H Q := by
  unfold mIx at h
  split at h
  · rename_i q
    cases (show x = V.ref q from ro)
    split at h
    · rename_i ds hm
      obtain ⟨_, u, hu, xs, rfl, rx⟩ := a.mu _ _ hm
      split at h
      · rename_i j
        split at h
        · rename_i n hn
          exact .inl ⟨q, xs, j, n, rfl, ri, hu, by rw [← rx.length]; exact hn, hk _ _ (a.wrote hm (o := .lst (ds.set n d)) ⟨_, rfl, rx.set n rv⟩) h⟩
        · exact h.elim
      · exact h.elim
    · rename_i ks ds hm
      obtain ⟨_, u, hu, xs, rfl, l, rx⟩ := a.mu _ _ hm
      split at h
      · rename_i j hj
        obtain ⟨ys, e1, e2⟩ := setK_zip (j := j) l.1 rx rv
        refine .inr ⟨q, _, rfl, .inl ⟨_, j, hu, keyD_ok ri hj, ?_, rfl⟩, hk _ _ (a.wrote hm (o := .dct (addK ks j) (setK ks ds j d)) ⟨ys, by rw [e1], l.set (keyD_sok ri hj), e2⟩) h.2⟩
        rw [List.length_zip, ← rx.length, ← l.1, Nat.min_self]
        exact h.1
      · exact h.elim
    · exact h.elim
  · exact h.elim
theorem pds_setIx {kk : Nat} (hr : Room kk X.A) (he : PDE X e te) (ho : PDE X o to) (hi : PDE X i ti)
    (ha : ∀ v, assign (.Subscript o i tpos) X.env v = (do
      let ov ← holding [v] (eval o X.env)
      let iv ← holding [v, ov] (eval i X.env)
      standAt tpos
      holding [v, ov, iv] (setItem ov iv v)
      release [v, ov, iv] []) := by intro _; rfl)
    (hs : swapsWithSole [.Subscript o i tpos] e pos.line X.env = pure false := by rfl) (hw : swappedStores [.Subscript o i tpos] e X.env = pure none := by rfl)
    (h1 : (assignEach [.Subscript o i tpos] X.env).map (·.2) = [assign (.Subscript o i tpos) X.env] := by rfl) : PDS X (.Assign [.Subscript o i tpos] e pos) (dSetIx te to ti) :=
  ps_imp (ps_asg he (pg_sub ho hi (PSet.or set_list (set_dT (by have := hr.un; omega))) ha) hs hw h1) fun D σ H ⟨R, F, env, M, Dd, a, e, h, k⟩ => ⟨R, F, env, M, _, a, e, h, fun F1 H1 M1 d v s1 a1 r1 q1 =>
    ⟨R, F1, env, M1, _, a1, e.mono s1, q1, fun F2 H2 M2 d2 v2 s2 a2 r2 q2 => ⟨R, F2, env, M2, _, a2, (e.mono s1).mono s2, q2, fun F3 H3 M3 d3 v3 s3 a3 r3 q3 =>
      mIx_ok a3 (r2.mono s3) r3 (r1.mono (s2.trans s3)) q3 fun M' H' a' q' => k.nx F3 _ _ env σ ((s1.trans s2).trans s3) a' (((e.mono s1).mono s2).mono s3) q'⟩⟩⟩
/-- methods of own lists -/
def dAppend (to te : DE) : DE := fun env M Q => to env M fun o M1 => (mLst M1 o fun _ _ => True) ∧ te env M1 fun d M2 => mLst M2 o fun q ds => ds.length < sizeLine ∧ Q .non (mupd M2 q (.lst (ds ++ [d])))
theorem mLst_ty {K : PySem.W.Frag} {R F : Hp} {M : Mp} {H : Hp} {d : D} {v : V} {k : Addr → List D → Prop} (a : At K R F M H) (r : Rep K F d v) (h : mLst M d k) : tyV K "list" v H := by
  obtain ⟨q, ds, xs, rfl, hm, hh, rx, _⟩ := mLst_at a r h
  exact .inl ⟨rfl, xs, SqL.of hh⟩
theorem pd_append (ho : PDE X o to) (he : PDE X e te) (hbase : attributeBase o "append" X.env (eval o X.env) = eval o X.env := by rfl)
    (hfew : ((backTo pos (starEach [e] X.env)).all (fun x => !x.1) && (backToKw pos (keywordEach [] X.env)).all (fun x => x.1.isSome)
      && decide ([e].length + ([] : List Keyword).length + (if ([] : List Keyword).isEmpty then 0 else 1) < 30)) = true := by rfl)
    (hline : (apos.endLine == pos.line) = true := by rfl) (hs : starEach [e] X.env = (false, eval e X.env) :: starEach [] X.env := by rfl) (hplain : (backTo pos (starEach [] X.env)).any (·.1) = false := by rfl) :
    PDE X (.Call (.Attribute o "append" apos) [e] [] pos) (dAppend to te) :=
  pe_imp (pe_bm PySem.F.plainAttrs_list PySem.F.slot_list_append PySem.F.type_list_append mt_append ho (pa_cons he pa_nil hs) hbase hfew hline hs hplain) fun σ H Q ⟨R, F, env, M, Qd, a, e, h, k⟩ =>
    ⟨R, F, env, M, _, a, e, h, fun F1 H1 M1 d v s1 a1 r1 q1 => ⟨mLst_ty a1 r1 q1.1, R, F1, env, M1, _, a1, e.mono s1, q1.2, fun F2 H2 M2 d2 v2 s2 a2 r2 q2 => by
      obtain ⟨q, ds, xs, rfl, hm, hh, rx, hz, q2⟩ := mLst_at a2 (r1.mono s2) q2
      exact ⟨q, xs, v2, rfl, rfl, hh, by rw [← rx.length]; exact hz, k F2 _ _ .non .non (s1.trans s2) (a2.wrote hm (o := .lst (ds ++ [d2])) ⟨_, rfl, rx.append (Reps.one r2)⟩) rfl q2⟩⟩⟩
abbrev R1D := D → Mp → DK → Prop
/-- a call of a built-in by its rule on data -/
def Serves1 (K : PySem.W.Frag) (r : R1D) (rV : List V → Hp → VK → Prop) : Prop := ∀ R F M H d x Qd Q, At K R F M H → Rep K F d x → r d M Qd → KD K R F Qd Q → rV [x] H Q
structure CallD (X : Cx) (f : Value) (r : R1D) : Prop where
  ex : ∃ rV, CallR X f rV ∧ Serves1 X.K r rV
theorem up_call1 {K : PySem.W.Frag} {r : R1D} {rV : List V → Hp → VK → Prop} (hs : Serves1 K r rV) : ∀ σ H Q, up K (dUn r ta) σ H Q → tCB rV (tCons (up K ta) tNil) σ H Q := fun σ H Q ⟨R, F, env, M, Qd, a, e, h, k⟩ =>
  ⟨R, F, env, M, _, a, e, h, fun F1 H1 M1 d v s1 a1 r1 h1 => hs R F1 M1 H1 d v Qd Q a1 r1 h1 (k.mono s1)⟩
theorem pd_bltn {x : Str} {f : String} {r : R1D} (hc : CallD X (.builtin f) r) (hm : X.mg x = none) (ha : PDE X a ta) (hv : bootBuiltins x = some (.builtin f) := by decide +kernel) (hg : Gl X x := by rfl) (hn : x ≠ "__name__" := by decide) (hdb : (x == ("__debug__" : Str)) = false := by decide)
    (he : starEach [a] X.env = (false, eval a X.env) :: starEach [] X.env := by rfl) (hpl : (backTo pos (starEach [] X.env)).any (·.1) = false := by rfl) : PDE X (.Call (.Name x p) [a] [] pos) (dUn r ta) := by
  obtain ⟨rV, h1, h2⟩ := hc.ex
  exact pe_imp (pe_callB h1 hg hm hv (pa_cons ha pa_nil he) hn hdb he hpl) (up_call1 h2)
theorem pd_type {x : Str} {f : String} {r : R1D} (hc : CallD X (.type f) r) (hm : X.mg x = none) (ha : PDE X a ta) (hv : bootBuiltins x = some (.type f) := by decide +kernel) (hg : Gl X x := by rfl) (hn : x ≠ "__name__" := by decide) (hdb : (x == ("__debug__" : Str)) = false := by decide)
    (he : starEach [a] X.env = (false, eval a X.env) :: starEach [] X.env := by rfl) (hpl : (backTo pos (starEach [] X.env)).any (·.1) = false := by rfl) : PDE X (.Call (.Name x p) [a] [] pos) (dUn r ta) := by
  obtain ⟨rV, h1, h2⟩ := hc.ex
  exact pe_imp (pe_callTy h1 hg hm hv (pa_cons ha pa_nil he) hn hdb he hpl) (up_call1 h2)
def rLenD : R1D := fun d M Q => match resD M d with
  | .tup ds => Q (.int ds.length) M
  | .lst ds => Q (.int ds.length) M
  | .str x => Q (.int x.length) M
  | _ => match resK M d with
    | some (ks, _) => Q (.int ks.length) M
    | none => False
/-- a sequence as it stands -/
theorem seq_at {K : PySem.W.Frag} {R F : Hp} {M : Mp} {H : Hp} {d : D} {v : V} (a : At K R F M H) (r : Rep K F d v) :
    (∀ {ds : List D}, resD M d = .lst ds → ∃ P xs, v = .ref P ∧ H P = some (.lst xs) ∧ Reps K F ds xs) ∧ (∀ {ds : List D}, resD M d = .tup ds → ∃ P xs, v = .ref P ∧ SqT K F P xs ∧ Reps K F ds xs) := by
  cases d with
  | ref q =>
    refine ⟨fun h => ?_, fun h => ?_⟩
    · simp only [resD] at h
      split at h
      · rename_i es hm
        cases h
        obtain ⟨_, u, hu, xs, rfl, rx⟩ := a.mu _ _ hm
        exact ⟨q, xs, r, hu, rx⟩
      · cases h
    · simp only [resD] at h
      split at h <;> cases h
  | lst es =>
    refine ⟨fun h => ?_, fun h => ?_⟩
    · cases h
      obtain ⟨P, xs, rfl, hq, rx⟩ := r
      exact ⟨P, xs, rfl, a.fz _ _ hq, rx⟩
    · cases h
  | tup es =>
    refine ⟨fun h => ?_, fun h => ?_⟩
    · cases h
    · cases h
      exact r
  | _ => refine ⟨fun h => ?_, fun h => ?_⟩ <;> cases h
/-- len of a dict, locked or not -/
theorem call_lenR : CallR X (.builtin "len") (fun xs H Q => ∃ a kvs, xs = [V.ref a] ∧ Rd H a (.dK kvs) ∧ Q (.int kvs.length) H) := by
  intro pins s σ H xs us Q I r ⟨a, kvs, e, ha, q⟩
  subst e
  rw [Vals.ref1 r]
  exact d_len I ha fun t s' I' => ⟨.int kvs.length, H, I', ⟨t, rfl⟩, q⟩
theorem calld_len : CallD X (.builtin "len") rLenD := ⟨_, (call_len_seq.or call_len_str).or call_lenR, fun R F M H d x Qd Q a r q kd => by
  unfold rLenD at q
  split at q
  · rename_i ds hd
    obtain ⟨P, xs, rfl, hq, rx⟩ := (seq_at a r).2 hd
    exact .inl (.inl ⟨P, xs, rfl, .inr (Same.seqT a.fz hq), kd F H M (.int _) _ (Same.refl _) a (by rw [rx.length]; rfl) q⟩)
  · rename_i ds hd
    obtain ⟨P, xs, rfl, hq, rx⟩ := (seq_at a r).1 hd
    exact .inl (.inl ⟨P, xs, rfl, .inl (SqL.of hq), kd F H M (.int _) _ (Same.refl _) a (by rw [rx.length]; rfl) q⟩)
  · rename_i z hd
    have rz := res_rep a r
    rw [hd] at rz
    exact .inl (.inr ⟨z, by rw [rz.1], rz.2.1, kd F H M (.int _) _ (Same.refl _) a rfl q⟩)
  · split at q
    · rename_i ks ds hk
      obtain ⟨P, xs, rfl, hq, l, rx⟩ := resK_at a r hk
      exact .inr ⟨P, _, rfl, hq, kd F H M (.int _) _ (Same.refl _) a (by rw [List.length_zip, ← rx.length, ← l.1, Nat.min_self]; rfl) q⟩
    · exact q.elim⟩
def asBls : List D → Option (List Bool)
  | [] => some []
  | .bl b :: r => (asBls r).map (b :: ·)
  | _ => none
theorem asBls_map : ∀ bs : List Bool, asBls (bs.map D.bl) = some bs
  | [] => rfl
  | b :: bs => by simp [asBls, asBls_map bs]
theorem asBls_ok : ∀ {ds : List D} {bs : List Bool}, asBls ds = some bs → ds = bs.map D.bl
  | [], bs, h => by cases h; rfl
  | d :: r, bs, h => by
    cases d with
    | bl b =>
      simp only [asBls, Option.map_eq_some_iff] at h
      obtain ⟨cs, h1, rfl⟩ := h
      rw [asBls_ok h1]; rfl
    | _ => simp [asBls] at h
def rAllD : R1D := fun d M Q => match resD M d with
  | .lst ds => match asBls ds with
    | some bs => Q (.bl (bs.all id)) M
    | none => False
  | _ => False
theorem calld_all (hc : X.calm = true := by rfl) : CallD X (.builtin "all") rAllD := ⟨_, cr_all hc, fun R F M H d x Qd Q a r q kd => by
  unfold rAllD at q
  split at q
  · rename_i ds hd
    split at q
    · rename_i bs hb
      obtain ⟨P, xs, rfl, hq, rx⟩ := (seq_at a r).1 hd
      rw [asBls_ok hb] at rx
      have := rx.bls
      subst this
      exact ⟨P, bs, rfl, SqL.of hq, kd F H M (.bl _) _ (Same.refl _) a rfl q⟩
    · exact q.elim
  · exact q.elim⟩
/-- list(xs), a frozen one -/
def rListD : R1D := fun d M Q => match resD M d with
  | .lst ds => Q (.lst ds) M
  | .tup ds => Q (.lst ds) M
  | _ => False
theorem calld_list : CallD X (.type "list") rListD := ⟨_, call_list_of, fun R F M H d x Qd Q a r q kd => by
  unfold rListD at q
  split at q
  · rename_i ds hd
    obtain ⟨P, xs, rfl, hq, rx⟩ := (seq_at a r).1 hd
    exact ⟨P, xs, rfl, .inl (SqL.of hq), fun l hl => lst_new a rx kd q hl⟩
  · rename_i ds hd
    obtain ⟨P, xs, rfl, hq, rx⟩ := (seq_at a r).2 hd
    exact ⟨P, xs, rfl, .inr (Same.seqT a.fz hq), fun l hl => lst_new a rx kd q hl⟩
  · exact q.elim⟩
/-- list(xs), one that may change -/
def rListM : R1D := fun d M Q => match resD M d with
  | .lst ds => ∀ q, M q = none → Q (.ref q) (mupd M q (.lst ds))
  | .tup ds => ∀ q, M q = none → Q (.ref q) (mupd M q (.lst ds))
  | _ => False
theorem calld_listM : CallD X (.type "list") rListM := ⟨_, call_list_of, fun R F M H d x Qd Q a r q kd => by
  unfold rListM at q
  split at q
  · rename_i ds hd
    obtain ⟨P, xs, rfl, hq, rx⟩ := (seq_at a r).1 hd
    exact ⟨P, xs, rfl, .inl (SqL.of hq), fun l hl => lst_born a rx kd q hl⟩
  · rename_i ds hd
    obtain ⟨P, xs, rfl, hq, rx⟩ := (seq_at a r).2 hd
    exact ⟨P, xs, rfl, .inr (Same.seqT a.fz hq), fun l hl => lst_born a rx kd q hl⟩
  · exact q.elim⟩
def rTupleD : R1D := fun d M Q => match resD M d with
  | .lst ds => Q (.tup ds) M
  | .tup ds => Q (.tup ds) M
  | _ => False
theorem calld_tuple : CallD X (.type "tuple") rTupleD := ⟨_, call_tuple_of, fun R F M H d x Qd Q a r q kd => by
  unfold rTupleD at q
  split at q
  · rename_i ds hd
    obtain ⟨P, xs, rfl, hq, rx⟩ := (seq_at a r).1 hd
    exact ⟨P, xs, rfl, .inl ⟨SqL.of hq, fun l hl => tup_new a rx kd q hl⟩⟩
  · rename_i ds hd
    obtain ⟨P, xs, rfl, hq, rx⟩ := (seq_at a r).2 hd
    exact ⟨P, xs, rfl, .inr ⟨Same.seqT a.fz hq, kd F H M (.tup ds) _ (Same.refl _) a ⟨P, xs, rfl, hq, rx⟩ q⟩⟩
  · exact q.elim⟩
def asStrs : List D → Option (List Str)
  | [] => some []
  | .str b :: r => (asStrs r).map (b :: ·)
  | _ => none
theorem asStrs_map : ∀ bs : List Str, asStrs (bs.map D.str) = some bs
  | [] => rfl
  | b :: bs => by simp [asStrs, asStrs_map bs]
theorem asStrs_ok : ∀ {ds : List D} {bs : List Str}, asStrs ds = some bs → ds = bs.map D.str
  | [], bs, h => by cases h; rfl
  | d :: r, bs, h => by
    cases d with
    | str b =>
      simp only [asStrs, Option.map_eq_some_iff] at h
      obtain ⟨cs, h1, rfl⟩ := h
      rw [asStrs_ok h1]; rfl
    | _ => simp [asStrs] at h
theorem joinL_mem {S : List Nat} {c : Nat} : ∀ {ps : List (List Nat)}, c ∈ TL.joinL S ps → c ∈ S ∨ ∃ p ∈ ps, c ∈ p
  | [], h => by cases h
  | [p], h => .inr ⟨p, by simp, h⟩
  | p :: q :: r, h => by
    rcases List.mem_append.mp (show c ∈ p ++ (S ++ TL.joinL S (q :: r)) from h) with h | h
    · exact .inr ⟨p, by simp, h⟩
    · rcases List.mem_append.mp h with h | h
      · exact .inl h
      · rcases joinL_mem h with h | ⟨z, hz, h⟩
        · exact .inl h
        · exact .inr ⟨z, List.mem_cons_of_mem _ hz, h⟩
theorem joinL_len {S : List Nat} : ∀ (ps : List (List Nat)), (TL.joinL S ps).length ≤ (ps.map List.length).sum + ps.length * S.length
  | [] => by simp [TL.joinL]
  | [p] => by simp [TL.joinL]
  | p :: q :: r => by
    have ih := joinL_len (S := S) (q :: r)
    show (p ++ (S ++ TL.joinL S (q :: r))).length ≤ _
    have e : ((p :: q :: r).length) * S.length = (q :: r).length * S.length + S.length := by rw [List.length_cons, Nat.succ_mul]
    rw [e, List.map_cons, List.sum_cons, List.length_append, List.length_append]
    omega
theorem join_ok {a : Str} {ys : List Str} (ha : SOk a) (hy : ∀ y ∈ ys, SOk y) (hz : (ys.map (·.length)).sum + ys.length * a.length ≤ 16777216) : SOk (Txt.join a ys) := by
  have e : (Txt.join a ys).cps.toList = TL.joinL a.cps.toList (ys.map fun y => y.cps.toList) := by
    rw [TL.join_eq]; exact TL.tl_join a ys
  refine ⟨?_, fun c hc => ?_⟩
  · show (Txt.join a ys).cps.size ≤ _
    rw [← Array.length_toList, e, sizeLine_eq]
    refine Nat.le_trans (joinL_len _) ?_
    rw [List.map_map, List.length_map, Array.length_toList]
    exact hz
  · rw [e] at hc
    rcases joinL_mem hc with h | ⟨z, hz, h⟩
    · exact ha.2 c h
    · obtain ⟨y, hy', rfl⟩ := List.mem_map.mp hz
      exact (hy y hy').2 c h
theorem strs_ok {K : PySem.W.Frag} {F : Hp} : ∀ {ys : List Str} {vs : List V}, Reps K F (ys.map D.str) vs → ∀ y ∈ ys, SOk y
  | [], _, _, _, h => by cases h
  | z :: ys, _, ⟨x, r, e, h1, h2⟩, y, h => by
    rcases List.mem_cons.mp h with rfl | h
    · exact h1.2
    · exact strs_ok h2 y h
def dJoin (to te : DE) : DE := fun env M Q => to env M fun o M1 => match o with
  | .str a => te env M1 fun d M2 => match resD M2 d with
    | .lst ds => match asStrs ds with
      | some ys => (ys.map (·.length)).sum + ys.length * a.length ≤ 16777216 ∧ Q (.str (Txt.join a ys)) M2
      | none => False
    | _ => False
  | _ => False
theorem pd_join (ho : PDE X o to) (he : PDE X e te) (hs : starEach [e] X.env = [(false, eval e X.env)] := by rfl) (hbase : attributeBase o "join" X.env (eval o X.env) = eval o X.env := by rfl) (hline : (apos.endLine == pos.line) = true := by rfl) :
    PDE X (.Call (.Attribute o "join" apos) [e] [] pos) (dJoin to te) := by
  refine pe_imp (pe_join ho he hs hbase hline) fun σ H Q ⟨R, F, env, M, Qd, a, e, h, k⟩ => ⟨R, F, env, M, _, a, e, h, fun F1 H1 M1 d v s1 a1 r1 q1 => ?_⟩
  cases d with
  | str x =>
    obtain ⟨rfl, hx⟩ := r1
    refine ⟨⟨x, rfl⟩, R, F1, env, M1, _, a1, e.mono s1, q1, fun F2 H2 M2 d2 v2 s2 a2 r2 q2 => ?_⟩
    split at q2
    · rename_i ds hd
      split at q2
      · rename_i ys hy
        obtain ⟨P, xs, rfl, hq, rx⟩ := (seq_at a2 r2).1 hd
        have e1 := asStrs_ok hy
        subst e1
        have e2 := rx.strs
        subst e2
        exact ⟨x, P, ys, rfl, rfl, .inl (SqL.of hq), q2.1, k F2 H2 M2 (.str _) _ (s1.trans s2) a2 ⟨rfl, join_ok hx (strs_ok rx) q2.1⟩ q2.2⟩
      · exact q2.elim
    · exact q2.elim
  | _ => exact q1.elim
def tyD (M : Mp) (d : D) : Option String := match resD M d with
  | .non => some "NoneType"
  | .bl _ => some "bool"
  | .int _ => some "int"
  | .str _ => some "str"
  | .tup _ => some "tuple"
  | .lst _ => some "list"
  | _ => none
theorem sqt_ty {K : PySem.W.Frag} {H : Hp} {p : Addr} {xs : List V} (h : SqT K H p xs) : TyX K H (.ref p) (.type "tuple") := by
  rcases h with (h | ⟨o, h⟩) | ⟨o, its, n, hk, hc, _⟩
  · exact .base (.tup h)
  · exact .fTuple h
  · exact .kTuple hk hc
theorem tyD_ok {K : PySem.W.Frag} {R F : Hp} {M : Mp} {H : Hp} {d : D} {v : V} {T : String} (a : At K R F M H) (r : Rep K F d v) (h : tyD M d = some T) : TyX K H v (.type T) := by
  unfold tyD at h
  have rr := res_rep a r
  split at h <;> rename_i hd
  · rw [hd] at rr; cases h; cases (show v = .non from rr); exact .base .non
  · rw [hd] at rr; cases h; cases (show v = .bl _ from rr); exact .base (.bl _)
  · rw [hd] at rr; cases h; cases (show v = .int _ from rr); exact .base (.int _)
  · rw [hd] at rr; cases h; obtain ⟨rr, _⟩ := rr; cases rr; exact .base (.str _)
  · rw [hd] at rr; cases h; obtain ⟨p, xs, rfl, hq, _⟩ := rr; exact sqt_ty hq
  · rw [hd] at rr; cases h; obtain ⟨p, xs, rfl, hq, _⟩ := rr; exact .base (.lst hq)
  · cases h
inductive Ty where
  | list | tuple | bool | int | str
def Ty.name : Ty → String
  | .list => "list" | .tuple => "tuple" | .bool => "bool" | .int => "int" | .str => "str"
def isIn : Ty → D → Option Bool
  | .list, .lst _ => some true
  | .tuple, .tup _ => some true
  | .bool, .bl _ => some true
  | .int, .int _ => some true
  | .int, .bl _ => some true
  | .str, .str _ => some true
  | _, .non => some false
  | _, .bl _ => some false
  | _, .int _ => some false
  | _, .str _ => some false
  | _, .tup _ => some false
  | _, .lst _ => some false
  | _, _ => none
theorem isIn_ok {M : Mp} {d : D} {T : Ty} {b : Bool} (h : isIn T (resD M d) = some b) : ∃ t, tyD M d = some t ∧ kitB t T.name = some b := by
  unfold tyD
  cases e : resD M d <;> rw [e] at h <;> cases T <;> first
    | (simp [isIn] at h; done)
    | (simp only [isIn, Option.some.injEq] at h; subst h; exact ⟨_, rfl, by decide +kernel⟩)
/-- isinstance(e, T), T a built-in class -/
def dIsi (T : Ty) (te : DE) : DE := fun env M Q => te env M fun d M1 => match isIn T (resD M1 d) with
  | some b => Q (.bl b) M1
  | none => False
theorem pd_isi {T : Str} (t : Ty) {p2 : Pos} (hm : X.mg "isinstance" = none) (he : PDE X e te) (hT : X.mg T = none) (hv : bootBuiltins T = some (.type t.name) := by decide +kernel) (hg : Gl X "isinstance" := by rfl) (hgT : Gl X T := by rfl)
    (hn : T ≠ "__name__" := by decide) (hd : (T == ("__debug__" : Str)) = false := by decide)
    (hs : starEach [e, .Name T p2] X.env = (false, eval e X.env) :: starEach [.Name T p2] X.env := by rfl) (hs2 : starEach [.Name T p2] X.env = (false, eval (.Name T p2) X.env) :: starEach [] X.env := by rfl) (hpl : (backTo pos (starEach [.Name T p2] X.env)).any (·.1) = false := by rfl) :
    PDE X (.Call (.Name "isinstance" p) [e, .Name T p2] [] pos) (dIsi t te) :=
  pe_imp (pe_callB call_isi hg hm (by decide +kernel) (pa_cons he (pa_cons (pe_bltn (v := .ty t.name) hgT hT hv rfl hn hd) pa_nil hs2) hs) (by decide) (by decide) hs hpl) fun σ H Q ⟨R, F, env, M, Qd, a, e, h, k⟩ =>
    ⟨R, F, env, M, _, a, e, h, fun F1 H1 M1 d v s1 a1 r1 q1 => by
      split at q1
      · rename_i b hb
        obtain ⟨tt, ht, hb⟩ := isIn_ok hb
        exact ⟨v, .ty t.name, .type tt, .type t.name, b, rfl, .ty _, tyD_ok a1 r1 ht, kit_ty hb, k F1 H1 M1 (.bl b) _ s1 a1 rfl q1⟩
      · exact q1.elim⟩
/-- isinstance(e, (T, U)) -/
def dIsi2 (T U : Ty) (te : DE) : DE := fun env M Q => te env M fun d M1 => match isIn T (resD M1 d), isIn U (resD M1 d) with
  | some b, some c => Q (.bl (b || c)) M1
  | _, _ => False
theorem pd_isi2 {T U : Str} (t u : Ty) {p2 p3 p4 : Pos} {kk : Nat} (hm : X.mg "isinstance" = none) (he : PDE X e te) (hT : X.mg T = none) (hU : X.mg U = none) (hv : bootBuiltins T = some (.type t.name) := by decide +kernel) (hv2 : bootBuiltins U = some (.type u.name) := by decide +kernel)
    (hg : Gl X "isinstance" := by rfl) (hgT : Gl X T := by rfl) (hgU : Gl X U := by rfl) (hn : T ≠ "__name__" := by decide) (hd : (T == ("__debug__" : Str)) = false := by decide) (hn2 : U ≠ "__name__" := by decide) (hd2 : (U == ("__debug__" : Str)) = false := by decide)
    (hs0 : starEach [.Name T p2, .Name U p3] X.env = (false, eval (.Name T p2) X.env) :: starEach [.Name U p3] X.env := by rfl) (hs1 : starEach [.Name U p3] X.env = (false, eval (.Name U p3) X.env) :: starEach [] X.env := by rfl)
    (hs : starEach [e, .Tuple [.Name T p2, .Name U p3] kk p4] X.env = (false, eval e X.env) :: starEach [.Tuple [.Name T p2, .Name U p3] kk p4] X.env := by rfl)
    (hs2 : starEach [.Tuple [.Name T p2, .Name U p3] kk p4] X.env = (false, eval (.Tuple [.Name T p2, .Name U p3] kk p4) X.env) :: starEach [] X.env := by rfl) (hpl : (backTo pos (starEach [.Tuple [.Name T p2, .Name U p3] kk p4] X.env)).any (·.1) = false := by rfl) :
    PDE X (.Call (.Name "isinstance" p) [e, .Tuple [.Name T p2, .Name U p3] kk p4] [] pos) (dIsi2 t u te) :=
  pe_imp (pe_callB call_isiT hg hm (by decide +kernel) (pa_cons he (pa_cons (pe_tup (pa_cons (pe_bltn (v := .ty t.name) hgT hT hv rfl hn hd) (pa_cons (pe_bltn (v := .ty u.name) hgU hU hv2 rfl hn2 hd2) pa_nil hs1) hs0)) pa_nil hs2) hs) (by decide) (by decide) hs hpl) fun σ H Q ⟨R, F, env, M, Qd, a, e, h, k⟩ =>
    ⟨R, F, env, M, _, a, e, h, fun F1 H1 M1 d v s1 a1 r1 q1 => ⟨by show 2 ≤ sizeLine; decide, fun P hP => by
      obtain ⟨a2, s2⟩ := a1.laid hP (.tup [.ty t.name, .ty u.name])
      split at q1
      · rename_i b c hb hc
        obtain ⟨tt, ht, hb⟩ := isIn_ok hb
        obtain ⟨tt2, ht2, hc⟩ := isIn_ok hc
        rw [ht] at ht2; cases ht2
        refine ⟨v, P, _, .type tt, [.type t.name, .type u.name], b || c, rfl, upd_same, .cons (.ty _) (.cons (.ty _) .nil), tyD_ok a2 (r1.mono s2) ht, kitAny_cons (kit_ty hb) (fun e => ?_) (fun e => by rw [e]; rfl), k _ _ M1 (.bl _) _ (s1.trans s2) a2 rfl q1⟩
        subst e
        exact kitAny_cons (kit_ty hc) (fun e => by rw [e]; exact kitAny_nil) (fun e => by rw [e]; rfl)
      · exact q1.elim⟩⟩
end
end L3
set_option Elab.async false
set_option linter.all false
set_option maxRecDepth 100000
set_option maxHeartbeats 1000000
namespace L3
open PySem PySem.Spec PyProof.Rows L2
section
variable {X : Cx} {a b o i kx vx : Expr} {e : Expr} {es : List Expr} {te ta tb to ti tk tv : DE} {t : DA} {pos p apos tpos : Pos}
def leD (d e : D) : Bool := PySem.W.dataLe false D.py d e
def sortD (ds : List D) : List D := ds.mergeSort leD
/-- what may be sorted -/
def SrtOk (ds : List D) : Prop := PySem.W.AllAlike (ds.map D.py) ∧ PySem.W.Sortable (ds.map D.py)
def rSortV (K : PySem.W.Frag) : List V → Hp → VK → Prop := fun vs H Q => ∃ a xs F ds, vs = [.ref a] ∧ SqL K H a xs ∧ Same F H ∧ Reps K F ds xs ∧ D.les 50 ds = true ∧ SrtOk ds ∧ ∀ ys p, Reps K F (sortD ds) ys → H p = none → Q (.ref p) (upd H p (.lst ys))
theorem each_rep {K : PySem.W.Frag} {F : Hp} : ∀ {ds : List D} {xs : List V} {us : List Value}, Reps K F ds xs → Vals xs us → PySem.W.EachIs (fun u d => ∃ x, RelV x u ∧ Rep K F d x) us ds
  | [], _, _, h, r => by cases h; cases r; exact .nil
  | d :: ds, _, us, ⟨x, rr, e, h1, h2⟩, r => by
    subst e
    cases r with
    | cons r1 r2 => exact .cons ⟨x, r1, h1⟩ (each_rep h2 r2)
theorem rep_each {K : PySem.W.Frag} {F : Hp} : ∀ {ds : List D} {us : List Value}, PySem.W.EachIs (fun u d => ∃ x, RelV x u ∧ Rep K F d x) us ds → ∃ xs, Vals xs us ∧ Reps K F ds xs
  | _, _, .nil => ⟨[], .nil, rfl⟩
  | _, _, .cons ⟨x, r, h⟩ t => by
    obtain ⟨xs, r2, h2⟩ := rep_each t
    exact ⟨x :: xs, .cons r r2, x, xs, rfl, h, h2⟩
theorem each_reads {pins : List (Addr × Obj)} {σ : L2.St} {H : Hp} {s : Shared} {F : Hp} (I : Inv X pins σ H s) (sm : Same F H) : ∀ {ds : List D} {xs : List V} {us : List Value}, Reps X.K F ds xs → Vals xs us → D.les 50 ds = true → PySem.W.EachIs (fun u d => ∃ as, Reads s.heap u d.py as) us ds
  | [], _, _, h, r, _ => by cases h; cases r; exact .nil
  | d :: ds, _, us, ⟨x, rr, e, h1, h2⟩, r, l => by
    subst e
    simp only [D.les, Bool.and_eq_true] at l
    cases r with
    | cons r1 r2 => exact .cons (Dp.reads I d.py x _ (dp_mono sm (py_dp h1 l.1).1) r1) (each_reads I sm h2 r2 l.2)
theorem les_each : ∀ {n : Nat} {ds : List D}, D.les n ds = true → ∀ d ∈ ds, D.le n d = true
  | n, d :: ds, h, g, hg => by
    simp only [D.les, Bool.and_eq_true] at h
    rcases List.mem_cons.mp hg with rfl | hg
    · exact h.1
    · exact les_each h.2 g hg
mutual
theorem py_depth : ∀ {n : Nat} {d : D}, D.le n d = true → d.py.depth ≤ n + 1
  | n, .non, _ => by simp [D.py, PyData.depth]
  | n, .bl b, _ => by simp [D.py, PyData.depth]
  | n, .int i, _ => by simp [D.py, PyData.depth]
  | n, .str x, _ => by simp [D.py, PyData.depth]
  | n + 1, .tup ds, h => by
    have := pys_depth (show D.les n ds = true by simpa [D.le] using h)
    simp only [D.py, PyData.depth]; omega
  | n + 1, .lst ds, h => by
    have := pys_depth (show D.les n ds = true by simpa [D.le] using h)
    simp only [D.py, PyData.depth]; omega
  | 0, .tup ds, h => by simp [D.le] at h
  | 0, .lst ds, h => by simp [D.le] at h
  | _, .ref _, h => by simp [D.le] at h
  | _, .ty _, h => by simp [D.le] at h
  | _, .lsk _, h => by simp [D.le] at h
  | _, .dct _ _, h => by simp [D.le] at h
  | _, .obj _ _, h => by simp [D.le] at h
  | _, .dkd _ _ _, h => by simp [D.le] at h
  | _, .exc _ _ _ _, h => by simp [D.le] at h
  | _, .fn _ _ _, h => by simp [D.le] at h
theorem pys_depth : ∀ {n : Nat} {ds : List D}, D.les n ds = true → PyData.depthAll (D.pys ds) ≤ n + 1
  | n, [], _ => by simp [D.pys, PyData.depthAll]
  | n, d :: ds, h => by
    have h' : D.le n d = true ∧ D.les n ds = true := by simpa [D.les] using h
    have h1 := py_depth h'.1
    have h2 := pys_depth h'.2
    simp only [D.pys, PyData.depthAll]; omega
end
theorem cr_sortedV (hu : X.A.units + 65 < cLine) : CallR X (.builtin "sorted") (rSortV X.K) := by
  intro pins s σ H vs us Q I r ⟨a, xs, F, ds, ev, hs, sm, rx, hl, ok, q⟩
  subst ev
  obtain ⟨its, rv, pl, hz⟩ := I.list hs
  rw [Vals.ref1 r]
  have hlen : its.length = ds.length := by rw [← rv.length, rx.length]
  refine PySem.W.sorted_data (vs := its) (bs := ds) (enc := D.py) (R := fun u d => ∃ x, RelV x u ∧ Rep X.K F d x) pl.isList (each_rep rx rv) (each_reads I sm rx rv hl) ok.1 ok.2 (by rw [rx.length]; exact hz) (fun b hb => ?_) fun out ho hout => ?_
  · have := py_depth (les_each hl b hb); omega
  · obtain ⟨ys, ry, rys⟩ := rep_each hout
    obtain ⟨ep, he'⟩ := PyProof.Rows.sortedAll_at s.heap its out.toArray
    have hy : ys.length ≤ sizeLine := by rw [ry.length, ho, rx.length]; exact hz
    exact ⟨.ref _, upd H (s.heap.objs.size + 1) (.lst ys), I.laid (t' := s.toks) (fun _ _ => PyProof.Rows.sortedAll_old) (Nat.le_succ _) ⟨hy, out, ep, ry, he'⟩, rfl, q ys _ rys (I.hok.fresh (Nat.le_succ _))⟩
def keyInts : List L2.Key → Option (List Int)
  | [] => some []
  | .inl i :: r => (keyInts r).map (i :: ·)
  | _ => none
theorem keyInts_ok : ∀ {ks : List L2.Key} {ns : List Int}, keyInts ks = some ns → ks = ns.map Sum.inl
  | [], _, h => by cases h; rfl
  | .inl i :: r, _, h => by
    simp only [keyInts, Option.map_eq_some_iff] at h
    obtain ⟨cs, h1, rfl⟩ := h
    rw [keyInts_ok h1]; rfl
  | .inr _ :: _, _, h => by cases h
/-- sorted(xs): a frozen list; of a dict its keys, numbers -/
def rSortG (mk : List D → Mp → DK → Prop) : R1D := fun d M Q => match resD M d with
  | .lst ds => (D.les 50 ds = true ∧ SrtOk ds) ∧ mk (sortD ds) M Q
  | _ => match resK M d with
    | some (ks, _) => match keyInts ks with
      | some ns => ns.length < 64 ∧ ∀ ys : List Int, ys.Perm ns → ys.Pairwise (· ≤ ·) → mk (ys.map D.int) M Q
      | none => False
    | none => False
def mkF : List D → Mp → DK → Prop := fun ds M Q => Q (.lst ds) M
abbrev rSortD : R1D := rSortG mkF
theorem zip_fst {α β : Type} : ∀ {xs : List α} {ys : List β}, xs.length = ys.length → (xs.zip ys).map (·.1) = xs
  | [], _, _ => by simp
  | _ :: _, [], h => by simp at h
  | x :: xs, y :: ys, h => by simp [zip_fst (xs := xs) (ys := ys) (by simpa using h)]
theorem calld_sortG {mk : List D → Mp → DK → Prop} (hmk : ∀ {K : PySem.W.Frag} {R F : Hp} {M : Mp} {H : Hp} {ds : List D} {vs : List V} {Qd : DK} {Q : VK} {p : Addr}, At K R F M H → Reps K F ds vs → KD K R F Qd Q → mk ds M Qd → H p = none → Q (.ref p) (upd H p (.lst vs)))
    {k : Nat} (hr : Room k X.A) (hc : X.calm = true) : CallD X (.builtin "sorted") (rSortG mk) := ⟨_, (cr_sortedV (by have := hr.un; omega)).or (call_sortedDI hc), fun R F M H d x Qd Q a r q kd => by
  unfold rSortG at q
  split at q
  · rename_i ds hd
    obtain ⟨P, xs, rfl, hq, rx⟩ := (seq_at a r).1 hd
    exact .inl ⟨P, xs, F, ds, rfl, SqL.of hq, a.fz, rx, q.1.1, q.1.2, fun ys p ry hp => hmk a ry kd q.2 hp⟩
  · split at q
    · rename_i ks ds hk
      split at q
      · rename_i ns hn
        obtain ⟨P, xs, rfl, hq, l, rx⟩ := resK_at a r hk
        refine .inr ⟨P, _, ns, rfl, hq, ?_, q.1, fun ys p h1 h2 hp => hmk a (Reps.ofInts ys) kd (q.2 ys h1 h2) hp⟩
        rw [zip_fst (l.1.trans rx.length), keyInts_ok hn]
      · exact q.elim
    · exact q.elim⟩
theorem calld_sort {k : Nat} (hr : Room k X.A) (hc : X.calm = true := by rfl) : CallD X (.builtin "sorted") rSortD := calld_sortG (fun a r k h hp => lst_new a r k h hp) hr hc
def dDcL0 (t : Tg) (tt : DT) (tk tv : DE) (env : DEnv) : List D → List L2.Key → List D → Mp → (List L2.Key → List D → Mp → Prop) → Prop
  | [], ks, ds, M, Q => Q ks ds M
  | x :: r, ks, ds, M, Q => t.bind x env fun env1 => tt env1 M fun b M1 => brn b (tk env1 M1 fun y M2 => tv env1 M2 fun z M3 => match keyD y with
      | some k => dDcL0 t tt tk tv env r (addK ks k) (setK ks ds k z) M3 Q
      | none => False) (dDcL0 t tt tk tv env r ks ds M1 Q)
@[irreducible] def dDcL (t : Tg) (tt : DT) (tk tv : DE) (env : DEnv) (xs : List D) (ks : List L2.Key) (ds : List D) (M : Mp) (Q : List L2.Key → List D → Mp → Prop) : Prop := dDcL0 t tt tk tv env xs ks ds M Q
theorem dDcL_eq {t : Tg} {tt : DT} {tk tv : DE} {env : DEnv} {xs ds : List D} {ks : List L2.Key} {M : Mp} {Q : List L2.Key → List D → Mp → Prop} : dDcL t tt tk tv env xs ks ds M Q = dDcL0 t tt tk tv env xs ks ds M Q := by unfold dDcL; rfl
def dDc (w : DI) (t : Tg) (tt : DT) (tk tv : DE) (vs : List Nat) : DE := fun env M Q => w env M fun items M1 => dDcL t tt tk tv (wipeD env vs) items [] [] M1 fun ks ds M2 => Q (.dct ks ds) M2
theorem setK_le {ks : List L2.Key} {ds : List D} {j : L2.Key} {e : D} (h : ks.length = ds.length) : (setK ks ds j e).length ≤ ds.length + 1 := by
  unfold setK
  split
  · rw [List.length_zipWith]; omega
  · simp
theorem dc_served {K : PySem.W.Frag} {w : DI} {t : Tg} {tt : DT} {tk tv : DE} {vs : List Nat} (hv : ∀ v ∈ t.slots, v ∈ vs) {σ : L2.St} {H : Hp} {Q : VK} {R F : Hp} {env : DEnv} {M : Mp} {Qd : List L2.Key → List D → Mp → Prop}
    (a : At K R F M H) (e : EnvR K F σ env) (h : w env M fun items M1 => dDcL t tt tk tv (wipeD env vs) items [] [] M1 Qd)
    (k : ∀ F' H' M' ks ds D xs, Same F F' → At K (upd R D (.dK (ks.zip xs))) F' M' H' → R D = none → KsOk ks ds → Reps K F' ds xs → Qd ks ds M' → Q (.ref D) H') :
    tDc (upI K w) (tgOf K t) (upT K tt) (up K tk) (up K tv) vs σ H Q := by
  refine ⟨R, F, env, M, _, a, e, h, fun F1 H1 M1 items J s1 a1 gv q1 => ?_⟩
  rw [dDcL_eq] at q1
  intro D hD
  have hRD := a1.freeR hD
  refine ⟨fun i m H => ∃ F2 M2 ks ds xs, Same F1 F2 ∧ At K (upd R D (.dK (ks.zip xs))) F2 M2 H ∧ KsOk ks ds ∧ Reps K F2 ds xs ∧ dDcL0 t tt tk tv (wipeD env vs) (items.drop i) ks ds M2 Qd ∧ m = items.length - i ∧ i ≤ items.length ∧ ds.length ≤ i,
    ⟨items.length, F1, M1, [], [], [], Same.refl _, a1.lend hD _, ⟨rfl, fun _ h => nomatch h⟩, rfl, q1, by simp, Nat.zero_le _, Nat.le_refl _⟩, ?_⟩
  rintro i m H2 ⟨F2, M2, ks, ds, xs, s2, a2, lk, rx, q2, rfl, hi, hl⟩
  by_cases hlt : i < items.length
  · rw [List.drop_eq_getElem_cons hlt] at q2
    obtain ⟨hgo, hy⟩ := gv.go i items[i] _ F2 _ _ s2 a2 (List.getElem?_eq_getElem hlt)
    refine .inr ⟨hgo, fun H' => ∃ F3 M3 ks3 ds3 xs3, Same F1 F3 ∧ At K (upd R D (.dK (ks3.zip xs3))) F3 M3 H' ∧ KsOk ks3 ds3 ∧ Reps K F3 ds3 xs3 ∧ dDcL0 t tt tk tv (wipeD env vs) (items.drop (i + 1)) ks3 ds3 M3 Qd ∧ ds3.length ≤ i + 1,
      fun H' ⟨F3, M3, ks3, ds3, xs3, s3, a3, lk3, r3, q3, l3⟩ => ⟨items.length - (i + 1), by omega, F3, M3, ks3, ds3, xs3, s3, a3, lk3, r3, q3, rfl, hlt, l3⟩, fun x H' y => ?_⟩
    obtain ⟨F3, s3, a3, r3⟩ := hy x H' y
    refine tg_serves a3 t (wipe σ vs) (wipeD env vs) items[i] x _ _ ((e.wipe vs).mono ((s1.trans s2).trans s3)) r3 q2 fun σ' env' e' w' q' => ?_
    refine ⟨(wipe_sub hv w').trans (wipe_wipe σ vs), _, F3, env', M2, _, a3, e', q', fun F4 H4 M4 b s4 a4 q4 => ?_⟩
    show if b = true then _ else _
    cases b with
    | true =>
      rw [brn_t] at q4; rw [if_pos rfl]
      refine ⟨_, F4, env', M4, _, a4, e'.mono s4, q4, fun F5 H5 M5 d v s5 a5 r5 q5 => ⟨_, F5, env', M5, _, a5, (e'.mono s4).mono s5, q5, fun F6 H6 M6 g u s6 a6 r6 q6 => ?_⟩⟩
      have z := a6.fr D _ upd_same
      split at q6
      · rename_i kk hk
        have rx' := (((rx.mono s3).mono s4).mono s5).mono s6
        obtain ⟨ys, e1, e2⟩ := setK_zip (j := kk) lk.1 rx' r6
        have h1 := rx.length
        have h2 := gv.small
        have h3 := lk.1
        refine ⟨_, kk, keyD_ok r5 hk, z.2.2, ?_, F6, M6, addK ks kk, setK ks ds kk g, ys, ((((s2.trans s3).trans s4).trans s5).trans s6), ?_, lk.set (keyD_sok r5 hk), e2, q6, Nat.le_trans (setK_le lk.1) (by omega)⟩
        · rw [List.length_zip, ← h1, h3, Nat.min_self]; omega
        · have := a6.relend (u' := .dK (putK (ks.zip xs) kk u))
          rw [e1] at this ⊢
          exact this
      · exact q6.elim
    | false =>
      rw [brn_f] at q4; rw [if_neg Bool.false_ne_true]
      exact ⟨F4, M4, ks, ds, xs, (s2.trans s3).trans s4, a4, lk, (rx.mono s3).mono s4, q4, by omega⟩
  · have e : i = items.length := by omega
    subst e
    rw [List.drop_length] at q2
    exact .inl ⟨gv.stop _ F2 M2 _ s2 a2, k F2 _ M2 ks ds D xs (s1.trans s2) a2 hRD lk rx q2⟩
section
variable {tg iter : Expr} {ifs : List Expr} {scope : Scope} {own : List (Str × Nat)} {w : DI} {t : Tg} {tt : DT}
theorem pd_dc (hN : X.N.Nodup) (hi : PDI X tg iter w) (ok : BlkOk X.N X.env.scope scope own)
    (hg : BlkAll X scope fun Y => PDG Y tg t) (ht : BlkAll X scope fun Y => PDTs Y ifs tt) (hk : BlkAll X scope fun Y => PDE Y kx tk) (he : BlkAll X scope fun Y => PDE Y vx tv) (hv : ∀ v ∈ t.slots, v ∈ own.map (·.2) := by decide)
    (hc : X.calm = true := by rfl) (hs : ∀ x, foldedSetIterable iter X.env x = pure x := by intro _; rfl) :
    PDE X (.DictComp kx vx [⟨tg, iter, ifs, 0⟩] scope pos) (dDc w t tt tk tv (own.map (·.2))) :=
  pe_imp (pe_lock (pe_dc hc hN hi ok hg ht hk he hs)) fun σ H Q ⟨R, F, env, M, Qd, a, e, h, k⟩ => dc_served hv a e h fun F' H' M' ks ds D xs s a' hR lk r q => by
    have hD := (a'.fr D _ upd_same).2.2
    refine .inr ⟨D, _, rfl, hD, trivial, fun o => ?_⟩
    obtain ⟨a2, s2⟩ := (a'.relend (.frz o (.dK (ks.zip xs)))).takeF hR
    exact k _ _ M' (.dct ks ds) _ (s.trans s2) a2 ⟨D, o, xs, rfl, upd_same, lk, r.mono s2⟩ q
end
def iDct (g : List L2.Key → List D → List D) (te : DE) : DI := fun env M Q => te env M fun d M1 => match d with
  | .dct ks ds => Q (g ks ds) M1
  | _ => False
abbrev iItemsD : DE → DI := iDct fun ks ds => List.zipWith (fun k d => .tup [dKey k, d]) ks ds
theorem dKey_rep {K : PySem.W.Frag} {F : Hp} {k : L2.Key} (h : ∀ x, Sum.inr x = k → SOk x) : Rep K F (dKey k) (kV k) := by
  cases k with
  | inl i => rfl
  | inr x => exact ⟨rfl, h x rfl⟩
theorem zip_get {α β : Type} {xs : List α} {ys : List β} {i : Nat} (hi : i < xs.length) (h : xs.length = ys.length) : ∃ x y, xs[i]? = some x ∧ ys[i]? = some y ∧ (xs.zip ys)[i]? = some (x, y) := by
  refine ⟨xs[i], ys[i]'(h ▸ hi), List.getElem?_eq_getElem hi, List.getElem?_eq_getElem (h ▸ hi), ?_⟩
  rw [List.getElem?_eq_getElem (by rw [List.length_zip, ← h]; omega), List.getElem_zip]
theorem dct_small {pins : List (Addr × Obj)} {σ : L2.St} {H : Hp} {s : Shared} {p : Addr} {o : Obj} {kvs : List (L2.Key × V)} (I : Inv X pins σ H s) (h : H p = some (.frz o (.dK kvs))) : kvs.length ≤ sizeLine := by
  obtain ⟨hd, z, hs, vs, kv, _⟩ := I.hok p _ h
  exact z
theorem pdi_items {elts : List Expr} {kk : Nat} {tpos : Pos} (he : PDE X e te) (hbase : attributeBase e "items" X.env (eval e X.env) = eval e X.env := by rfl) (hline : (apos.endLine == pos.line) = true := by rfl) :
    PDI X (.Tuple elts kk tpos) (.Call (.Attribute e "items" apos) [] [] pos) (iItemsD te) := by
  refine pi_imp (pi_items (pe_held he) hbase hline) fun σ H Z ⟨R, F, env, M, Qd, a, e, h, k⟩ => ⟨R, F, env, M, _, a, e, h, fun F1 H1 M1 d v s1 a1 r1 q1 pins s σ I => ?_⟩
  cases d with
  | dct ks ds =>
    obtain ⟨p, o, xs, rfl, hq, lk, rx⟩ := r1
    have hx : ks.length = xs.length := lk.1.trans rx.length
    have hH := a1.fz _ _ hq
    have hz := dct_small I hH
    rw [List.length_zip, ← hx, Nat.min_self] at hz
    have hzl : (List.zipWith (fun k d => D.tup [dKey k, d]) ks ds).length = ks.length := by rw [List.length_zipWith, ← lk.1, Nat.min_self]
    refine ⟨p, o, _, rfl, hH, k F1 H1 M1 _ _ s1 a1 ⟨by rw [hzl]; exact hz, fun R F' M H s a' => ⟨a'.fz _ _ (s _ _ hq), by rw [hzl, List.length_zip, ← hx, Nat.min_self]; exact Nat.le_refl _⟩, fun i d R F' M H s a' hi => ?_⟩ q1⟩
    have hlt : i < ks.length := by rw [← hzl]; exact (List.getElem?_eq_some_iff.mp hi).1
    obtain ⟨x, y, h1, h2, h3⟩ := zip_get hlt hx
    obtain ⟨x', g, h4, h5, _⟩ := zip_get hlt lk.1
    rw [List.getElem?_zipWith, h4, h5] at hi
    cases hi
    obtain ⟨u, hu, ru⟩ := rx.get h5
    refine ⟨⟨a'.fz _ _ (s _ _ hq), by rw [List.length_zip, ← hx, Nat.min_self]; exact hlt⟩, fun v H' ⟨T, k', v', e2, ev, hT, eH⟩ => ?_⟩
    rw [h3] at e2
    cases e2
    rw [h1] at h4
    cases h4
    rw [h2] at hu
    cases hu
    subst ev eH
    exact new_pair a' hT (dKey_rep fun z hz => lk.2 z (hz ▸ List.mem_of_getElem? h1)) (ru.mono s)
  | _ => exact q1.elim
def hitsD (ls : List L2.Key) (es : List D) : List L2.Key → List D → Bool
  | k :: ks, d :: ds => match findK ls es k with
    | some g => eqD d g && hitsD ls es ks ds
    | none => false
  | _, _ => true
def eqTab (ks : List L2.Key) (ds : List D) (ls : List L2.Key) (es : List D) : Bool := (ks.length == ls.length) && hitsD ls es ks ds
theorem findK_mem : ∀ {ks : List L2.Key} {ds : List D} {k : L2.Key} {d : D}, findK ks ds k = some d → d ∈ ds
  | [], _, _, _, h => by simp [findK] at h
  | k :: ks, [], _, _, h => by simp [findK] at h
  | k :: ks, d :: ds, j, g, h => by
    simp only [findK] at h
    split at h
    · cases h; exact List.mem_cons_self
    · exact List.mem_cons_of_mem _ (findK_mem h)
theorem hits_ok {pins : List (Addr × Obj)} {σ : L2.St} {H : Hp} {s : Shared} {F : Hp} {A : Around} (I : Inv X pins σ H s) (sm : Same F H) (hu : A.in1.units + 64 < cLine) {ls : List L2.Key} {es : List D} {ys : List V} {vb : List (L2.Key × Value)} (rb : KV (ls.zip ys) vb) (lb : ls.length = es.length) (re : Reps X.K F es ys) (he : D.les 60 es = true) :
    ∀ {ks : List L2.Key} {ds : List D} {xs : List V} {va : List (L2.Key × Value)}, KV (ks.zip xs) va → ks.length = ds.length → Reps X.K F ds xs → D.les 60 ds = true → PySem.W.KeqHits A.in1 s vb va (hitsD ls es ks ds)
  | [], ds, xs, va, ra, l, r, h => by
    cases ds with
    | nil => cases ra; exact .nil
    | cons _ _ => simp at l
  | k :: ks, [], xs, va, ra, l, r, h => by simp at l
  | k :: ks, d :: ds, _, va, ra, l, ⟨x, rr, e, r1, r2⟩, h => by
    subst e
    simp only [D.les, Bool.and_eq_true] at h
    cases ra with
    | @cons p q ps qs h1 t =>
      obtain ⟨k', v⟩ := q
      obtain ⟨e1, rv⟩ := h1
      obtain rfl : k = k' := e1
      obtain ⟨f1, f2⟩ := findK_some (j := k) lb re
      have rel : RelO (valV (ls.zip ys) k) (valueAt vb k) := rb.val k
      simp only [hitsD]
      cases hf : findK ls es k with
      | none =>
        rw [f2 hf] at rel
        refine .miss ?_
        cases hv : valueAt vb k with
        | none => rfl
        | some z => rw [hv] at rel; exact (show False from rel).elim
      | some g =>
        obtain ⟨w, hw, rw'⟩ := f1 g hf
        rw [hw] at rel
        obtain ⟨y, hy, ry⟩ := rel.some_of
        obtain ⟨d1, s1⟩ := py_shaped r1 h.1
        obtain ⟨d2, s2⟩ := py_shaped rw' (les_each he g (findK_mem hf))
        obtain ⟨as, q1⟩ := Dp.reads I d.py x v (dp_mono sm d1) rv
        obtain ⟨bs, q2⟩ := Dp.reads I g.py w y (dp_mono sm d2) ry
        exact .hit hy (PySem.W.keq_at q1 q2 s1 s2 hu) (hits_ok I sm hu rb lb re he t (by simpa using l) r2 h.2)
def rEqTV (K : PySem.W.Frag) (g : Bool → Bool) : R2 := fun x y H Q => ∃ a b ks ds xs ls es ys F, x = .ref a ∧ y = .ref b ∧ Rd H a (.dK (ks.zip xs)) ∧ Rd H b (.dK (ls.zip ys)) ∧ Same F H ∧ ks.length = ds.length ∧ Reps K F ds xs ∧ D.les 60 ds = true ∧ ls.length = es.length ∧ Reps K F es ys ∧ D.les 60 es = true ∧ Q (.bl (g (eqTab ks ds ls es))) H
theorem op_eqTV (hu : X.A.units + 65 < cLine) : OpR X (compareOp .Eq) (rEqTV X.K id) := by
  intro pins s σ H x y v u Q I rx ry ⟨a, b, ks, ds, xs, ls, es, ys, F, ex, ey, ha, hb, sm, l1, r1, h1, l2, r2, h2, q⟩
  subst ex ey
  obtain rfl : v = Value.ref a := rx
  obtain rfl : u = Value.ref b := ry
  obtain ⟨_, ya, va, ra, da⟩ := dk_rd I.hok ha
  obtain ⟨_, yb, vb, rb, db⟩ := dk_rd I.hok hb
  have e1 : va.length = ks.length := by rw [← ra.length, List.length_zip, ← r1.length, ← l1, Nat.min_self]
  have e2 : vb.length = ls.length := by rw [← rb.length, List.length_zip, ← r2.length, ← l2, Nat.min_self]
  refine PySem.W.keq_eq (knd := mixKind X.prog X.w) (r := hitsD ls es ks ds) ya yb da db (by omega) (fun _ => hits_ok I sm (by have := Around.in1_units X.A; omega) rb l2 r2 h2 ra l1 r1 h1) (fin_bl I q ?_)
  rw [e1, e2]; rfl
def rEqKD (g : Bool → Bool) : R2D := fun d e M Q => match resK M d with
  | some (ks, ds) => match resK M e with
    | some (ls, es) => (D.les 60 ds = true ∧ D.les 60 es = true) ∧ Q (.bl (g (eqTab ks ds ls es))) M
    | none => False
  | none => False
theorem eqK_served {K : PySem.W.Frag} (g : Bool → Bool) : Serves2 K (rEqKD g) (rEqTV K g) := fun R F M H d e x y Qd Q a r1 r2 q kd => by
  unfold rEqKD at q
  split at q
  · rename_i ks ds hk
    split at q
    · rename_i ls es hl
      obtain ⟨p, xs, rfl, h1, l1, rx⟩ := resK_at a r1 hk
      obtain ⟨p2, ys, rfl, h2, l2, ry⟩ := resK_at a r2 hl
      exact ⟨p, p2, ks, ds, xs, ls, es, ys, F, rfl, rfl, h1, h2, a.fz, l1.1, rx, q.1.1, l2.1, ry, q.1.2, kd F H M (.bl _) _ (Same.refl _) a rfl q.2⟩
    · exact q.elim
  · exact q.elim
theorem opd_eqK {k : Nat} (hr : Room k X.A) : OpD X (compareOp .Eq) (rEqKD id) := ⟨_, op_eqTV (by have := hr.un; omega), eqK_served id⟩
def dFrzN (i : Nat) (t : DS) : DS := fun D env M => match env[i]? with
  | some (some (.ref q)) => match M q with
    | some (.lst ds) => t D (env.set i (some (.lst ds))) (mdel M q)
    | some (.dct ks ds) => t D (env.set i (some (.dct ks ds))) (mdel M q)
    | some (.ins c ds) => t D (env.set i (some (.obj c ds))) (mdel M q)
    | some (.dkd w ks ds) => t D (env.set i (some (.dkd w ks ds))) (mdel M q)
    | _ => False
  | _ => False
theorem EnvR.reset {K : PySem.W.Frag} {F : Hp} {σ : L2.St} {env : DEnv} {i : Nat} {d : D} {v : V} (e : EnvR K F σ env) (hv : σ[i]? = some (some v)) (r : Rep K F d v) : EnvR K F σ (env.set i (some d)) := by
  refine ⟨by rw [List.length_set]; exact e.len, fun j g h => ?_⟩
  by_cases hj : i = j
  · subst hj
    rw [List.getElem?_set] at h
    rw [if_pos rfl] at h
    split at h
    · cases h; exact ⟨v, hv, r⟩
    · cases h
  · rw [List.getElem?_set_ne hj] at h
    exact e.get j g h
theorem ps_lock {st : Stmt} {t : TS} (h : PS X st t) : PS X st (fun D σ H => t D σ H ∨ ∃ d u, H d = some u ∧ Mut (some u) ∧ ∀ o, t D σ (upd H d (.frz o u))) := ⟨fun pins s σ H D I q => by
  rcases q with q | ⟨d, kvs, hd, mu, q⟩
  · exact h.run pins s σ H D I q
  · obtain ⟨od, I2⟩ := I.lock hd mu
    exact h.run pins s σ _ D I2 (q od)⟩
theorem pds_frz {st : Stmt} {t : DS} (i : Nat) (h : PDS X st t) : PDS X st (dFrzN i t) := ps_imp (ps_lock h) fun D σ H ⟨R, F, env, M, Dd, a, e, h, k⟩ => by
  unfold dFrzN at h
  split at h
  · rename_i q hq
    obtain ⟨v, hv, rv⟩ := e.get i _ hq
    cases (show v = V.ref q from rv)
    split at h
    · rename_i ds hm
      obtain ⟨u, ru, a2, s2⟩ := a.freeze hm
      obtain ⟨xs, rfl, rx⟩ := ru
      exact .inl ⟨R, _, _, _, Dd, a2, (e.mono s2).reset hv (d := .lst ds) ⟨q, xs, rfl, upd_same, rx.mono s2⟩, h, k.mono s2⟩
    · rename_i ks ds hm
      obtain ⟨_, u, hu, xs, rfl, l, rx⟩ := a.mu _ _ hm
      refine .inr ⟨q, _, hu, trivial, fun o => ?_⟩
      obtain ⟨a2, s2⟩ := a.freezeAs hm (.frz o (.dK (ks.zip xs)))
      exact ⟨R, _, _, _, Dd, a2, (e.mono s2).reset hv (d := .dct ks ds) ⟨q, o, xs, rfl, upd_same, l, rx.mono s2⟩, h, k.mono s2⟩
    · rename_i c ds hm
      obtain ⟨u, ru, a2, s2⟩ := a.freeze hm
      obtain ⟨dx, xs, rfl, l, rx⟩ := ru
      exact .inl ⟨R, _, _, _, Dd, a2, (e.mono s2).reset hv (d := .obj c ds) ⟨q, dx, xs, rfl, upd_same, l, rx.mono s2⟩, h, k.mono s2⟩
    · rename_i w ks ds hm
      obtain ⟨_, u, hu, Ls, rfl, l, r1, r2⟩ := a.mu _ _ hm
      refine .inr ⟨q, _, hu, trivial, fun o => ?_⟩
      obtain ⟨a2, s2⟩ := a.freezeAs hm (.frz o (DkO w q Ls))
      exact ⟨R, _, _, _, Dd, a2, (e.mono s2).reset hv (d := .dkd w ks ds) ⟨q, o, Ls, rfl, upd_same, l, r1.mono s2, r2.mono s2⟩, h, k.mono s2⟩
    · exact h.elim
  · exact h.elim
end
end L3
set_option Elab.async false
set_option linter.all false
set_option maxRecDepth 100000
set_option maxHeartbeats 1000000
namespace NS
open PySem PySem.Spec PyProof.Rows L2
def geo : Nat → Nat
  | 0 => 0
  | n + 1 => geo n * 5 + 1
theorem geo_pow : ∀ n, 5 ^ n = 4 * geo n + 1
  | 0 => rfl
  | n + 1 => by rw [Nat.pow_succ, geo_pow n]; show _ = 4 * (geo n * 5 + 1) + 1; omega
theorem geo_add (a : Nat) : ∀ b, geo (a + b) = geo a * 5 ^ b + geo b
  | 0 => by simp [geo]
  | b + 1 => by
    show geo (a + b) * 5 + 1 = geo a * 5 ^ (b + 1) + (geo b * 5 + 1)
    rw [geo_add a b, Nat.pow_succ, ← Nat.mul_assoc, Nat.add_mul]; omega
theorem geo_two : ∀ k, ∃ o, geo (2 ^ k) = 2 ^ k * (2 * o + 1)
  | 0 => ⟨0, rfl⟩
  | k + 1 => by
    obtain ⟨o, e⟩ := geo_two k
    refine ⟨2 * o * geo (2 ^ k) + o + geo (2 ^ k), ?_⟩
    have e1 : geo (2 ^ (k + 1)) = geo (2 ^ k) * (2 * (2 * geo (2 ^ k) + 1)) := by
      rw [Nat.pow_succ, Nat.mul_two, geo_add, geo_pow]
      generalize geo (2 ^ k) = g
      rw [Nat.mul_add, Nat.mul_add, Nat.mul_add]; simp [Nat.mul_assoc, Nat.mul_comm, Nat.mul_left_comm]; omega
    have e2 : 2 * (2 * o * geo (2 ^ k) + o + geo (2 ^ k)) + 1 = (2 * o + 1) * (2 * geo (2 ^ k) + 1) := by
      generalize geo (2 ^ k) = g
      rw [Nat.add_mul, Nat.mul_add]; simp [Nat.mul_assoc, Nat.mul_comm, Nat.mul_left_comm, Nat.mul_add]; omega
    rw [e1, e2, Nat.pow_succ]
    generalize geo (2 ^ k) = g at e
    generalize 2 ^ k = P at e
    calc g * (2 * (2 * g + 1)) = (P * (2 * o + 1)) * (2 * (2 * g + 1)) := by rw [← e]
      _ = P * 2 * ((2 * o + 1) * (2 * g + 1)) := by
        generalize 2 * o + 1 = x
        generalize 2 * g + 1 = y
        simp [Nat.mul_assoc, Nat.mul_comm, Nat.mul_left_comm]
theorem two_step {P a j : Nat} (hP : 0 < P) (hj : j < P * 2) (e : a % P = j % P) : a % (P * 2) = j ∨ (a + P) % (P * 2) = j := by
  have dj : j = j % P + P * (j / P % 2) := by
    conv => lhs; rw [← Nat.mod_eq_of_lt hj]
    exact Nat.mod_mul
  have q1 : (a + P) / P = a / P + 1 := Nat.add_div_right a hP
  have q2 : (a + P) % P = a % P := Nat.add_mod_right a P
  rcases Nat.decEq (a / P % 2) (j / P % 2) with c | c
  · right
    rw [Nat.mod_mul, q1, q2, e]
    have : (a / P + 1) % 2 = j / P % 2 := by omega
    rw [this]; exact dj.symm
  · left
    rw [Nat.mod_mul, e, c]; exact dj.symm
theorem geo_meets : ∀ k j, j < 2 ^ k → ∃ n, n < 2 ^ k ∧ geo n % 2 ^ k = j
  | 0, j, h => ⟨0, by decide, by simp at h; simp [geo, h]⟩
  | k + 1, j, h => by
    have hP : 0 < 2 ^ k := Nat.two_pow_pos k
    rw [Nat.pow_succ] at h
    obtain ⟨n, hn, e⟩ := geo_meets k (j % 2 ^ k) (Nat.mod_lt _ hP)
    rw [Nat.pow_succ]
    rcases two_step hP h e with z | z
    · exact ⟨n, by omega, z⟩
    · refine ⟨2 ^ k + n, by omega, ?_⟩
      obtain ⟨o, eo⟩ := geo_two k
      have e1 : geo (2 ^ k + n) = geo n + 2 ^ k + 2 ^ k * 2 * (4 * o * geo n + o + 2 * geo n) := by
        rw [geo_add, eo, geo_pow]
        generalize geo n = g
        generalize 2 ^ k = P
        have : (2 * o + 1) * (4 * g + 1) = 1 + 2 * (4 * o * g + o + 2 * g) := by
          rw [Nat.add_mul, Nat.mul_add]; simp [Nat.mul_assoc, Nat.mul_comm, Nat.mul_left_comm, Nat.mul_add]; omega
        rw [Nat.mul_assoc, this, Nat.mul_add, Nat.mul_one, ← Nat.mul_assoc]; omega
      rw [e1, Nat.add_mul_mod_self_left]; exact z
def MaskG (m : Nat) : Prop := m = 7 ∨ m = 31 ∨ m = 127 ∨ m = 511 ∨ m = 2047 ∨ m = 8191
theorem MaskG.two {m : Nat} (h : MaskG m) : ∃ k, m + 1 = 2 ^ k := by
  rcases h with rfl | rfl | rfl | rfl | rfl | rfl
  · exact ⟨3, rfl⟩
  · exact ⟨5, rfl⟩
  · exact ⟨7, rfl⟩
  · exact ⟨9, rfl⟩
  · exact ⟨11, rfl⟩
  · exact ⟨13, rfl⟩
theorem MaskG.odd {m : Nat} (h : MaskG m) : m % 2 = 1 := by rcases h with rfl | rfl | rfl | rfl | rfl | rfl <;> rfl
theorem MaskG.le {m : Nat} (h : MaskG m) : m ≤ 8191 := by rcases h with rfl | rfl | rfl | rfl | rfl | rfl <;> decide
theorem MaskG.pos {m : Nat} (h : MaskG m) : 7 ≤ m := by rcases h with rfl | rfl | rfl | rfl | rfl | rfl <;> decide
theorem orb_geo (m : Nat) : ∀ n, lcgN m n = geo n % (m + 1)
  | 0 => (Nat.zero_mod _).symm
  | n + 1 => by
    show (lcgN m n * 5 + 1) % (m + 1) = (geo n * 5 + 1) % (m + 1)
    rw [orb_geo m n, Nat.add_mod, Nat.mod_mul_mod, ← Nat.add_mod]
/-- from each slot the leaps come to each -/
theorem leaps_meet {m : Nat} (hm : MaskG m) {i j : Nat} (hi : i ≤ m) (hj : j ≤ m) : ∃ k, k ≤ m ∧ lcgI m i k = j := by
  obtain ⟨p, hp⟩ := hm.two
  obtain ⟨a, ha, ea⟩ := geo_meets p i (by omega)
  obtain ⟨b, hb, eb⟩ := geo_meets p j (by omega)
  rw [← hp] at ha hb ea eb
  have from_ : ∀ k, lcgI m i k = geo (a + k) % (m + 1) := fun k => by rw [← orb_geo, ← lcgN_add, orb_geo, ea]
  by_cases c : a ≤ b
  · exact ⟨b - a, by omega, by rw [from_, Nat.add_sub_cancel' c]; exact eb⟩
  · refine ⟨b + (m + 1) - a, by omega, ?_⟩
    obtain ⟨o, eo⟩ := geo_two p
    rw [from_, show a + (b + (m + 1) - a) = (m + 1) + b by omega, geo_add, hp, eo, Nat.mul_assoc, Nat.mul_add_mod, ← hp]
    exact eb
/-- the run that begins at a slot comes early enough -/
theorem runs_meet {m : Nat} (hm : MaskG m) (h : Int) {j : Nat} (hj : j ≤ m) : ∃ n, n ≤ m + 12 ∧ runI m (SetTable.bits h) n = j := by
  obtain ⟨k, h1, h2⟩ := leaps_meet hm (runI_le m (SetTable.bits h) 12) hj
  exact ⟨12 + k, by omega, (runI_tail (bits_lt h) k).trans h2⟩
theorem way_in {m : Nat} (h : Int) (n : Nat) : way m h n ≤ m := by
  have s : SetTable.bits h % (m + 1) ≤ m := Nat.le_of_lt_succ (Nat.mod_lt _ (Nat.succ_pos m))
  have := nth_in (m := m) n (runAt m (SetTable.bits h % (m + 1)) (SetTable.bits h)) (by
    have := runEnd_bd s
    show SetTable.bits h % (m + 1) + (SetTable.runEnd m (SetTable.bits h % (m + 1)) - SetTable.bits h % (m + 1)) ≤ m
    omega)
  show (nth m _ n).j ≤ m
  omega
theorem way_meets {m : Nat} (hm : MaskG m) (h : Int) {j : Nat} (hj : j ≤ m) : ∃ k, k < 10 * SetTable.turns m ∧ way m h k = j := by
  obtain ⟨n, h1, h2⟩ := runs_meet hm h hj
  obtain ⟨k, h3, h4⟩ := run_nth m (SetTable.bits h) n
  refine ⟨k, ?_, by show (nth m _ k).j = j; rw [h4]; exact h2⟩
  show k < 10 * (m + 15)
  omega
structure TabG (t : SetTable) (hs : List Int) : Prop where
  ris : Ris t.place.toList
  dm : t.dummies = #[]
  sz : t.place.size = hs.length
  mok : MaskG t.mask
  bd : ∀ x ∈ t.place.toList, x ≤ t.mask
  found : ∀ q ∈ hs.zip t.place.toList, ∃ n, way t.mask q.1 n = q.2 ∧ ∀ n', n' < n → way t.mask q.1 n' ∈ t.place.toList
section
variable {t : SetTable} {hs : List Int}
theorem TabG.len (T : TabG t hs) : t.place.toList.length = hs.length := T.sz
theorem TabG.first (T : TabG t hs) (hl : hs.length ≤ t.mask) (h : Int) : ∃ N, N < 10 * SetTable.turns t.mask ∧ way t.mask h N ∉ t.place.toList ∧ ∀ n, n < N → way t.mask h n ∈ t.place.toList := by
  obtain ⟨j, hj, out⟩ := st_missing t.place.toList (t.mask + 1) (by rw [T.len]; omega)
  obtain ⟨k, hk, e⟩ := way_meets T.mok h (Nat.le_of_lt_succ hj)
  subst e
  obtain ⟨N, h1, h2, h3⟩ := st_least (p := fun n => way t.mask h n ∉ t.place.toList) k out
  exact ⟨N, Nat.lt_of_le_of_lt h1 hk, h2, fun n hn => Decidable.of_not_not (h3 n hn)⟩
theorem TabG.before (T : TabG t hs) {h : Int} {N i j : Nat} (free : way t.mask h N ∉ t.place.toList) (hi : hs[i]? = some h) (hj : t.place.toList[i]? = some j) : ∃ n, n < N ∧ way t.mask h n = j := by
  have mem : (h, j) ∈ hs.zip t.place.toList := List.mem_iff_getElem?.mpr ⟨i, List.getElem?_zip_eq_some.mpr ⟨hi, hj⟩⟩
  obtain ⟨n, e, b⟩ := T.found _ mem
  refine ⟨n, Decidable.byContradiction fun c => ?_, e⟩
  by_cases c2 : n = N
  · subst c2; rw [e] at free; exact free (List.mem_of_getElem? hj)
  · exact free (b N (by omega))
theorem TabG.put (T : TabG t hs) {h : Int} {N : Nat} (free : way t.mask h N ∉ t.place.toList) (full : ∀ n, n < N → way t.mask h n ∈ t.place.toList) :
    (t.put (way t.mask h N)).2 = SetTable.below t.place (way t.mask h N) ∧ SetTable.below t.place (way t.mask h N) ≤ hs.length ∧
    TabG (t.put (way t.mask h N)).1 (hs.take (SetTable.below t.place (way t.mask h N)) ++ h :: hs.drop (SetTable.below t.place (way t.mask h N))) ∧
    (t.put (way t.mask h N)).1.mask = t.mask ∧ (t.put (way t.mask h N)).1.led = t.led := by
  generalize hj : way t.mask h N = j at free
  have jm : j ≤ t.mask := hj ▸ way_in h N
  have cut := (below_cut T.ris j).1
  generalize hp : SetTable.below t.place j = p at cut
  have pl : p ≤ hs.length := by rw [← T.sz]; exact cut
  have ep : (t.put j).1.place.toList = t.place.toList.take p ++ j :: t.place.toList.drop p := by rw [put_place, hp]
  have more : ∀ x, x ∈ t.place.toList → x ∈ (t.put j).1.place.toList := fun x hx => by rw [ep]; exact mem_ins.mpr (.inr hx)
  refine ⟨hp, pl, ⟨?_, put_dm T.dm j, ?_, T.mok, fun x hx => ?_, fun q hq => ?_⟩, rfl, rfl⟩
  · exact ris_insert T.ris fun e => free (List.mem_of_getElem? (i := SetTable.below t.place j) (by rw [Array.getElem?_toList]; exact e))
  · rw [← Array.length_toList, ep, len_ins _ (by rw [T.len]; exact pl), len_ins _ pl, T.len]
  · rw [ep] at hx
    rcases mem_ins.mp hx with rfl | hx
    · exact jm
    · exact T.bd x hx
  · rw [ep, List.zip_append (by rw [List.length_take, List.length_take, T.len]), List.zip_cons_cons] at hq
    have : q = (h, j) ∨ q ∈ hs.zip t.place.toList := by
      rcases List.mem_append.mp hq with z | z
      · right
        exact List.mem_of_mem_take (i := p) (by rw [List.zip, List.take_zipWith]; exact z)
      · rcases List.mem_cons.mp z with z | z
        · exact .inl z
        · exact .inr (List.mem_of_mem_drop (i := p) (by rw [List.zip, List.drop_zipWith]; exact z))
    rcases this with rfl | z
    · exact ⟨N, hj, fun n hn => more _ (full n hn)⟩
    · obtain ⟨n, e, b⟩ := T.found q z
      exact ⟨n, e, fun n' hn' => more _ (b n' hn')⟩
end
/-- a free slot is found: the first on the way -/
theorem free_on {m : Nat} (hm : MaskG m) (owner : Array (Option Nat)) (h : Int) {j : Nat} (hj : j ≤ m) (he : oAt owner j = none) :
    ∃ N, SetTable.layClean.free m owner (SetTable.turns m) (SetTable.bits h % (m + 1)) (SetTable.bits h) = some (way m h N) ∧ oAt owner (way m h N) = none ∧ ∀ n, n < N → oAt owner (way m h n) ≠ none := by
  obtain ⟨r, hr, e⟩ := runs_meet hm h hj
  have at_ : way m h (off m (SetTable.bits h % (m + 1)) (SetTable.bits h) r) = j := by
    show (nth m _ _).j = j
    rw [nth_off, itL_run]; exact e
  obtain ⟨N, n1, n2, n3⟩ := st_least (p := fun n => oAt owner (way m h n) = none) _ (by show oAt owner (way m h _) = none; rw [at_]; exact he)
  have occ : ∀ n, n < N → (oAt owner (way m h n)).isNone = false := fun n hn => by
    have := n3 n hn
    cases z : oAt owner (way m h n) with
    | none => exact absurd z this
    | some _ => rfl
  exact ⟨N, free_spec m owner _ r _ _ N (by show r < m + 15; omega) n1 occ (by rw [n2]; rfl), n2, n3⟩
theorem own_more {m : Nat} (hm : MaskG m) {done : List Int} {owner : Array (Option Nat)} (W : Own m done owner) (few : done.length ≤ m) (h : Int) :
    ∃ j, SetTable.layClean.free m owner (SetTable.turns m) (SetTable.bits h % (m + 1)) (SetTable.bits h) = some j ∧ Own m (done ++ [h]) (owner.setIfInBounds j (some done.length)) := by
  obtain ⟨ps, lps, inps⟩ := W.ps
  obtain ⟨j0, l0, n0⟩ := st_missing ps (m + 1) (by rw [lps]; omega)
  have e0 : oAt owner j0 = none := Decidable.byContradiction fun c => n0 (inps j0 (Nat.le_of_lt_succ l0) c)
  obtain ⟨N, told, here, full⟩ := free_on hm owner h (Nat.le_of_lt_succ l0) e0
  have inb := way_in (m := m) h N
  generalize hw : way m h N = j at told here inb
  have new : oAt (owner.setIfInBounds j (some done.length)) j = some done.length := oAt_set_self _ (by rw [W.sz]; omega)
  have old : ∀ i, i ≠ j → oAt (owner.setIfInBounds j (some done.length)) i = oAt owner i := fun i hi => oAt_set_ne _ hi
  have still : ∀ i, oAt owner i ≠ none → oAt (owner.setIfInBounds j (some done.length)) i ≠ none := fun i hi => by rw [old i fun e => hi (e ▸ here)]; exact hi
  refine ⟨j, told, ⟨by rw [Array.size_setIfInBounds]; exact W.sz, fun i k hi e => ?_, fun k hk => ?_, j :: ps, by simp [lps], fun i hi e => ?_⟩⟩
  · by_cases c : i = j
    · subst c
      rw [new] at e; cases e
      exact ⟨h, N, by simp, hw, fun n hn => still _ (full n hn)⟩
    · rw [old i c] at e
      obtain ⟨h', n, a1, a2, a3⟩ := W.at_ i k hi e
      have lt := (List.getElem?_eq_some_iff.mp a1).1
      exact ⟨h', n, by rw [List.getElem?_append_left lt]; exact a1, a2, fun n' hn' => still _ (a3 n' hn')⟩
  · rcases Nat.lt_or_ge k done.length with c | c
    · obtain ⟨i, hi, e⟩ := W.all k c
      exact ⟨i, hi, by rw [old i fun z => by rw [z, here] at e; cases e]; exact e⟩
    · have : k = done.length := by simp at hk; omega
      subst this; exact ⟨j, inb, new⟩
  · by_cases c : i = j
    · subst c; exact List.mem_cons_self
    · rw [old i c] at e; exact List.mem_cons_of_mem _ (inps i hi e)
theorem lay_rest {m : Nat} (hm : MaskG m) : ∀ (rest done : List Int) (owner : Array (Option Nat)), Own m done owner → done.length + rest.length ≤ m →
    ∃ own2, (rest.foldl (stepF m) (some (owner, done.length))).map (·.1) = some own2 ∧ Own m (done ++ rest) own2 := by
  intro rest
  induction rest with
  | nil => intro done owner W _; exact ⟨owner, rfl, by rw [List.append_nil]; exact W⟩
  | cons h rest ih =>
    intro done owner W few
    simp only [List.length_cons] at few
    obtain ⟨j, told, W2⟩ := own_more hm W (by omega) h
    have l1 : (done ++ [h]).length = done.length + 1 := by simp
    obtain ⟨own2, e, W3⟩ := ih (done ++ [h]) _ W2 (by omega)
    refine ⟨own2, ?_, by rw [← List.append_cons] at W3; exact W3⟩
    rw [List.foldl_cons, stepF_some told, ← l1]; exact e
theorem lay_all {m : Nat} (hm : MaskG m) {hs : Array Int} (few : hs.size ≤ m) : ∃ owner, SetTable.layClean m hs = some owner ∧ Own m hs.toList owner := by
  rw [layClean_eq]
  exact lay_rest hm hs.toList [] _ (Own.init m) (by simpa using few)
theorem laid_anew (t : SetTable) {hs : Array Int} {want M : Nat} (hw : SetTable.sizeAbove want - 1 = M) (hM : MaskG M) (few : hs.size ≤ M) :
    ∃ t' ord, t.relaid hs want = some (t', ord) ∧ ord.toList.Perm (List.range hs.size) ∧ TabG t' (ord.toList.map fun i => hs.getD i 0) ∧ t'.mask = M ∧ t'.led = t.led := by
  obtain ⟨owner, e, W⟩ := lay_all hM few
  have told := relaid_eq t hs want
  rw [hw, e] at told
  have risen := ris_live (fun j => owner.getD j none) (List.range (M + 1)) List.pairwise_lt_range
  have mem : ∀ q, q ∈ liveOf M owner → q.1 ≤ M ∧ oAt owner q.1 = some q.2 := fun q hq => (mem_live W.sz).mp hq
  have each : ∀ k, k < hs.size → k ∈ (liveOf M owner).map (·.2) := fun k hk => by
    obtain ⟨j, hj, z⟩ := W.all k hk
    exact List.mem_map.mpr ⟨(j, k), (mem_live W.sz).mpr ⟨hj, z⟩, rfl⟩
  have len : (liveOf M owner).length = hs.size := by
    obtain ⟨ps, lps, inps⟩ := W.ps
    have up := nat_nodup_len ((liveOf M owner).map fun q : Nat × Nat => q.1) ps (risen.1.imp fun z => Nat.ne_of_lt z) fun x hx => by
      obtain ⟨q, hq, rfl⟩ := List.mem_map.mp hx
      exact inps _ (mem q hq).1 (by rw [(mem q hq).2]; exact fun z => nomatch z)
    have dn := nat_nodup_len (List.range hs.size) ((liveOf M owner).map fun q : Nat × Nat => q.2) List.nodup_range fun k hk => each k (List.mem_range.mp hk)
    rw [List.length_map, lps, Array.length_toList] at up
    rw [List.length_map, List.length_range] at dn
    exact Nat.le_antisymm up dn
  refine ⟨_, _, told, perm_range hs.size _ (by simpa using len) each, ⟨risen.1, rfl, by simp [tabOf], hM, fun x hx => ?_, fun q hq => ?_⟩, rfl, rfl⟩
  · obtain ⟨q, hq, rfl⟩ := List.mem_map.mp (show x ∈ (liveOf M owner).map (·.1) from hx)
    exact (mem q hq).1
  · rw [show (tabOf t M owner).place.toList = (liveOf M owner).map (·.1) from rfl, show (((liveOf M owner).map (·.2)).toArray.toList.map fun i => hs.getD i 0) = (liveOf M owner).map fun r => hs.getD r.2 0 by simp, List.zip_map'] at hq
    obtain ⟨r, hr, rfl⟩ := List.mem_map.mp hq
    obtain ⟨z1, z2⟩ := mem r hr
    obtain ⟨h, n, a1, a2, a3⟩ := W.at_ r.1 r.2 z1 z2
    have eh : hs.getD r.2 0 = h := by rw [Array.getD_eq_getD_getElem?, ← Array.getElem?_toList, a1]; rfl
    dsimp only
    rw [eh]
    refine ⟨n, a2, fun n' hn' => ?_⟩
    show way M h n' ∈ (liveOf M owner).map (·.1)
    cases z : oAt owner (way M h n') with
    | none => exact absurd z (a3 n' hn')
    | some k => exact List.mem_map.mpr ⟨(_, k), (mem_live W.sz).mpr ⟨way_in h n', z⟩, rfl⟩
theorem size_of_5 : SetTable.sizeAbove (SetTable.grown 5) = 32 := by decide +kernel
theorem size_of_19 : SetTable.sizeAbove (SetTable.grown 19) = 128 := by decide +kernel
theorem size_of_77 : SetTable.sizeAbove (SetTable.grown 77) = 512 := by decide +kernel
theorem size_of_307 : SetTable.sizeAbove (SetTable.grown 307) = 2048 := by decide +kernel
theorem size_of_1229 : SetTable.sizeAbove (SetTable.grown 1229) = 8192 := by decide +kernel
end NS
set_option Elab.async false
set_option linter.all false
set_option maxRecDepth 100000
set_option maxHeartbeats 1000000
namespace NS
open PySem PySem.Spec PyProof.Rows L2
section
variable {P : Program} {w : World}
/-- what a look at a key tells, whoever asks -/
abbrev Tells (P : Program) (w : World) (s : Shared) (m : Sem Bool) (b : Bool) : Prop := ∀ (A : Around) (E : Value → Shared → Prop) (Q : Bool → Shared → Prop), Q b s → wpAny (model P w) A m Q E s
/-- .. or one of both -/
abbrev TellsAny (P : Program) (w : World) (s : Shared) (m : Sem Bool) : Prop := ∀ (A : Around) (E : Value → Shared → Prop) (Q : Bool → Shared → Prop), (∀ b, Q b s) → wpAny (model P w) A m Q E s
theorem cls_tup {n : Nat} {s : Shared} {a : Addr} {o : Obj} {vs : Array Value} {m : Nat} (ho : s.heap.get? a = some o) (hc : o.cls = .type "tuple") (hd : o.data = .seq vs m) (hq : ∀ v ∈ vs.toList, Tells P w s (ofAClassStatement n v) false) :
    Tells P w s (ofAClassStatement (n + 1) (.ref a)) false := fun A E Q h => by
  have ty : s.TypeIs (.ref a) "tuple" := ⟨o, ho, hc⟩
  unfold ofAClassStatement
  refine wpAny_bind (wpAny_typeOf ty ?_)
  have et : ("tuple" == "tuple") = true := by decide
  simp only [et, if_true, Bool.not_true, Bool.false_eq_true, if_false]
  try refine wpAny_bind (wpAny_pure ?_)
  try simp only [Bool.not_true, Bool.false_eq_true, if_false]
  refine wpAny_bind (m := seqItems? (.ref a)) (wpAny_seqItems ho hd ?_)
  refine wpAny_bind ?_
  show wpAny _ _ (forIn vs _ _) _ _ s
  rw [← Array.forIn_toList]
  exact wpAny_forIn_list _ (fun left acc s1 => acc.1 = none ∧ s1 = s ∧ ∀ v ∈ left, Tells P w s (ofAClassStatement n v) false) _ (fun v left acc s1 ⟨h1, h2, h3⟩ => by
    subst h2
    refine wpAny_bind (h3 v List.mem_cons_self _ _ _ ?_)
    simp only [Bool.false_eq_true, if_false]
    exact wpAny_pure ⟨rfl, rfl, fun u hu => h3 u (List.mem_cons_of_mem _ hu)⟩) (fun ⟨a1, a2⟩ s1 ⟨h1, h2, _⟩ => by
    simp only at h1
    subst h1 h2
    exact wpAny_pure h) _ _ ⟨rfl, rfl, hq⟩
theorem hby_tup {n : Nat} {s : Shared} {a : Addr} {o : Obj} {vs : Array Value} {m : Nat} (ho : s.heap.get? a = some o) (hc : o.cls = .type "tuple") (hd : o.data = .seq vs m) (hq : ∀ v ∈ vs.toList, TellsAny P w s (hashByValue n v)) :
    TellsAny P w s (hashByValue (n + 1) (.ref a)) := fun A E Q h => by
  have ty : s.TypeIs (.ref a) "tuple" := ⟨o, ho, hc⟩
  unfold hashByValue
  refine wpAny_bind (wpAny_specialOf ty F.slot_tuple_hash.lookup ?_)
  refine wpAny_bind (m := seqItems? (.ref a)) (wpAny_seqItems ho hd ?_)
  refine wpAny_bind ?_
  show wpAny _ _ (forIn vs _ _) _ _ s
  rw [← Array.forIn_toList]
  refine wpAny_forIn_list _ (fun left acc s1 => acc.1 = none ∧ s1 = s ∧ ∀ v ∈ left, TellsAny P w s (hashByValue n v)) _ (fun v left acc s1 ⟨h1, h2, h3⟩ => ?_) (fun ⟨a1, a2⟩ s1 ⟨h1, h2, _⟩ => ?_) _ _ ⟨rfl, rfl, hq⟩
  · subst h2
    refine wpAny_bind (h3 v List.mem_cons_self _ _ _ fun b => ?_)
    cases b with
    | true =>
      simp only [Bool.not_true, Bool.false_eq_true, if_false]
      exact wpAny_pure ⟨rfl, rfl, fun u hu => h3 u (List.mem_cons_of_mem _ hu)⟩
    | false =>
      simp only [Bool.not_false, if_true]
      exact wpAny_pure (wpAny_pure (h false))
  · simp only at h1
    subst h1 h2
    exact wpAny_pure (h true)
mutual
theorem cls_key : ∀ (k : NestedKey) (v : Value) (n : Nat) (s : Shared), NestedIs s.heap k v → k.depth ≤ n → Tells P w s (ofAClassStatement n v) false
  | .none, _, n, s, x, _ => by cases x; intro A E Q h; cases n <;> exact wpAny_pure h
  | .num i, _, n, s, x, _ => by cases x <;> (intro A E Q h; cases n <;> exact wpAny_pure h)
  | .text y, _, n, s, x, _ => by cases x; intro A E Q h; cases n <;> exact wpAny_pure h
  | .tup ks, _, n, s, x, hn => by
    cases x with
    | tup hg hc hd hk =>
      simp only [NestedKey.depth] at hn
      cases n with
      | zero => omega
      | succ n => exact cls_tup hg hc hd (cls_keys ks _ n s hk (by omega))
theorem cls_keys : ∀ (ks : List NestedKey) (vs : List Value) (n : Nat) (s : Shared), NestedAll s.heap ks vs → NestedKey.depthAll ks ≤ n → ∀ v ∈ vs, Tells P w s (ofAClassStatement n v) false
  | [], _, n, s, x, _, v, hv => by cases x; cases hv
  | k :: ks, _, n, s, x, hn, v, hv => by
    cases x with
    | cons x1 x2 =>
      simp only [NestedKey.depthAll] at hn
      rcases List.mem_cons.mp hv with e | hv
      · subst e; exact cls_key k _ n s x1 (by omega)
      · exact cls_keys ks _ n s x2 (by omega) v hv
end
mutual
theorem hby_key : ∀ (k : NestedKey) (v : Value) (n : Nat) (s : Shared), NestedIs s.heap k v → k.depth ≤ n → TellsAny P w s (hashByValue n v)
  | .none, _, n, s, x, _ => by cases x; intro A E Q h; cases n <;> exact wpAny_pure (h _)
  | .num i, _, n, s, x, _ => by cases x <;> (intro A E Q h; cases n <;> exact wpAny_pure (h _))
  | .text y, _, n, s, x, _ => by cases x; intro A E Q h; cases n <;> exact wpAny_pure (h _)
  | .tup ks, _, n, s, x, hn => by
    cases x with
    | tup hg hc hd hk =>
      simp only [NestedKey.depth] at hn
      cases n with
      | zero => omega
      | succ n => exact hby_tup hg hc hd (hby_keys ks _ n s hk (by omega))
theorem hby_keys : ∀ (ks : List NestedKey) (vs : List Value) (n : Nat) (s : Shared), NestedAll s.heap ks vs → NestedKey.depthAll ks ≤ n → ∀ v ∈ vs, TellsAny P w s (hashByValue n v)
  | [], _, n, s, x, _, v, hv => by cases x; cases hv
  | k :: ks, _, n, s, x, hn, v, hv => by
    cases x with
    | cons x1 x2 =>
      simp only [NestedKey.depthAll] at hn
      rcases List.mem_cons.mp hv with e | hv
      · subst e; exact hby_key k _ n s x1 (by omega)
      · exact hby_keys ks _ n s x2 (by omega) v hv
end
/-- the tuple at b is the key k -/
structure Kat (h : Heap) (k : NestedKey) (b : Addr) : Prop where
  is : NestedIs h k (.ref b)
  dp : k.depth ≤ 8
theorem Kat.keep {h h' : Heap} {k : NestedKey} {b : Addr} (x : Kat h k b) (hk : ∀ c o, h.get? c = some o → h'.get? c = some o) : Kat h' k b := ⟨x.is.at (fun a o _ _ e _ => hk a o e) k _ , x.dp⟩
theorem Kat.but {h h' : Heap} {k : NestedKey} {a b : Addr} {o : Obj} {es : Array (Int × Value)} {ep : Nat} {t : SetTable} (x : Kat h k b) (ho : h.get? a = some o) (hd : o.data = .set es ep t) (hs : Heap.SameBut a h h') : Kat h' k b :=
  ⟨NestedIs.at (fun c u vs n e1 e2 => (hs.2 c fun e => by
    subst e
    rw [ho] at e1
    cases e1
    rw [hd] at e2
    cases e2).trans e1) k _ x.is, x.dp⟩
theorem Kat.eq {s : Shared} {x y : NestedKey} {a b : Addr} {A : Around} {E : Value → Shared → Prop} {Q : Bool → Shared → Prop} (hu : A.units + 8 < cLine) (hx : Kat s.heap x a) (hy : Kat s.heap y b) (h : Q (decide (x = y)) s) : wpAny (model P w) A (eqBool (.ref a) (.ref b)) Q E s :=
  (nestedKind P w).eqBool hu ⟨hx.is, hx.dp⟩ ⟨hy.is, hy.dp⟩ h
/-- a search among such tuples shows nothing -/
theorem seen_none {s : Shared} {k : NestedKey} {b : Addr} {A : Around} {E : Value → Shared → Prop} {Q : Bool → Shared → Prop} (hk : Kat s.heap k b) {ys : List Value} (hy : ∀ y ∈ ys, ∃ k' c, y = Value.ref c ∧ Kat s.heap k' c) (h : Q false s) :
    wpAny (model P w) A (searchCouldBeSeen (.ref b) ys) Q E s := by
  unfold searchCouldBeSeen
  refine wpAny_bind (wpAny_forIn_list _ (fun left acc s1 => acc.1 = none ∧ s1 = s ∧ ∀ y ∈ left, ∃ k' c, y = Value.ref c ∧ Kat s.heap k' c) _ (fun v left acc s1 ⟨h1, h2, h3⟩ => ?_) (fun ⟨a1, a2⟩ s1 ⟨h1, h2, _⟩ => ?_) _ _ ⟨rfl, rfl, hy⟩)
  · subst h2
    obtain ⟨k', c, e, hc⟩ := h3 v List.mem_cons_self
    subst e
    have next := fun u hu => h3 u (List.mem_cons_of_mem _ hu)
    dsimp only
    by_cases same : (b == c || (carriedByValue (.ref b) && carriedByValue (.ref c))) = true
    · exact wp_if_pos same (wpAny_pure ⟨rfl, rfl, next⟩)
    refine wp_if_neg same (wpAny_bind ((nestedKind P w).quiet ⟨hk.is, hk.dp⟩ ?_))
    simp only [Bool.not_true, Bool.false_eq_true, if_false]
    refine wpAny_bind ((nestedKind P w).quiet ⟨hc.is, hc.dp⟩ ?_)
    simp only [Bool.not_true, Bool.false_eq_true, if_false]
    refine wpAny_bind (cls_key k _ 8 _ hk.is hk.dp _ _ _ ?_)
    simp only [Bool.false_eq_true, if_false]
    refine wpAny_bind (cls_key k' _ 8 _ hc.is hc.dp _ _ _ ?_)
    simp only [Bool.false_eq_true, if_false]
    exact wpAny_pure ⟨rfl, rfl, next⟩
  · simp only at h1
    subst h1 h2
    exact wpAny_pure h
end
section
variable {P : Program} {w : World}
/-- the rows of the set, by the keys at their addresses -/
def rowsN (w : World) (L : List (Addr × NestedKey)) : List (Int × Value) := L.map fun r => (r.2.hash w, Value.ref r.1)
abbrev hsN (w : World) (L : List (Addr × NestedKey)) : List Int := L.map fun r => r.2.hash w
structure NSet (w : World) (h : Heap) (a : Addr) (L : List (Addr × NestedKey)) (es : Array (Int × Value)) (ep : Nat) (t : SetTable) : Prop where
  obj : ∃ o, h.get? a = some o ∧ o.ExactSet ∧ o.data = .set es ep t
  row : es.toList = rowsN w L
  tb : TabG t (hsN w L)
  uniq : (L.map (·.2)).Nodup
  key : ∀ r ∈ L, Kat h r.2 r.1
  led : w.params.followText "set-order" = true ∨ t.led = true
  free : L.length * 5 < t.mask * 3
  few : L.length < 4096
section
variable {s : Shared} {a : Addr} {L : List (Addr × NestedKey)} {es : Array (Int × Value)} {ep : Nat} {t : SetTable}
theorem rows_len (e : es.toList = rowsN w L) : es.size = L.length := by
  rw [← Array.length_toList, e]; unfold rowsN; exact List.length_map ..
theorem NSet.fit (S : NSet w s.heap a L es ep t) : t.fits es.size = true := by
  have z := S.tb.sz
  rw [List.length_map] at z
  have f := S.free
  rw [rows_len S.row]
  unfold SetTable.fits SetTable.fill
  rw [S.tb.dm, Bool.and_eq_true, beq_iff_eq, decide_eq_true_eq]
  refine ⟨z, ?_⟩
  show t.place.size + 0 ≤ t.mask
  omega
theorem NSet.get (S : NSet w s.heap a L es ep t) {i : Nat} {r : Addr × NestedKey} (e : L[i]? = some r) : es[i]? = some (r.2.hash w, Value.ref r.1) := by
  rw [← Array.getElem?_toList, S.row, rowsN, List.getElem?_map, e]; rfl
/-- the probe behind c steps -/
abbrev prb (m : Nat) (h : Int) (c : Nat) : SetTable.Probe := nth m (runAt m (SetTable.bits h % (m + 1)) (SetTable.bits h)) c
theorem prb_add (m : Nat) (h : Int) (c q : Nat) : nth m (prb m h c) q = prb m h (c + q) := (nth_add m c _ q).symm
theorem nodummy (m : Nat) : ∀ (n : Nat) (p : SetTable.Probe), p.dummy = none → (nth m p n).dummy = none
  | 0, _, e => e
  | n + 1, p, e => nodummy m n (adv m p) (by unfold adv; split <;> exact e)
theorem search_on {A : Around} {E : Value → Shared → Prop} (S : NSet w s.heap a L es ep t) {x : Addr} {k : NestedKey} (hx : Kat s.heap k x) (hu : A.units + 8 < cLine) {N : Nat} (hN : N < 10 * SetTable.turns t.mask)
    (hend : way t.mask (k.hash w) N ∉ t.place.toList) (hbef : ∀ c, c < N → way t.mask (k.hash w) c ∈ t.place.toList) {Q : SetFound → Shared → Prop}
    (yes : k ∈ L.map (·.2) → Q (.there none) s) (no : k ∉ L.map (·.2) → Q (.free (way t.mask (k.hash w) N) false) s) :
    ∀ (f c : Nat) (stand : Option SetTable.Probe), stand.getD (t.probeStart (k.hash w)) = prb t.mask (k.hash w) c → c ≤ N → N - c < f →
      (∀ (i : Nat) r, L[i]? = some r → r.2 = k → ∃ c', c ≤ c' ∧ c' < N ∧ t.place.toList[i]? = some (way t.mask (k.hash w) c')) →
      wpAny (model P w) A (setSearchFrom a (.ref x) (k.hash w) true f stand) Q E s := by
  obtain ⟨o, ho, hex, hd⟩ := S.obj
  generalize hh : k.hash w = kh at *
  intro f
  induction f with
  | zero => intro c stand _ _ z _; omega
  | succ f again =>
    intro c stand hst hc hf later
    rw [setSearchFrom_succ]
    refine wpAny_bind (wpAny_setState_of ho hd S.fit ?_)
    dsimp only
    have hgw : ¬ t.gaveWay = true := by unfold SetTable.gaveWay; rw [S.tb.mok.odd]; decide
    refine wp_if_neg hgw ?_
    try refine wpAny_bind (wpAny_pure ?_)
    have here : ∀ q, (nth t.mask (prb t.mask kh c) q).j = way t.mask kh (c + q) := fun q => congrArg SetTable.Probe.j (prb_add t.mask kh c q)
    have atN : c + (N - c) = N := by omega
    have told := go_spec t S.tb.ris S.tb.dm (fun i => (es[i]?.map (·.1)).getD 0) kh (10 * SetTable.turns t.mask) (N - c) _ (nodummy t.mask c (runAt t.mask (SetTable.bits kh % (t.mask + 1)) (SetTable.bits kh)) rfl) (by omega)
      (fun q hq => by rw [here]; exact hbef _ (by omega)) (by rw [here, atN]; exact hend)
    have hashOf : ∀ (i : Nat) r, L[i]? = some r → (es[i]?.map (·.1)).getD 0 = r.2.hash w := fun i r e => by rw [S.get e]; rfl
    rcases told with ⟨q, i, hq, hi, _, before, told⟩ | ⟨before, told⟩
    · -- one of equal hash stands there
      have told' : t.probe (fun i => (es[i]?.map (·.1)).getD 0) kh (stand.getD (t.probeStart kh)) = some (.candidate (way t.mask kh (c + q)) i (prb t.mask kh (c + (q + 1)))) := by rw [hst, ← here, ← prb_add]; exact told
      rw [told']
      dsimp only
      rw [here] at hi
      have hiL : i < L.length := by
        have z1 := (List.getElem?_eq_some_iff.mp hi).1
        have z2 := S.tb.sz
        rw [List.length_map] at z2
        rw [Array.length_toList] at z1
        omega
      obtain ⟨r, hr⟩ : ∃ r, L[i]? = some r := ⟨_, List.getElem?_eq_getElem hiL⟩
      have hrm := List.mem_of_getElem? hr
      have slot := slot_live S.tb.ris hi
      have go : wpAny (model P w) A (searchRest a (.ref x) kh true f es t (way t.mask kh (c + q)) i (prb t.mask kh (c + (q + 1)))) Q E s := by
        unfold searchRest
        rw [S.get hr]
        dsimp only
        refine wpAny_bind (wpAny_holding (Kat.eq hu (S.key r hrm) hx (wpAny_bind (wpAny_setState_of ho hd S.fit ?_))))
        dsimp only
        by_cases hrk : r.2 = k
        · exact wp_if_pos (by simp [hrk]) (wpAny_pure (yes (List.mem_map.mpr ⟨r, hrm, hrk⟩)))
        refine wp_if_neg (by simp [hrk]) ?_
        try refine wpAny_bind (wpAny_pure ?_)
        rw [sameMem]
        dsimp only
        simp only [if_true, slot, S.get hr]
        refine wpAny_bind (wpAny_isSame_ref_self (wpAny_bind (wpAny_pure ?_)))
        simp only [if_true]
        refine wp_if_neg (by simp [hrk]) (again (c + (q + 1)) _ rfl (by omega) (by omega) fun i' r' hr' hk' => ?_)
        obtain ⟨c', z1, z2, z3⟩ := later i' r' hr' hk'
        refine ⟨c', ?_, z2, z3⟩
        rcases Nat.lt_trichotomy c' (c + q) with y | y | y
        · refine absurd ((hashOf i' r' hr').trans (by rw [hk']; exact hh)) (before (c' - c) i' (by omega) ?_)
          rw [here, show c + (c' - c) = c' by omega]; exact z3
        · rw [y] at z3
          have e := slot_live S.tb.ris z3
          rw [slot] at e
          injection e with e
          rw [← e, hr] at hr'
          exact absurd ((congrArg Prod.snd (Option.some.inj hr')).trans hk') hrk
        · omega
      by_cases hl : t.led = true
      · refine wp_if_neg (by simp [hl]) ?_
        try refine wpAny_bind (wpAny_pure ?_)
        exact go
      · refine wp_if_pos (by simp [hl]) (wpAny_bind (seen_none hx (fun y hy => ?_) ?_))
        · obtain ⟨e, he, rfl⟩ := List.mem_map.mp hy
          have he' : e ∈ es.toList := by
            have : e ∈ es ∧ e.1 = kh := by simpa using he
            simpa using this.1
          rw [S.row] at he'
          obtain ⟨r2, hr2, rfl⟩ := List.mem_map.mp he'
          exact ⟨r2.2, r2.1, rfl, S.key r2 hr2⟩
        · refine wp_if_neg (by decide) ?_
          try refine wpAny_bind (wpAny_pure ?_)
          exact go
    · -- an empty slot
      have told' : t.probe (fun i => (es[i]?.map (·.1)).getD 0) kh (stand.getD (t.probeStart kh)) = some (.empty (way t.mask kh N) none) := by
        have e := here (N - c)
        rw [atN] at e
        rw [hst, ← e]
        exact told
      rw [told']
      dsimp only
      refine wpAny_pure (no fun hm => ?_)
      obtain ⟨r0, hr0, hk0⟩ := List.mem_map.mp hm
      obtain ⟨i0, hi0⟩ := List.getElem?_of_mem hr0
      obtain ⟨c', z1, z2, z3⟩ := later i0 r0 hi0 hk0
      refine before (c' - c) i0 (by omega) ?_ ((hashOf i0 r0 hi0).trans (by rw [hk0]; exact hh))
      rw [here, show c + (c' - c) = c' by omega]; exact z3
end
end
section
variable {P : Program} {w : World} {A : Around} {E : Value → Shared → Prop} {s : Shared} {a : Addr} {L : List (Addr × NestedKey)} {es : Array (Int × Value)} {ep : Nat} {t : SetTable}
theorem search_all (S : NSet w s.heap a L es ep t) {x : Addr} {k : NestedKey} (hx : Kat s.heap k x) (hu : A.units + 8 < cLine) {Q : SetFound → Shared → Prop} (yes : k ∈ L.map (·.2) → Q (.there none) s)
    (no : ∀ N, k ∉ L.map (·.2) → way t.mask (k.hash w) N ∉ t.place.toList → (∀ c, c < N → way t.mask (k.hash w) c ∈ t.place.toList) → Q (.free (way t.mask (k.hash w) N) false) s) :
    wpAny (model P w) A (setSearch a (.ref x) (k.hash w) true) Q E s := by
  have fr := S.free
  obtain ⟨N, n1, n2, n3⟩ := S.tb.first (by rw [List.length_map]; omega) (k.hash w)
  have n4 : N < 100000 := by
    have : SetTable.turns t.mask ≤ 8206 := by unfold SetTable.turns; have := S.tb.mok.le; omega
    omega
  unfold setSearch
  refine search_on S hx hu n1 n2 n3 yes (fun hn => no N hn n2 n3) 100000 0 none rfl (Nat.zero_le _) (by omega) fun i r hr hk => ?_
  have hh : (hsN w L)[i]? = some (k.hash w) := by rw [List.getElem?_map, hr, ← hk]; rfl
  have hi : i < t.place.toList.length := by
    have z1 := (List.getElem?_eq_some_iff.mp hr).1
    have z2 := S.tb.sz
    rw [List.length_map] at z2
    rw [Array.length_toList, z2]; exact z1
  have hj := List.getElem?_eq_getElem hi
  obtain ⟨c, c1, c2⟩ := S.tb.before n2 hh hj
  exact ⟨c, Nat.zero_le _, c1, by rw [hj, c2]⟩
theorem rows_ins (L : List (Addr × NestedKey)) (n : Nat) (x : Addr) (k : NestedKey) : (rowsN w L).take n ++ (k.hash w, Value.ref x) :: (rowsN w L).drop n = rowsN w (L.take n ++ (x, k) :: L.drop n) := by
  simp only [rowsN, List.map_append, List.map_cons, List.map_take, List.map_drop]
/-- the rows in another order -/
theorem rows_reorder (L : List (Addr × NestedKey)) (es : Array (Int × Value)) (ord : Array Nat) (hr : es.toList = rowsN w L) (hp : ord.toList.Perm (List.range L.length)) :
    ∃ L2, (ord.filterMap fun i => es[i]?).toList = rowsN w L2 ∧ L2.Perm L ∧ hsN w L2 = ord.toList.map fun i => (es.map (·.1)).getD i 0 := by
  have size := rows_len hr
  have row : ∀ (i : Nat) (r : Addr × NestedKey), L[i]? = some r → es[i]? = some (r.2.hash w, Value.ref r.1) := fun i r e => by rw [← Array.getElem?_toList, hr, rowsN, List.getElem?_map, e]; rfl
  refine ⟨ord.toList.filterMap fun i => L[i]?, ?_, ?_, ?_⟩
  · rw [Array.toList_filterMap]
    have inb : ∀ i ∈ ord.toList, i < L.length := fun i hi => List.mem_range.mp (hp.mem_iff.mp hi)
    generalize ord.toList = l at inb
    induction l with
    | nil => rfl
    | cons i l ih =>
      obtain ⟨r, e⟩ : ∃ r, L[i]? = some r := ⟨_, List.getElem?_eq_getElem (inb i List.mem_cons_self)⟩
      rw [List.filterMap_cons_some (row i r e), List.filterMap_cons_some e, ih fun j hj => inb j (List.mem_cons_of_mem _ hj)]
      rfl
  · refine (hp.filterMap _).trans ?_
    have all : ∀ n, n ≤ L.length → (List.range n).filterMap (fun i => L[i]?) = L.take n := by
      intro n
      induction n with
      | zero => intro _; rfl
      | succ n ih =>
        intro hn
        rw [List.range_succ, List.filterMap_append, ih (by omega), List.take_add_one]
        rw [List.getElem?_eq_getElem (show n < L.length by omega), List.filterMap_cons_some (List.getElem?_eq_getElem (show n < L.length by omega))]; rfl
    have := all L.length (Nat.le_refl _)
    rw [List.take_length] at this
    rw [this]
  · have inb : ∀ i ∈ ord.toList, i < L.length := fun i hi => List.mem_range.mp (hp.mem_iff.mp hi)
    generalize ord.toList = l at inb
    induction l with
    | nil => rfl
    | cons i l ih =>
      obtain ⟨r, e⟩ : ∃ r, L[i]? = some r := ⟨_, List.getElem?_eq_getElem (inb i List.mem_cons_self)⟩
      have h1 : (es.map (·.1)).getD i 0 = r.2.hash w := by
        have : (es.map (·.1))[i]? = some (r.2.hash w) := by rw [Array.getElem?_map, row i r e]; rfl
        simp [Array.getD_eq_getD_getElem?, this]
      have ih' := ih fun j hj => inb j (List.mem_cons_of_mem _ hj)
      unfold hsN at ih' ⊢
      rw [List.filterMap_cons_some e, List.map_cons, List.map_cons, ih', h1]
/-- the table is laid anew, larger -/
theorem relay {o : Obj} (ho : s.heap.get? a = some o) (hex : o.ExactSet) (hd : o.data = .set es ep t) (hrow : es.toList = rowsN w L) (hsz : t.place.size = es.size) (hdm : t.dummies = #[]) (hfl : es.size ≤ t.mask) (uniq : (L.map (·.2)).Nodup)
    (key : ∀ r ∈ L, Kat s.heap r.2 r.1) (led : w.params.followText "set-order" = true ∨ t.led = true) (few : L.length < 4096) {want M : Nat} (hw : SetTable.sizeAbove want - 1 = M) (hM : MaskG M) (h128 : SetTable.sizeAbove want ≤ 8192) (hn : L.length * 5 < M * 3)
    {Q : Unit → Shared → Prop} (hQ : ∀ h' L' es' ep' t', Heap.SameBut a s.heap h' → NSet w h' a L' es' ep' t' → L'.Perm L → Q () { s with heap := h' }) : wpAny (model P w) A (setRelay a want) Q E s := by
  have size := rows_len hrow
  have fit : t.fits es.size = true := by
    unfold SetTable.fits SetTable.fill
    rw [hdm, Bool.and_eq_true, beq_iff_eq, decide_eq_true_eq]
    refine ⟨hsz, ?_⟩
    show t.place.size + 0 ≤ t.mask
    omega
  obtain ⟨t', ord, told, hp, T, em, el⟩ := laid_anew t (hs := es.map (·.1)) (want := want) hw hM (by rw [Array.size_map, size]; omega)
  rw [Array.size_map, size] at hp
  obtain ⟨L2, r1, r2, r3⟩ := rows_reorder L es ord hrow hp
  rw [← r3] at T
  have size2 : (ord.filterMap fun i => es[i]?).size = es.size := by rw [rows_len r1, r2.length_eq, size]
  rw [setRelay_eq]
  refine wpAny_bind (wpAny_setState_of ho hd fit ?_)
  dsimp only
  refine wp_if_neg (by rw [sizeLine_eq]; omega) ?_
  try refine wpAny_bind (wpAny_pure ?_)
  rw [told]
  dsimp only
  refine wpAny_bind (wp_if_neg (by rw [size2]; simp) ?_)
  try refine wpAny_bind (wpAny_pure ?_)
  refine wpAny_pure ?_
  dsimp only
  refine wpAny_storeSet_of ho hd ?_ (by rw [size2, size, sizeLine_eq]; omega)
  have but : Heap.SameBut a s.heap (s.heap.update a (Obj.putSet (ord.filterMap fun i => es[i]?) t')) := Heap.SameBut.update ..
  exact hQ _ L2 _ (ep + 1) t' but ⟨⟨_, store_at ho hd, ⟨hex.1, hex.2.1, hex.2.2⟩, rfl⟩, r1, T, (r2.map (·.2)).nodup_iff.mpr uniq, fun r hr => (key r (r2.mem_iff.mp hr)).but ho hd but, by rw [el]; exact led, by rw [r2.length_eq, em]; exact hn, by rw [r2.length_eq]; exact few⟩ r2
end
section
variable {P : Program} {w : World} {A : Around} {E : Value → Shared → Prop} {s : Shared} {a : Addr} {L : List (Addr × NestedKey)} {es : Array (Int × Value)} {ep : Nat} {t : SetTable}
theorem ins_perm {α : Type} (L : List α) (n : Nat) (x : α) : (L.take n ++ x :: L.drop n).Perm (x :: L) := by
  refine List.perm_middle.trans (List.Perm.cons x ?_)
  rw [List.take_append_drop]
theorem TabG.fl {t u : SetTable} {hs : List Int} (T : TabG t hs) (h1 : u.place = t.place) (h2 : u.dummies = t.dummies) (h3 : u.mask = t.mask) : TabG u hs :=
  ⟨by rw [h1]; exact T.ris, by rw [h2]; exact T.dm, by rw [h1]; exact T.sz, by rw [h3]; exact T.mok, by rw [h1, h3]; exact T.bd, by rw [h1, h3]; exact T.found⟩
/-- what is left to be done when the new slot is known -/
theorem put_in (S : NSet w s.heap a L es ep t) {x : Addr} {k : NestedKey} (hx : Kat s.heap k x) (hfew : L.length + 1 < 4096) (hm : k ∉ L.map (·.2)) {n : Nat} {u : SetTable} (T : TabG u ((hsN w L).take n ++ k.hash w :: (hsN w L).drop n)) (eM : u.mask = t.mask) (eL : u.led = t.led)
    {Q : Bool → Shared → Prop} (hQ : ∀ h' L' es' ep' t', Heap.SameBut a s.heap h' → NSet w h' a L' es' ep' t' → L'.Perm ((x, k) :: L) → Q true { s with heap := h' }) :
    wpAny (model P w) A (storeSet a (SetTable.insertAt es n (k.hash w, .ref x)) u >>= fun _ => if u.tooFull = true then setRelay a (SetTable.grown (es.size + 1)) >>= fun _ => pure true else pure true) Q E s := by
  obtain ⟨o, ho, hex, hd⟩ := S.obj
  have size := rows_len S.row
  have room := S.free
  have er : (SetTable.insertAt es n (k.hash w, Value.ref x)).toList = rowsN w (L.take n ++ (x, k) :: L.drop n) := by rw [SetTable.toList_insertAt, S.row, rows_ins]
  have pm := ins_perm L n (x, k)
  have eh : hsN w (L.take n ++ (x, k) :: L.drop n) = (hsN w L).take n ++ k.hash w :: (hsN w L).drop n := by simp only [hsN, List.map_append, List.map_cons, List.map_take, List.map_drop]
  rw [← eh] at T
  generalize L.take n ++ (x, k) :: L.drop n = L1 at er pm T
  generalize SetTable.insertAt es n (k.hash w, Value.ref x) = es1 at er ⊢
  have len1 : L1.length = L.length + 1 := pm.length_eq
  have size1 : es1.size = L.length + 1 := by rw [rows_len er, len1]
  have uniq1 : (L1.map (·.2)).Nodup := (pm.map (·.2)).nodup_iff.mpr (List.nodup_cons.mpr ⟨hm, S.uniq⟩)
  refine wpAny_bind (wpAny_storeSet_of ho hd ?_ (by rw [size1, sizeLine_eq]; omega))
  have but : Heap.SameBut a s.heap (s.heap.update a (Obj.putSet es1 u)) := Heap.SameBut.update ..
  have at1 := store_at (es' := es1) (t' := u) ho hd
  have key1 : ∀ r ∈ L1, Kat (s.heap.update a (Obj.putSet es1 u)) r.2 r.1 := fun r hr => by
    rcases List.mem_cons.mp (pm.mem_iff.mp hr) with e | hr
    · subst e; exact hx.but ho hd but
    · exact (S.key r hr).but ho hd but
  have led1 : w.params.followText "set-order" = true ∨ u.led = true := by rw [eL]; exact S.led
  have fill1 : u.fill = L.length + 1 := by
    unfold SetTable.fill
    rw [T.dm]
    have := T.sz
    rw [List.length_map, len1] at this
    rw [this]; rfl
  by_cases full : u.tooFull = true
  · rw [if_pos full]
    have hfull : (L.length + 1) * 5 ≥ t.mask * 3 := by
      unfold SetTable.tooFull at full
      rw [decide_eq_true_eq, fill1, eM] at full
      exact full
    rw [size]
    have two : (t.mask = 7 ∧ L.length = 4) ∨ (t.mask = 31 ∧ L.length = 18) ∨ (t.mask = 127 ∧ L.length = 76) ∨ (t.mask = 511 ∧ L.length = 306) ∨ (t.mask = 2047 ∧ L.length = 1228) := by
      have mok := S.tb.mok
      rcases mok with e | e | e | e | e | e <;> rw [e] at hfull room
      · exact .inl ⟨e, by omega⟩
      · exact .inr (.inl ⟨e, by omega⟩)
      · exact .inr (.inr (.inl ⟨e, by omega⟩))
      · exact .inr (.inr (.inr (.inl ⟨e, by omega⟩)))
      · exact .inr (.inr (.inr (.inr ⟨e, by omega⟩)))
      · omega
    have lay : ∀ M, SetTable.sizeAbove (SetTable.grown (L.length + 1)) - 1 = M → MaskG M → SetTable.sizeAbove (SetTable.grown (L.length + 1)) ≤ 8192 → (L.length + 1) * 5 < M * 3 →
        wpAny (model P w) A (setRelay a (SetTable.grown (L.length + 1)) >>= fun _ => pure true) Q E { s with heap := s.heap.update a (Obj.putSet es1 u) } := fun M m1 m2 m3 m4 =>
      wpAny_bind (relay (s := { s with heap := s.heap.update a (Obj.putSet es1 u) }) at1 ⟨hex.1, hex.2.1, hex.2.2⟩ rfl er (by have := T.sz; rw [List.length_map, len1] at this; rw [this, size1]) T.dm (by rw [size1, eM]; rcases two with ⟨e, e2⟩ | ⟨e, e2⟩ | ⟨e, e2⟩ | ⟨e, e2⟩ | ⟨e, e2⟩ <;> omega) uniq1 key1 led1 (by rw [len1]; exact hfew) m1 m2 m3 (by rw [len1]; exact m4)
        fun h2 L2 es2 ep2 t2 but2 S2 pm2 => wpAny_pure (hQ h2 L2 es2 ep2 t2 (but.trans but2) S2 (pm2.trans pm)))
    rcases two with ⟨_, e⟩ | ⟨_, e⟩ | ⟨_, e⟩ | ⟨_, e⟩ | ⟨_, e⟩
    · exact lay 31 (by rw [e, size_of_5]) (.inr (.inl rfl)) (by rw [e, size_of_5]; decide) (by omega)
    · exact lay 127 (by rw [e, size_of_19]) (.inr (.inr (.inl rfl))) (by rw [e, size_of_19]; decide) (by omega)
    · exact lay 511 (by rw [e, size_of_77]) (.inr (.inr (.inr (.inl rfl)))) (by rw [e, size_of_77]; decide) (by omega)
    · exact lay 2047 (by rw [e, size_of_307]) (.inr (.inr (.inr (.inr (.inl rfl))))) (by rw [e, size_of_307]; decide) (by omega)
    · exact lay 8191 (by rw [e, size_of_1229]) (.inr (.inr (.inr (.inr (.inr rfl))))) (by rw [e, size_of_1229]; exact Nat.le_refl _) (by omega)
  · rw [if_neg full]
    refine wpAny_pure (hQ _ L1 es1 (ep + 1) u but ⟨⟨_, at1, ⟨hex.1, hex.2.1, hex.2.2⟩, rfl⟩, er, T, uniq1, key1, led1, ?_, by rw [len1]; exact hfew⟩ pm)
    unfold SetTable.tooFull at full
    rw [decide_eq_true_eq, fill1] at full
    rw [len1]; omega
theorem add_key (S : NSet w s.heap a L es ep t) {x : Addr} {k : NestedKey} (hx : Kat s.heap k x) (hu : A.units + 8 < cLine) (hfew : L.length + 1 < 4096) {Q : Bool → Shared → Prop}
    (old : k ∈ L.map (·.2) → Q false s) (new : ∀ h' L' es' ep' t', k ∉ L.map (·.2) → Heap.SameBut a s.heap h' → NSet w h' a L' es' ep' t' → L'.Perm ((x, k) :: L) → Q true { s with heap := h' }) :
    wpAny (model P w) A (setAddHashed a (.ref x) (k.hash w)) Q E s := by
  obtain ⟨o, ho, hex, hd⟩ := S.obj
  unfold setAddHashed
  refine wpAny_holding ?_
  rw [show (100000 : Nat) = 99999 + 1 from rfl, setAddHashedIn_succ]
  refine wpAny_bind (wpAny_setState_of ho hd S.fit ?_)
  dsimp only
  refine wp_if_neg (by simp [byScan, Value.scannable]) ?_
  try refine wpAny_bind (wpAny_pure ?_)
  refine wpAny_bind (search_all S hx hu (fun hm => wpAny_pure (old hm)) fun N hm hN hb => ?_)
  dsimp only
  refine wpAny_bind (wpAny_setState_of ho hd S.fit ?_)
  dsimp only
  obtain ⟨p1, p2, p3, p4, p5⟩ := S.tb.put hN hb
  generalize t.put (way t.mask (k.hash w) N) = pt at p1 p3 p4 p5 ⊢
  obtain ⟨t1, n⟩ := pt
  dsimp only at p1 p3 p4 p5 ⊢
  subst p1
  have fin : ∀ b : Bool, wpAny (model P w) A (storeSet a (SetTable.insertAt es (SetTable.below t.place (way t.mask (k.hash w) N)) (k.hash w, .ref x)) (if b = true then t1 else { t1 with plain := false }) >>= fun _ =>
      if (if b = true then t1 else { t1 with plain := false }).tooFull = true then setRelay a (SetTable.grown (es.size + 1)) >>= fun _ => pure true else pure true) Q E s := fun b => by
    cases b with
    | true => exact put_in S hx hfew hm p3 p4 p5 fun h' L' es' ep' t' => new h' L' es' ep' t' hm
    | false => exact put_in S hx hfew hm (u := { t1 with plain := false }) (TabG.fl p3 rfl rfl rfl) p4 p5 fun h' L' es' ep' t' => new h' L' es' ep' t' hm
  by_cases hp : t1.plain = true
  · rw [if_pos hp]
    exact wpAny_bind (hby_key k _ 8 s hx.is hx.dp _ _ _ fun b => fin b)
  · rw [if_neg hp]
    exact wpAny_bind (wpAny_pure (fin true))
end
/-- what stands in the set behind i items -/
structure Has (ks : List (Addr × NestedKey)) (i : Nat) (L : List (Addr × NestedKey)) : Prop where
  from_ : ∀ r ∈ L, r ∈ ks.take i
  all : ∀ r ∈ ks.take i, r.2 ∈ L.map (·.2)
  few : L.length ≤ i
theorem Has.old {ks L : List (Addr × NestedKey)} {i : Nat} {r : Addr × NestedKey} (g : Has ks i L) (e : ks[i]? = some r) (hm : r.2 ∈ L.map (·.2)) : Has ks (i + 1) L := by
  have et : ks.take (i + 1) = ks.take i ++ [r] := by rw [List.take_add_one, e]; rfl
  refine ⟨fun q hq => by rw [et]; exact List.mem_append_left _ (g.from_ q hq), fun q hq => ?_, Nat.le_succ_of_le g.few⟩
  rw [et] at hq
  rcases List.mem_append.mp hq with z | z
  · exact g.all q z
  · rw [List.mem_singleton.mp z]; exact hm
theorem Has.new {ks L L2 : List (Addr × NestedKey)} {i : Nat} {r : Addr × NestedKey} (g : Has ks i L) (e : ks[i]? = some r) (pm : L2.Perm (r :: L)) : Has ks (i + 1) L2 := by
  have et : ks.take (i + 1) = ks.take i ++ [r] := by rw [List.take_add_one, e]; rfl
  refine ⟨fun q hq => ?_, fun q hq => ?_, by rw [pm.length_eq]; exact Nat.succ_le_succ g.few⟩
  · rw [et]
    rcases List.mem_cons.mp (pm.mem_iff.mp hq) with z | z
    · exact List.mem_append_right _ (by rw [z]; exact List.mem_singleton.mpr rfl)
    · exact List.mem_append_left _ (g.from_ q z)
  · rw [(pm.map (·.2)).mem_iff]
    rw [et] at hq
    rcases List.mem_append.mp hq with z | z
    · exact List.mem_cons_of_mem _ (g.all q z)
    · rw [List.mem_singleton.mp z]; exact List.mem_cons_self
theorem NSet.stay {w : World} {h h' : Heap} {a : Addr} {L : List (Addr × NestedKey)} {es : Array (Int × Value)} {ep : Nat} {t : SetTable} (S : NSet w h a L es ep t) (ha : ∀ o, h.get? a = some o → h'.get? a = some o) (hk : ∀ r ∈ L, Kat h' r.2 r.1) : NSet w h' a L es ep t :=
  ⟨S.obj.imp fun o ⟨e, r⟩ => ⟨ha o e, r⟩, S.row, S.tb, S.uniq, hk, S.led, S.free, S.few⟩
/-- the object of a set just made -/
abbrev freshO (w : World) : Obj := { cls := .type "set", dict := none, data := .set #[] 0 (.fresh 0 0 (!w.params.followText "set-order")) }
theorem fresh_set {w : World} {h : Heap} {a : Addr} (e : h.get? a = some (freshO w)) : NSet w h a [] #[] 0 (.fresh 0 0 (!w.params.followText "set-order")) where
  obj := ⟨freshO w, e, ⟨rfl, rfl, rfl⟩, rfl⟩
  row := rfl
  tb := ⟨.nil, rfl, rfl, .inl rfl, by simp [SetTable.fresh], by simp⟩
  uniq := .nil
  key := by simp
  led := by
    show _ ∨ (!w.params.followText "set-order") = true
    cases w.params.followText "set-order" <;> simp
  free := by show 0 * 5 < 7 * 3; decide
  few := by show 0 < 4096; decide
section
variable {P : Program} {w : World} {A : Around} {E : Value → Shared → Prop} {s : Shared}
/-- the loop of set.update over what gives such keys -/
theorem update_keys {I : Addr} {fp wr : List Addr} {G : Array GenState → Array GenState → Prop} {n : Nat} {Pv : Nat → Value → Prop} {St : Nat → Shared → Prop} {R : Result → Shared → Prop} (W : WalksS P w A.in1 I fp wr G n Pv St) (S : Addr) (hS : S ∉ fp)
    (ks : List (Addr × NestedKey)) (hn : n = ks.length) (few : ks.length < 4096) (val : ∀ i v, Pv i v → ∃ r, ks[i]? = some r ∧ v = .ref r.1) (h0 : Heap) (hk : ∀ r ∈ ks, Kat h0 r.2 r.1) (noS : h0.get? S = none) (noW : ∀ b ∈ wr, h0.get? b = none) (hu : A.in1.units + 8 < cLine) :
    ∀ (m i : Nat) (s : Shared), n - i = m → i ≤ n → St i s → (∀ b o, h0.get? b = some o → s.heap.get? b = some o) → (∃ L es ep t, NSet w s.heap S L es ep t ∧ Has ks i L) →
      (∀ s' L es ep t, Moved (S :: wr) G s s' → NSet w s'.heap S L es ep t → Has ks n L → (∀ b o, h0.get? b = some o → s'.heap.get? b = some o) → R (.ok (.ret .none)) s') → codeAny (model P w) A (.builtin "set.update.loop" ⟨[.ref S, .ref I], []⟩) R s := by
  have noSw : S ∉ wr := fun z => hS (W.sub _ z)
  have sub : ∀ b ∈ wr, b ∈ S :: wr := fun b hb => List.mem_cons_of_mem S hb
  have stays : ∀ {s s' : Shared}, Moved wr G s s' → (∀ b o, h0.get? b = some o → s.heap.get? b = some o) → ∀ b o, h0.get? b = some o → s'.heap.get? b = some o := fun mv k b o e => mv.heap b o (fun z => by rw [noW b z] at e; cases e) (k b o e)
  have inK : ∀ {i : Nat} {L : List (Addr × NestedKey)}, Has ks i L → ∀ r ∈ L, r ∈ ks := fun g r hr => List.mem_of_mem_take (g.from_ r hr)
  intro m
  induction m with
  | zero =>
    intro i s e hi st k ⟨L, es, ep, t, N, g⟩ end_
    have ei : i = n := by omega
    subst ei
    refine codeAny_builtin F.entry_set_update_loop (by
      rw [Around.under_plainId F.plain_set_update_loop _]
      refine wpAny_bind (m := pyNext (.ref I)) (W.done s _ _ st fun s' mv => ?_)
      have k' := stays mv k
      exact wpAny_pure (end_ s' L es ep t (mv.mono sub) (N.stay (fun o z => mv.heap S o noSw z) fun r hr => (hk r (inK g r hr)).keep k') g k'))
  | succ m again =>
    intro i s e hi st k ⟨L, es, ep, t, N, g⟩ end_
    have hlt : i < n := by omega
    refine codeAny_builtin F.entry_set_update_loop (by
      rw [Around.under_plainId F.plain_set_update_loop _]
      refine wpAny_bind (m := pyNext (.ref I)) (W.item i s _ _ hlt st fun v s' hv st' mv => ?_)
      obtain ⟨r, hr, ev⟩ := val i v hv
      subst ev
      have k' := stays mv k
      have N' : NSet w s'.heap S L es ep t := N.stay (fun o z => mv.heap S o noSw z) fun q hq => (hk q (inK g q hq)).keep k'
      have hx : Kat s'.heap r.2 r.1 := (hk r (List.mem_of_getElem? hr)).keep k'
      -- what is left: the next turn
      have turn : ∀ (h' : Heap) L' es' ep' t', Heap.SameBut S s'.heap h' → NSet w h' S L' es' ep' t' → Has ks (i + 1) L' → codeAny (model P w) A (.builtin "set.update.loop" ⟨[.ref S, .ref I], []⟩) R { s' with heap := h', toks := s'.toks + r.2.draws } := fun h' L' es' ep' t' but N2 g2 =>
        again (i + 1) _ (by omega) hlt (W.frame _ s' _ _ st' (Nat.le_add_right _ _) fun b hb o z => (but.2 b (fun e => hS (e ▸ hb))).trans z) (fun b o z => (but.2 b fun e => by rw [e, noS] at z; cases z).trans (k' b o z)) ⟨L', es', ep', t', N2, g2⟩
          fun s3 L3 es3 ep3 t3 mv3 N3 g3 k3 => end_ s3 L3 es3 ep3 t3 (Moved.trans W.gtrans ((mv.mono sub).then_heap (Nat.le_add_right _ _) fun b o hb z => (but.2 b fun e => hb (by rw [e]; exact List.mem_cons_self)).trans z) mv3) N3 g3 k3
      refine wpAny_bind (m := holding [Value.ref r.1] (setAdd S (.ref r.1))) (wpAny_holding ?_)
      unfold setAdd
      refine wpAny_holding (wpAny_bind (pyHash_key r.2 _ _ _ _ hx.is (by have := hx.dp; omega) ?_))
      exact add_key (s := { s' with toks := s'.toks + r.2.draws }) N' hx hu (by have := g.few; omega) (fun hm => wpAny_pure ⟨plainId_quiet F.plain_set_update_loop _, turn s'.heap L es ep t (Heap.SameBut.refl S s'.heap) N' (g.old hr hm)⟩)
        fun h' L' es' ep' t' _ but N2 pm => wpAny_pure ⟨plainId_quiet F.plain_set_update_loop _, turn h' L' es' ep' t' but N2 (g.new hr pm)⟩)
end
end NS
set_option Elab.async false
set_option linter.all false
set_option maxRecDepth 100000
set_option maxHeartbeats 1000000
namespace NS
open PySem PySem.Spec PyProof.Rows L2
section
variable {P : Program} {w : World} {A : Around} {E : Value → Shared → Prop} {s : Shared}
set_option maxHeartbeats 4000000 in
/-- set(xs), xs a list of such tuples -/
theorem call_set_keys {l : Addr} {items : Array Value} (ks : List (Addr × NestedKey)) {Q : Value → Shared → Prop} (hh : A.handled = none) (hl : s.heap.IsList l items) (hit : items.toList = ks.map fun r => Value.ref r.1) (hk : ∀ r ∈ ks, Kat s.heap r.2 r.1) (few : ks.length < 4096) (hu : A.units + 20 < cLine)
    (h : ∀ (h' : Heap) (tk : Nat) L es ep t, NSet w h' s.heap.objs.size L es ep t → Has ks ks.length L → (∀ b o, s.heap.get? b = some o → h'.get? b = some o) → Q (.ref s.heap.objs.size) { s with heap := h', toks := tk }) : wpAny (model P w) A (call (.type "set") [.ref l]) Q E s := by
  have hisz : items.size = ks.length := by rw [← Array.length_toList, hit, List.length_map]
  obtain ⟨c, tl, hmro⟩ := F.called_set.mro
  have hmade := F.called_set.made; have hsub := F.called_set.sub
  refine wpAny_call (codeAny_of_tree (show wpAny _ _ (callAny (.type "set") _) _ _ _ from wpAny_pure ⟨Code.quiet_builtin _ (by decide +kernel), codeAny_builtin F.entry_type_call ?_⟩))
  rw [Around.under_plain (weight_type_call_type "set" [.ref l] []) rfl]
  have h1 := F.called_set.notType; have h2 := F.called_set.canCreate
  have hct := F.typeCall_set_1 (.ref l)
  repeat (any_goals (first | assumption | wp_step))
  -- the new, empty set
  refine codeAny_mono (code_set_led1 (.ref l) (E := E) (Q₁ := fun v s1 => v = .ref s.heap.objs.size ∧ s1 = { s with heap := s.heap.push (freshO w) }) ⟨rfl, rfl⟩) fun r s1 hr => ?_
  cases r with
  | error e => exact hr
  | ok fl =>
  cases fl with
  | ret v =>
    obtain ⟨rfl, rfl⟩ := hr
    have atS : (s.heap.push (freshO w)).get? s.heap.objs.size = some (freshO w) := Heap.get?_push_size _ rfl
    have tyS : Shared.TypeIs { s with heap := s.heap.push (freshO w) } (.ref s.heap.objs.size) "set" := ⟨_, atS, rfl⟩
    have hli := F.called_set.init.lookup; have hbi := F.called_set.init.bind (.ref s.heap.objs.size)
    repeat (any_goals (first | assumption | wp_step))
    refine codeAny_mono (codeAny_call_builtin (R := wants (fun v s2 => v = .none ∧ ∃ h' tk L es ep t, s2 = { s with heap := h', toks := tk } ∧ NSet w h' s.heap.objs.size L es ep t ∧ Has ks ks.length L ∧ ∀ b o, s.heap.get? b = some o → h'.get? b = some o) E) F.called_set.init.plain F.entry_set_init (check_set_init_1 tyS ?_)) fun r2 s2 hr2 => ?_
    · obtain ⟨⟨ocls, odict, odata, oslots⟩, hol, hcl, nl, hdl⟩ := hl
      simp only at hcl hdl
      subst hcl hdl
      have hol' : (s.heap.push (freshO w)).get? l = some { cls := .type "list", dict := odict, data := .seq items nl, slots := oslots } := Heap.get?_push_of_some _ hol
      have hl1 : (s.heap.push (freshO w)).IsList l items := ⟨_, hol', rfl, nl, rfl⟩
      have hsls := F.sub_list_set; have hslf := F.sub_list_frozenset
      have hne : (Value.type "list" == Value.type "dict") = false := by decide
      unfold Builtin.«set.__init__» noKeywords Builtin.Frozenset.updateFrom
      generalize hPI : pyIter = PI
      wp_walk
      subst hPI
      refine wpAny_pyIter_list hl1 (wpAny_bind (wpAny_runValue ?_))
      have lt := Heap.lt_size hol
      have size1 : (s.heap.push (freshO w)).objs.size = s.heap.objs.size + 1 := Heap.size_push ..
      have gone : ∀ b, s.heap.objs.size ≤ b → s.heap.get? b = none := fun b hb => by
        cases e : s.heap.get? b with
        | none => rfl
        | some o => exact absurd (Heap.lt_size e) (Nat.not_lt.mpr hb)
      refine update_keys ((Walks.list (show A.in1.in1.in1.handled = none by simp [hh]) _ l (by rw [size1]; exact Nat.ne_of_lt (Nat.lt_succ_of_lt lt)) items).toS) s.heap.objs.size (by rw [size1]; simp only [List.mem_cons, List.not_mem_nil, or_false, not_or]; exact ⟨Nat.ne_of_lt (Nat.lt_succ_self _), Nat.ne_of_gt lt⟩) ks hisz few (fun i v hv => ?_) s.heap hk (gone _ (Nat.le_refl _))
        (fun b hb => gone b (by rw [List.mem_singleton.mp hb, size1]; exact Nat.le_succ _)) (by show A.units + 1 + 1 + 1 + 8 < cLine; omega) (items.size - 0) 0 _ (by omega) (Nat.zero_le _) ⟨⟨_, Heap.get?_push_size _ rfl, rfl, rfl⟩, (hl1.push _)⟩
        (fun b o e => Heap.get?_push_of_some _ (Heap.get?_push_of_some _ e)) ⟨[], #[], 0, _, fresh_set (Heap.get?_push_of_some _ atS), ⟨by simp, by simp, by simp⟩⟩ fun s' L es ep t mv N g k => ?_
      · have e : items.toList[i]? = some v := by rw [Array.getElem?_toList]; exact hv
        rw [hit, List.getElem?_map] at e
        obtain ⟨r, hr, e2⟩ := Option.map_eq_some_iff.mp e
        exact ⟨r, hr, e2.symm⟩
      · obtain ⟨h', g2, d', tk', os'⟩ := s'
        obtain rfl : g2 = s.gens := mv.gens
        obtain rfl : d' = s.drawn := mv.drawn
        obtain rfl : os' = s.os := mv.os
        rw [hisz] at g
        exact wpAny_pure (show wpAny _ _ (ret Value.none) _ _ _ from wpAny_pure ⟨rfl, h', tk', L, es, ep, t, rfl, N, g, k⟩)
    · cases r2 with
      | error e => exact hr2
      | ok fl2 =>
      cases fl2 with
      | ret v =>
        obtain ⟨rfl, h', tk, L, es, ep, t, rfl, N, g, k⟩ := hr2
        repeat (any_goals (first | assumption | wp_step))
        exact h _ _ _ _ _ _ N g k
      | _ => exact hr2.elim
  | _ => exact hr.elim
end
end NS
set_option Elab.async false
set_option linter.all false
set_option maxRecDepth 100000
set_option maxHeartbeats 1000000
namespace L3
open PySem PySem.Spec PyProof.Rows L2
section
variable {X : Cx} {a b o i : Expr} {e : Expr} {es : List Expr} {te ta tb to ti : DE} {t : DA} {pos p apos tpos : Pos}
def flatD : D → Bool
  | .non => true
  | .bl _ => true
  | .int _ => true
  | .str _ => true
  | _ => false
/-- {}, frozen at once -/
def dDctF0 : DE := fun _ M Q => Q (.dct [] []) M
theorem pd_dctF0 : PDE X (.Dict [] [] pos) dDctF0 := pe_imp (pe_lock pe_dnewK) fun σ H Q ⟨R, F, env, M, Qd, a, e, h, k⟩ p hp => .inr ⟨p, _, rfl, upd_same, trivial, fun o => by
  obtain ⟨a2, s2⟩ := a.laid hp (.frz o (.dK []))
  rw [upd_upd]
  exact k _ _ M (.dct [] []) _ s2 a2 ⟨p, o, [], rfl, upd_same, ⟨rfl, fun _ h => nomatch h⟩, rfl⟩ h⟩
structure CallD2 (X : Cx) (f : Value) (r : R2D) : Prop where
  ex : ∃ rV, CallR X f rV ∧ ∀ R F M H d e x y Qd Q, At X.K R F M H → Rep X.K F d x → Rep X.K F e y → r d e M Qd → KD X.K R F Qd Q → rV [x, y] H Q
theorem pd_bltn2 {x : Str} {f : String} {r : R2D} (hc : CallD2 X (.builtin f) r) (hm : X.mg x = none) (ha : PDE X a ta) (hb : PDE X b tb) (hv : bootBuiltins x = some (.builtin f) := by decide +kernel) (hg : Gl X x := by rfl) (hn : x ≠ "__name__" := by decide) (hdb : (x == ("__debug__" : Str)) = false := by decide)
    (he : starEach [a, b] X.env = (false, eval a X.env) :: starEach [b] X.env := by rfl) (he2 : starEach [b] X.env = (false, eval b X.env) :: starEach [] X.env := by rfl) (hpl : (backTo pos (starEach [b] X.env)).any (·.1) = false := by rfl) : PDE X (.Call (.Name x p) [a, b] [] pos) (dBin r ta tb) := by
  obtain ⟨rV, h1, h2⟩ := hc.ex
  exact pe_imp (pe_callB h1 hg hm hv (pa_cons ha (pa_cons hb pa_nil he2) he) hn hdb he hpl) fun σ H Q ⟨R, F, env, M, Qd, a, e, h, k⟩ =>
    ⟨R, F, env, M, _, a, e, h, fun F1 H1 M1 d v s1 a1 r1 h1 => ⟨R, F1, env, M1, _, a1, e.mono s1, h1, fun F2 H2 M2 d2 v2 s2 a2 r2 q2 => h2 R F2 M2 H2 d d2 v v2 Qd Q a2 (r1.mono s2) r2 q2 (k.mono (s1.trans s2))⟩⟩
abbrev rMaxI : R2D := r2J fun i j => .int (if j > i then j else i)
theorem calld_max (hc : X.calm = true := by rfl) : CallD2 X (.builtin "max") rMaxI := ⟨_, call_max2 hc, fun R F M H d e x y Qd Q a r1 r2 q kd => by
  unfold rMaxI r2J at q
  split at q
  · rename_i i j
    obtain rfl : x = V.int i := r1
    obtain rfl : y = V.int j := r2
    exact ⟨i, j, rfl, kd F H M (.int _) _ (Same.refl _) a rfl q⟩
  · exact q.elim⟩
end
end L3
set_option Elab.async false
set_option linter.all false
set_option maxRecDepth 100000
set_option maxHeartbeats 1000000
namespace L3
open PySem PySem.Spec PyProof.Rows L2 NS
mutual
theorem keyN_inj : ∀ {n : Nat} {d e : D}, D.nk n d = true → D.nk n e = true → keyN d = keyN e → d = e
  | n, .non, e, _, he, h => by cases e <;> first | rfl | (cases n <;> simp [D.nk] at he; done) | (simp [keyN] at h; done)
  | n, .int i, e, _, he, h => by
    cases e <;> first | (cases n <;> simp [D.nk] at he; done) | simp [keyN] at h
    rw [h]
  | n, .str i, e, _, he, h => by
    cases e <;> first | (cases n <;> simp [D.nk] at he; done) | simp [keyN] at h
    rw [h]
  | n + 1, .tup ds, e, hd, he, h => by
    cases e with
    | tup es =>
      simp only [keyN, NestedKey.tup.injEq] at h
      rw [keyNs_inj (show D.nks n ds = true by simpa [D.nk] using hd) (show D.nks n es = true by simpa [D.nk] using he) h]
    | _ => first | (simp [D.nk] at he; done) | simp [keyN] at h
  | 0, .tup _, _, hd, _, _ => by simp [D.nk] at hd
  | n, .bl _, _, hd, _, _ => by cases n <;> simp [D.nk] at hd
  | n, .ty _, _, hd, _, _ => by cases n <;> simp [D.nk] at hd
  | n, .ref _, _, hd, _, _ => by cases n <;> simp [D.nk] at hd
  | n, .lst _, _, hd, _, _ => by cases n <;> simp [D.nk] at hd
  | n, .lsk _, _, hd, _, _ => by cases n <;> simp [D.nk] at hd
  | n, .dct _ _, _, hd, _, _ => by cases n <;> simp [D.nk] at hd
  | n, .obj _ _, _, hd, _, _ => by cases n <;> simp [D.nk] at hd
  | n, .dkd _ _ _, _, hd, _, _ => by cases n <;> simp [D.nk] at hd
  | n, .exc _ _ _ _, _, hd, _, _ => by cases n <;> simp [D.nk] at hd
  | n, .fn _ _ _, _, hd, _, _ => by cases n <;> simp [D.nk] at hd
theorem keyNs_inj : ∀ {n : Nat} {ds es : List D}, D.nks n ds = true → D.nks n es = true → keyNs ds = keyNs es → ds = es
  | _, [], [], _, _, _ => rfl
  | _, [], _ :: _, _, _, h => by simp [keyNs] at h
  | _, _ :: _, [], _, _, h => by simp [keyNs] at h
  | n, d :: ds, e :: es, hd, he, h => by
    simp only [D.nks, Bool.and_eq_true] at hd he
    simp only [keyNs, List.cons.injEq] at h
    rw [keyN_inj hd.1 he.1 h.1, keyNs_inj hd.2 he.2 h.2]
end
section
variable {X : Cx} {pins : List (Addr × Obj)} {σ : L2.St} {H : Hp} {s : Shared} {F : Hp}
mutual
theorem nk_at (I : Inv X pins σ H s) (sm : Same F H) : ∀ {n : Nat} {d : D} {v : V} {u : Value}, Rep X.K F d v → RelV v u → D.nk n d = true → NestedIs s.heap (keyN d) u ∧ Reads s.heap u d.py [] ∧ (keyN d).depth ≤ n ∧ d.py.depth ≤ n + 1
  | n, .non, _, _, r, ru, _ => by cases r; cases ru; exact ⟨.none, .none, Nat.zero_le _, by simp [D.py, PyData.depth]⟩
  | n, .int i, _, _, r, ru, _ => by cases r; obtain ⟨t, rfl⟩ := ru; exact ⟨.int i t, .int i t, Nat.zero_le _, by simp [D.py, PyData.depth]⟩
  | n, .str x, _, _, r, ru, _ => by obtain ⟨r, _⟩ := r; cases r; obtain ⟨t, rfl⟩ := ru; exact ⟨.text x t, .str x t, Nat.zero_le _, by simp [D.py, PyData.depth]⟩
  | n + 1, .tup ds, _, _, ⟨a, xs, e, q, r⟩, ru, h => by
    subst e; cases ru
    obtain ⟨its, rv, ⟨o, ho, hc, m, hd⟩, _⟩ := I.tuple (Same.seqT sm q)
    obtain ⟨h1, h2, h3, h4⟩ := nks_at I sm r rv (show D.nks n ds = true by simpa [D.nk] using h)
    exact ⟨.tup ho hc hd (by simpa using h1), .tuple ho hc hd (by simpa using h2), by simp only [keyN, NestedKey.depth]; omega, by simp only [D.py, PyData.depth]; omega⟩
  | 0, .tup _, _, _, _, _, h => by simp [D.nk] at h
  | n, .bl _, _, _, _, _, h => by cases n <;> simp [D.nk] at h
  | n, .ty _, _, _, _, _, h => by cases n <;> simp [D.nk] at h
  | n, .ref _, _, _, _, _, h => by cases n <;> simp [D.nk] at h
  | n, .lst _, _, _, _, _, h => by cases n <;> simp [D.nk] at h
  | n, .lsk _, _, _, _, _, h => by cases n <;> simp [D.nk] at h
  | n, .dct _ _, _, _, _, _, h => by cases n <;> simp [D.nk] at h
  | n, .obj _ _, _, _, _, _, h => by cases n <;> simp [D.nk] at h
  | n, .dkd _ _ _, _, _, _, _, h => by cases n <;> simp [D.nk] at h
  | n, .exc _ _ _ _, _, _, _, _, h => by cases n <;> simp [D.nk] at h
  | n, .fn _ _ _, _, _, _, _, h => by cases n <;> simp [D.nk] at h
theorem nks_at (I : Inv X pins σ H s) (sm : Same F H) : ∀ {n : Nat} {ds : List D} {vs : List V} {us : List Value}, Reps X.K F ds vs → Vals vs us → D.nks n ds = true → NestedAll s.heap (keyNs ds) us ∧ ReadsAll s.heap us (D.pys ds) [] ∧ NestedKey.depthAll (keyNs ds) ≤ n ∧ PyData.depthAll (D.pys ds) ≤ n + 1
  | n, [], _, _, r, ru, _ => by cases r; cases ru; exact ⟨.nil, .nil, Nat.zero_le _, by simp [D.pys, PyData.depthAll]⟩
  | n, d :: ds, _, _, ⟨x, rr, e, r1, r2⟩, ru, h => by
    subst e
    simp only [D.nks, Bool.and_eq_true] at h
    cases ru with
    | cons u1 u2 =>
      obtain ⟨a1, a2, a3, a4⟩ := nk_at I sm r1 u1 h.1
      obtain ⟨b1, b2, b3, b4⟩ := nks_at I sm r2 u2 h.2
      exact ⟨.cons a1 b1, ReadsAll.cons a2 b2, by simp only [keyNs, NestedKey.depthAll]; omega, by simp only [D.pys, PyData.depthAll]; omega⟩
end
mutual
theorem nkb_at (I : Inv X pins σ H s) (sm : Same F H) : ∀ {n : Nat} {d : D} {v : V} {u : Value}, Rep X.K F d v → RelV v u → D.nkb n d = true → NestedIs s.heap (keyN d) u ∧ Reads s.heap u d.py [] ∧ (keyN d).depth ≤ n ∧ d.py.depth ≤ n + 1
  | n, .non, _, _, r, ru, _ => by cases r; cases ru; exact ⟨.none, .none, Nat.zero_le _, by simp [D.py, PyData.depth]⟩
  | n, .bl b, _, _, r, ru, _ => by cases r; cases ru; exact ⟨.bool rfl, .bool b, Nat.zero_le _, by simp [D.py, PyData.depth]⟩
  | n, .int i, _, _, r, ru, _ => by cases r; obtain ⟨t, rfl⟩ := ru; exact ⟨.int i t, .int i t, Nat.zero_le _, by simp [D.py, PyData.depth]⟩
  | n, .str x, _, _, r, ru, _ => by obtain ⟨r, _⟩ := r; cases r; obtain ⟨t, rfl⟩ := ru; exact ⟨.text x t, .str x t, Nat.zero_le _, by simp [D.py, PyData.depth]⟩
  | n + 1, .tup ds, _, _, ⟨a, xs, e, q, r⟩, ru, h => by
    subst e; cases ru
    obtain ⟨its, rv, ⟨o, ho, hc, m, hd⟩, _⟩ := I.tuple (Same.seqT sm q)
    obtain ⟨h1, h2, h3, h4⟩ := nkbs_at I sm r rv (show D.nkbs n ds = true by simpa [D.nkb] using h)
    exact ⟨.tup ho hc hd (by simpa using h1), .tuple ho hc hd (by simpa using h2), by simp only [keyN, NestedKey.depth]; omega, by simp only [D.py, PyData.depth]; omega⟩
  | 0, .tup _, _, _, _, _, h => by simp [D.nkb] at h
  | n, .ty _, _, _, _, _, h => by cases n <;> simp [D.nkb] at h
  | n, .ref _, _, _, _, _, h => by cases n <;> simp [D.nkb] at h
  | n, .lst _, _, _, _, _, h => by cases n <;> simp [D.nkb] at h
  | n, .lsk _, _, _, _, _, h => by cases n <;> simp [D.nkb] at h
  | n, .dct _ _, _, _, _, _, h => by cases n <;> simp [D.nkb] at h
  | n, .obj _ _, _, _, _, _, h => by cases n <;> simp [D.nkb] at h
  | n, .dkd _ _ _, _, _, _, _, h => by cases n <;> simp [D.nkb] at h
  | n, .exc _ _ _ _, _, _, _, _, h => by cases n <;> simp [D.nkb] at h
  | n, .fn _ _ _, _, _, _, _, h => by cases n <;> simp [D.nkb] at h
theorem nkbs_at (I : Inv X pins σ H s) (sm : Same F H) : ∀ {n : Nat} {ds : List D} {vs : List V} {us : List Value}, Reps X.K F ds vs → Vals vs us → D.nkbs n ds = true → NestedAll s.heap (keyNs ds) us ∧ ReadsAll s.heap us (D.pys ds) [] ∧ NestedKey.depthAll (keyNs ds) ≤ n ∧ PyData.depthAll (D.pys ds) ≤ n + 1
  | n, [], _, _, r, ru, _ => by cases r; cases ru; exact ⟨.nil, .nil, Nat.zero_le _, by simp [D.pys, PyData.depthAll]⟩
  | n, d :: ds, _, _, ⟨x, rr, e, r1, r2⟩, ru, h => by
    subst e
    simp only [D.nkbs, Bool.and_eq_true] at h
    cases ru with
    | cons u1 u2 =>
      obtain ⟨a1, a2, a3, a4⟩ := nkb_at I sm r1 u1 h.1
      obtain ⟨b1, b2, b3, b4⟩ := nkbs_at I sm r2 u2 h.2
      exact ⟨.cons a1 b1, ReadsAll.cons a2 b2, by simp only [keyNs, NestedKey.depthAll]; omega, by simp only [D.pys, PyData.depthAll]; omega⟩
end
end
/-- the set at a, without the tuples themselves -/
def NSet0 (w : World) (h : Heap) (a : Addr) (L : List (Addr × NestedKey)) : Prop := ∃ (es : Array (Int × Value)) (ep : Nat) (t : SetTable), (∃ o, h.get? a = some o ∧ o.ExactSet ∧ o.data = .set es ep t) ∧ es.toList = rowsN w L ∧ TabG t (hsN w L) ∧ (L.map (·.2)).Nodup ∧ (w.params.followText "set-order" = true ∨ t.led = true) ∧ L.length * 5 < t.mask * 3 ∧ L.length < 4096
abbrev tagN (Ld : List (Addr × D)) : List (Addr × NestedKey) := Ld.map fun r => (r.1, keyN r.2)
def SetNO (w : World) (a : Addr) (Ld : List (Addr × D)) : HO := .ext fun h => NSet0 w h a (tagN Ld)
theorem setNO_new {P : Program} {w : World} {H : Hp} {h : Heap} {a : Addr} {Ld : List (Addr × D)} (S : NSet0 w h a (tagN Ld)) : ObjOk P w H h a (SetNO w a Ld) := by
  have ⟨es, ep, t, ⟨o, ho, r⟩, q⟩ := S
  refine ⟨S, ⟨o, ho⟩, fun h1 h2 p k => ?_⟩
  have ⟨es', ep', t', ⟨o', ho', r'⟩, q'⟩ := (show NSet0 w h1 a (tagN Ld) from p)
  exact ⟨es', ep', t', ⟨o', k o' ho', r'⟩, q'⟩
/-- the addresses of such a list, with what stands there -/
theorem reps_refs {K : PySem.W.Frag} {F : Hp} : ∀ {ds : List D} {vs : List V}, Reps K F ds vs → (∀ d ∈ ds, isKey d = true) → ∃ kd : List (Addr × D), kd.map (·.2) = ds ∧ vs = kd.map (fun r => V.ref r.1) ∧ ∀ r ∈ kd, Rep K F r.2 (.ref r.1)
  | [], _, r, _ => by cases r; exact ⟨[], rfl, rfl, fun r h => nomatch h⟩
  | d :: ds, _, ⟨x, rr, e, r1, r2⟩, h => by
    subst e
    obtain ⟨kd, h1, h2, h3⟩ := reps_refs r2 fun g hg => h g (List.mem_cons_of_mem _ hg)
    have hd := h d List.mem_cons_self
    cases d with
    | tup es =>
      obtain ⟨a, xs, e, q⟩ := r1
      subst e
      exact ⟨(a, .tup es) :: kd, by rw [List.map_cons, h1], by rw [List.map_cons, h2], fun r hr => by
        rcases List.mem_cons.mp hr with e | hr
        · subst e; exact ⟨a, xs, rfl, q⟩
        · exact h3 r hr⟩
    | _ => cases hd
theorem sub_lift {α β : Type} (f : α → β) {k : List α} : ∀ {l : List β}, (∀ x ∈ l, x ∈ k.map f) → ∃ m : List α, l = m.map f ∧ ∀ y ∈ m, y ∈ k
  | [], _ => ⟨[], rfl, fun y h => nomatch h⟩
  | x :: l, h => by
    obtain ⟨m, e, hm⟩ := sub_lift f (l := l) fun y hy => h y (List.mem_cons_of_mem _ hy)
    obtain ⟨y, hy, e2⟩ := List.mem_map.mp (h x List.mem_cons_self)
    exact ⟨y :: m, by rw [List.map_cons, e, e2], fun z hz => by
      rcases List.mem_cons.mp hz with e | hz
      · subst e; exact hy
      · exact hm z hz⟩
theorem perm_lift {α β : Type} (f : α → β) {l l' : List β} (h : l.Perm l') : ∀ k : List α, l' = k.map f → ∃ k' : List α, k'.Perm k ∧ l = k'.map f := by
  induction h with
  | nil => intro k e; cases k with
    | nil => exact ⟨[], .nil, rfl⟩
    | cons _ _ => cases e
  | cons x _ ih => intro k e; cases k with
    | nil => cases e
    | cons y k =>
      rw [List.map_cons, List.cons.injEq] at e
      obtain ⟨k', p, e2⟩ := ih k e.2
      exact ⟨y :: k', .cons _ p, by rw [List.map_cons, e2, e.1]⟩
  | swap x y l => intro k e; match k, e with
    | a :: b :: k, e =>
      simp only [List.map_cons, List.cons.injEq] at e
      exact ⟨b :: a :: k, .swap _ _ _, by simp [e.1, e.2.1, e.2.2]⟩
    | [], e => cases e
    | [_], e => simp at e
  | trans _ _ i1 i2 =>
    intro k e
    obtain ⟨k2, p2, e2⟩ := i2 k e
    obtain ⟨k1, p1, e1⟩ := i1 k2 e2
    exact ⟨k1, p1.trans p2, e1⟩
theorem refs_vals : ∀ {kd : List (Addr × D)} {its : List Value}, Vals (kd.map fun r => V.ref r.1) its → its = kd.map fun r => Value.ref r.1
  | [], _, r => by cases r; rfl
  | x :: kd, _, r => by
    cases r with
    | cons a b => cases a; rw [refs_vals b]; rfl
section
variable {X : Cx}
/-- set(xs) -/
def rSetN (K : PySem.W.Frag) (w : World) : List V → Hp → VK → Prop := fun vs H Q => ∃ l F ds xs, vs = [V.ref l] ∧ SqL K H l xs ∧ Same F H ∧ Reps K F ds xs ∧ (∀ d ∈ ds, isKey d = true) ∧ ds.length < 4096 ∧
  ∀ a Ld, H a = none → (∀ r ∈ Ld, r.2 ∈ ds ∧ Rep K F r.2 (.ref r.1)) → (∀ d ∈ ds, d ∈ Ld.map (·.2)) → (Ld.map (·.2)).Nodup → Ld.length < 4096 → Q (.ref a) (upd H a (SetNO w a Ld))
theorem isKey_nk {d : D} (h : isKey d = true) : D.nk 8 d = true := by
  cases d <;> first | exact h | cases h
theorem cr_setN (hc : X.calm = true) (hu : X.A.units + 65 < cLine) : CallR X (.type "set") (rSetN X.K X.w) := by
  intro pins s σ H vs us Q I r ⟨l, F, ds, xs, ev, hl, sm, rx, hk, few, q⟩
  subst ev
  rw [Vals.ref1 r]
  obtain ⟨its, rv, pl, hz⟩ := I.list hl
  obtain ⟨kd, k1, k2, k3⟩ := reps_refs rx hk
  have hits : its = kd.map fun r => Value.ref r.1 := refs_vals (by rw [← k2]; exact rv)
  have len : kd.length = ds.length := by rw [← k1, List.length_map]
  refine call_set_keys (tagN kd) (I.ok.hd hc) pl.isList (by rw [List.map_map]; exact hits) (fun r hr => ?_) (by rw [List.length_map, len]; exact few) (by omega) fun h' tk L es ep t S g k => ?_
  · obtain ⟨z, hz', rfl⟩ := List.mem_map.mp hr
    have hzd : z.2 ∈ ds := by rw [← k1]; exact List.mem_map.mpr ⟨z, hz', rfl⟩
    obtain ⟨n1, _, n2, _⟩ := nk_at I sm (k3 z hz') (u := .ref z.1) rfl (isKey_nk (hk _ hzd))
    exact ⟨n1, n2⟩
  · rw [List.length_map] at g
    have tk1 : (tagN kd).take kd.length = tagN kd := by rw [← List.length_map (as := kd) (fun r => (r.1, keyN r.2)), List.take_length]
    obtain ⟨Ld, eL, hL⟩ := sub_lift (fun r : Addr × D => (r.1, keyN r.2)) (k := kd) (l := L) fun x hx => by have := g.from_ x hx; rw [tk1] at this; exact this
    subst eL
    have inD : ∀ r ∈ Ld, r.2 ∈ ds := fun r hr => by rw [← k1]; exact List.mem_map.mpr ⟨r, hL r hr, rfl⟩
    have uq := S.uniq
    rw [List.map_map] at uq
    refine ⟨.ref s.heap.objs.size, upd H s.heap.objs.size (SetNO X.w s.heap.objs.size Ld), I.laid (t' := tk) k (Nat.le_refl _) (setNO_new ⟨es, ep, t, S.obj, S.row, S.tb, S.uniq, S.led, S.free, S.few⟩), rfl, q _ Ld (I.hok.fresh (Nat.le_refl _)) (fun r hr => ⟨inD r hr, k3 r (hL r hr)⟩) (fun d hd => ?_) ?_ (by have := S.few; rw [List.length_map] at this; exact this)⟩
    · rw [← k1] at hd
      obtain ⟨z, hz', rfl⟩ := List.mem_map.mp hd
      have := g.all (z.1, keyN z.2) (by rw [tk1]; exact List.mem_map.mpr ⟨z, hz', rfl⟩)
      rw [List.map_map] at this
      obtain ⟨y, hy, e⟩ := List.mem_map.mp this
      have hzd : z.2 ∈ ds := by rw [← k1]; exact List.mem_map.mpr ⟨z, hz', rfl⟩
      have : y.2 = z.2 := keyN_inj (isKey_nk (hk _ (inD y hy))) (isKey_nk (hk _ hzd)) e
      exact List.mem_map.mpr ⟨y, hy, this⟩
    · rw [List.nodup_iff_pairwise_ne, List.pairwise_map] at uq ⊢
      exact uq.imp fun {x y} h e => h (congrArg keyN e)
end
def rSortN (K : PySem.W.Frag) (w : World) : List V → Hp → VK → Prop := fun vs H Q => ∃ a F Ld, vs = [.ref a] ∧ H a = some (SetNO w a Ld) ∧ Same F H ∧ (∀ r ∈ Ld, Rep K F r.2 (.ref r.1) ∧ isKey r.2 = true) ∧ SrtOk (Ld.map (·.2)) ∧
  ∀ (Lf : List (Addr × D)) p, Lf.Perm Ld → (Lf.map (·.2)).Pairwise (fun d e => leD d e = true) → H p = none → Q (.ref p) (upd H p (.lst (Lf.map fun r => V.ref r.1)))
theorem each_refs {α : Type} {f : α → Addr} : ∀ (l : List α), PySem.W.EachIs (fun v r => v = Value.ref (f r)) (l.map fun r => Value.ref (f r)) l
  | [] => .nil
  | _ :: l => .cons rfl (each_refs l)
theorem refs_each {α : Type} {f : α → Addr} : ∀ {l : List α} {vs : List Value}, PySem.W.EachIs (fun v r => v = Value.ref (f r)) vs l → vs = l.map fun r => Value.ref (f r)
  | _, _, .nil => rfl
  | _, _, .cons e t => by rw [List.map_cons, e, refs_each t]
theorem each_of {α : Type} {R : Value → α → Prop} {f : α → Addr} : ∀ (l : List α), (∀ r ∈ l, R (Value.ref (f r)) r) → PySem.W.EachIs R (l.map fun r => Value.ref (f r)) l
  | [], _ => .nil
  | r :: l, h => .cons (h r List.mem_cons_self) (each_of l fun q hq => h q (List.mem_cons_of_mem _ hq))
section
variable {X : Cx}
theorem cr_sortedN (hc : X.calm = true) (hu : X.A.units + 65 < cLine) : CallR X (.builtin "sorted") (rSortN X.K X.w) := by
  intro pins s σ H vs us Q I r ⟨a, F, Ld, ev, ha, sm, hr, ok, q⟩
  subst ev
  rw [Vals.ref1 r]
  obtain ⟨es, ep, t, ⟨o, ho, hex, hd⟩, row, tb, uq, led, free, few⟩ := (show NSet0 X.w s.heap a (tagN Ld) from (I.hok a _ ha).1)
  have size := rows_len row
  rw [List.length_map] at few size free
  have fit : t.fits es.size = true := by
    have z := tb.sz
    rw [List.length_map, List.length_map] at z
    unfold SetTable.fits SetTable.fill
    rw [tb.dm, Bool.and_eq_true, beq_iff_eq, decide_eq_true_eq, size]
    refine ⟨z, ?_⟩
    show t.place.size + 0 ≤ t.mask
    omega
  refine Calls.call_function_entry PyProof.Rows.kind_sorted PyProof.Rows.plain_sorted PyProof.Rows.entry_sorted (PyProof.Rows.args_sorted1 _) (show wpAny _ _ (Builtin.«sorted» _) _ _ _ from ?_)
  unfold Builtin.«sorted»
  refine wpAny_bind (m := checkCount "sorted" 1 1 _) (wpAny_pure (wpAny_bind (collect_set (A := X.A.in1) (I.ok.hd hc) ⟨o, ho, hex.1, hd⟩ fit (by rw [size]; unfold scanBound; omega) tb.ris led fun s1 vs k1 hz g1 o1 pm => ?_)))
  have hes : es.toList.map (·.2) = Ld.map fun r => Value.ref r.1 := by
    rw [row]
    simp only [rowsN, List.map_map]
    rfl
  rw [hes] at pm
  obtain ⟨L1, p1, e1⟩ := perm_lift (fun r : Addr × D => Value.ref r.1) pm Ld rfl
  subst e1
  have len1 : L1.length = Ld.length := p1.length_eq
  have in1 : ∀ r ∈ L1, r ∈ Ld := fun r hr => p1.mem_iff.mp hr
  have reads : ∀ r ∈ Ld, Reads s.heap (.ref r.1) r.2.py [] ∧ r.2.py.depth ≤ 9 := fun z hz' => by
    obtain ⟨_, n2, _, n4⟩ := nk_at I sm (hr z hz').1 (u := .ref z.1) rfl (isKey_nk (hr z hz').2)
    exact ⟨n2, n4⟩
  refine wpAny_bind (wpAny_newList ?_ (by rw [List.length_map, sizeLine_eq]; omega))
  have hoL : (s1.heap.push (seqObj "list" (L1.map fun r => Value.ref r.1).toArray 0)).get? s1.heap.objs.size = some (seqObj "list" (L1.map fun r => Value.ref r.1).toArray 0) := Heap.get?_push_size _ rfl
  refine wpAny_bind (wpAny_holding (PySem.W.list_sort_data (s := { s1 with heap := s1.heap.push (seqObj "list" (L1.map fun r => Value.ref r.1).toArray 0) }) (bs := L1) (enc := fun r => r.2.py) (R := fun v r => v = Value.ref r.1) hoL (each_refs L1)
    (each_of L1 fun r hr1 => ⟨[], PyProof.Rows.Reads.keeps (fun b u e => Heap.get?_push_of_some _ (k1 b u e)) (reads r (in1 r hr1)).1, by simp⟩) ?_ ?_ (by rw [len1, sizeLine_eq]; omega) (fun r hr1 => ?_) fun out lo eo => ?_))
  · intro d hd1 d' hd2
    obtain ⟨r1, m1, rfl⟩ := List.mem_map.mp hd1
    obtain ⟨r2, m2, rfl⟩ := List.mem_map.mp hd2
    exact ok.1 _ (List.mem_map.mpr ⟨r1.2, List.mem_map.mpr ⟨r1, in1 r1 m1, rfl⟩, rfl⟩) _ (List.mem_map.mpr ⟨r2.2, List.mem_map.mpr ⟨r2, in1 r2 m2, rfl⟩, rfl⟩)
  · refine ok.2.imp (fun h d hd1 => ?_) fun h d hd1 => ?_ <;>
    · obtain ⟨r1, m1, rfl⟩ := List.mem_map.mp hd1
      exact h _ (List.mem_map.mpr ⟨r1.2, List.mem_map.mpr ⟨r1, in1 r1 m1, rfl⟩, rfl⟩)
  · have := (reads r (in1 r hr1)).2
    show X.A.units + 1 + 1 + r.2.py.depth < cLine
    omega
  · generalize hLf : L1.mergeSort (PySem.W.dataLe false fun r => r.2.py) = Lf at eo
    have pf : Lf.Perm L1 := by rw [← hLf]; exact List.mergeSort_perm _ _
    have srt : (Lf.map (·.2)).Pairwise fun d e => leD d e = true := by
      rw [← hLf, List.pairwise_map]
      exact PySem.W.sort_pairwise (PySem.W.sortLe_total _ false _) L1
    have eout := refs_each eo
    subst eout
    obtain ⟨ce, hce⟩ := PyProof.Rows.sortedHeap_at (vs := L1.map fun r => Value.ref r.1) (out := (Lf.map fun r => Value.ref r.1).toArray) hoL
    have lenf : Lf.length = Ld.length := (pf.trans p1).length_eq
    have hn : H s1.heap.objs.size = none := I.hok.fresh hz
    refine wpAny_pure ⟨_, rfl, .ref s1.heap.objs.size, upd H s1.heap.objs.size (.lst (Lf.map fun r => V.ref r.1)), ?_, rfl, q Lf _ (pf.trans p1) srt hn⟩
    have hlen : (Lf.map fun r => V.ref r.1).length ≤ sizeLine := by rw [List.length_map, lenf, sizeLine_eq]; omega
    have hv : ∀ l : List (Addr × D), Vals (l.map fun r => V.ref r.1) (l.map fun r => Value.ref r.1) := fun l => by
      induction l with
      | nil => exact .nil
      | cons r l ih => exact .cons rfl ih
    generalize hhp : sortedHeap _ s1.heap.objs.size _ _ = hp at hce ⊢
    have K1 : ∀ b u, s.heap.get? b = some u → hp.get? b = some u := fun b u e => by
      have e1 := k1 b u e
      have lt := Heap.lt_size e1
      rw [← hhp, PyProof.Rows.sortedHeap_old (Nat.ne_of_lt lt) (by rw [PyProof.Rows.size_push']; exact Nat.lt_succ_of_lt lt)]
      exact Heap.get?_push_of_some _ e1
    have J : Inv X pins σ (upd H s1.heap.objs.size (.lst (Lf.map fun r => V.ref r.1))) { s with heap := hp, gens := s1.gens, drawn := s1.drawn, toks := s1.toks } :=
      I.call (ch := []) (Un.laid K1 hz hn) (I.hok.laid K1 hz ⟨hlen, _, ce, hv Lf, by simpa using hce⟩) (by rw [g1]; exact I.bare) fun _ z => nomatch z
    rw [← o1] at J
    exact J
/-- sorted(set(xs)) -/
def rSortSet : R1D := fun d M Q => match resD M d with
  | .lst ds => ((∀ g ∈ ds, isKey g = true) ∧ ds.length < 4096 ∧ SrtOk ds) ∧ ∀ ys : List D, ys.Nodup → (∀ g, g ∈ ys ↔ g ∈ ds) → ys.Pairwise (fun d e => leD d e = true) → Q (.lst ys) M
  | _ => False
theorem reps_of {K : PySem.W.Frag} {F : Hp} : ∀ {Lf : List (Addr × D)}, (∀ r ∈ Lf, Rep K F r.2 (.ref r.1)) → Reps K F (Lf.map (·.2)) (Lf.map fun r => V.ref r.1)
  | [], _ => rfl
  | r :: Lf, h => ⟨.ref r.1, _, rfl, h r List.mem_cons_self, reps_of fun q hq => h q (List.mem_cons_of_mem _ hq)⟩
variable {e : Expr} {te : DE} {pos p p2 pos2 : Pos}
theorem pd_sortset {k : Nat} (hr : Room k X.A) (hm1 : X.mg "sorted" = none) (hm2 : X.mg "set" = none) (he : PDE X e te) (hc : X.calm = true := by rfl) (hg1 : Gl X "sorted" := by rfl) (hg2 : Gl X "set" := by rfl)
    (ha : starEach [e] X.env = (false, eval e X.env) :: starEach [] X.env := by rfl) (hpl : (backTo pos2 (starEach [] X.env)).any (·.1) = false := by rfl)
    (ha2 : starEach [.Call (.Name "set" p2) [e] [] pos2] X.env = (false, eval (.Call (.Name "set" p2) [e] [] pos2) X.env) :: starEach [] X.env := by rfl) (hpl2 : (backTo pos (starEach [] X.env)).any (·.1) = false := by rfl) :
    PDE X (.Call (.Name "sorted" p) [.Call (.Name "set" p2) [e] [] pos2] [] pos) (dUn rSortSet te) := by
  have hu : X.A.units + 65 < cLine := by have := hr.un; omega
  refine pe_imp (pe_callB (cr_sortedN hc hu) hg1 hm1 (by decide +kernel) (pa_cons (pe_callTy (cr_setN hc hu) hg2 hm2 (by decide +kernel) (pa_cons he pa_nil ha) (by decide) (by decide) ha hpl) pa_nil ha2) (by decide) (by decide) ha2 hpl2) fun σ H Q ⟨R, F, env, M, Qd, a, e, h, k⟩ => ⟨R, F, env, M, _, a, e, h, fun F1 H1 M1 d v s1 a1 r1 q1 => ?_⟩
  unfold rSortSet at q1
  split at q1
  · rename_i ds hd
    obtain ⟨P, xs, rfl, hq, rx⟩ := (seq_at a1 r1).1 hd
    refine ⟨P, F1, ds, xs, rfl, SqL.of hq, a1.fz, rx, q1.1.1, q1.1.2.1, fun A Ld hA hL hall hnd hfew => ?_⟩
    obtain ⟨a2, s2⟩ := a1.laid hA (SetNO X.w A Ld)
    have mem : ∀ g, g ∈ Ld.map (·.2) ↔ g ∈ ds := fun g => ⟨fun h => by
      obtain ⟨r, hr, rfl⟩ := List.mem_map.mp h
      exact (hL r hr).1, hall g⟩
    refine ⟨A, _, Ld, rfl, upd_same, a2.fz, fun r hr => ⟨(hL r hr).2.mono s2, q1.1.1 _ (hL r hr).1⟩, ⟨fun x hx y hy => ?_, ?_⟩, fun Lf p pf srt hp => ?_⟩
    · obtain ⟨x', hx', rfl⟩ := List.mem_map.mp hx
      obtain ⟨y', hy', rfl⟩ := List.mem_map.mp hy
      exact q1.1.2.2.1 _ (List.mem_map.mpr ⟨x', (mem x').mp hx', rfl⟩) _ (List.mem_map.mpr ⟨y', (mem y').mp hy', rfl⟩)
    · refine q1.1.2.2.2.imp (fun h x hx => ?_) fun h x hx => ?_ <;>
      · obtain ⟨x', hx', rfl⟩ := List.mem_map.mp hx
        exact h _ (List.mem_map.mpr ⟨x', (mem x').mp hx', rfl⟩)
    · have pm := pf.map (·.2)
      refine lst_new a2 (reps_of fun r hr => (hL r (pf.mem_iff.mp hr)).2.mono s2) (k.mono (s1.trans s2)) (q1.2 _ (pm.nodup_iff.mpr hnd) (fun g => (pm.mem_iff).trans (mem g)) srt) hp
  · exact q1.elim
end
end L3
set_option Elab.async false
set_option linter.all false
set_option maxRecDepth 100000
set_option maxHeartbeats 1000000
set_option Elab.async false
set_option linter.all false
set_option maxRecDepth 100000
set_option maxHeartbeats 1000000
set_option Elab.async false
set_option linter.all false
set_option maxRecDepth 100000
set_option maxHeartbeats 1000000
namespace L3
open PySem PySem.Spec PyProof.Rows L2
/-- the i-th set, or one more at the end -/
def putL {α : Type} : List α → Nat → α → List α
  | [], _, v => [v]
  | _ :: r, 0, v => v :: r
  | x :: r, i + 1, v => x :: putL r i v
theorem putL_len {α : Type} : ∀ {xs : List α} {i : Nat} {v : α}, (putL xs i v).length ≤ xs.length + 1 ∧ ((putL xs i v).length = xs.length ∨ xs.length ≤ i)
  | [], _, _ => ⟨Nat.le_refl _, .inr (Nat.zero_le _)⟩
  | _ :: r, 0, v => ⟨Nat.le_succ _, .inl rfl⟩
  | x :: r, i + 1, v => by
    obtain ⟨h1, h2⟩ := putL_len (xs := r) (i := i) (v := v)
    simp only [putL, List.length_cons]
    omega
theorem lookup_zipF : ∀ {fs : List Str} {xs : List V} {i : Nat} {f : Str}, fs.Nodup → fs[i]? = some f → (fs.zip xs).lookup f = xs[i]?
  | [], _, _, _, _, h => by simp at h
  | g :: fs, [], i, f, hn, h => by simp
  | g :: fs, x :: xs, 0, f, hn, h => by
    simp only [List.getElem?_cons_zero, Option.some.injEq] at h
    subst h
    simp
  | g :: fs, x :: xs, i + 1, f, hn, h => by
    simp only [List.getElem?_cons_succ] at h
    have hne : (f == g) = false := by
      rw [beq_eq_false_iff_ne]
      intro e
      subst e
      exact (List.nodup_cons.mp hn).1 (List.mem_of_getElem? h)
    simp only [List.zip_cons_cons, List.lookup_cons, hne, List.getElem?_cons_succ]
    exact lookup_zipF (List.nodup_cons.mp hn).2 h
theorem lookup_zipN : ∀ {fs : List Str} {xs : List V} {f : Str}, f ∉ fs → (fs.zip xs).lookup f = none
  | [], _, _, _ => by simp
  | g :: fs, [], f, h => by simp
  | g :: fs, x :: xs, f, h => by
    have hne : (f == g) = false := by
      rw [beq_eq_false_iff_ne]
      intro e
      subst e
      exact h List.mem_cons_self
    simp only [List.zip_cons_cons, List.lookup_cons, hne]
    exact lookup_zipN fun q => h (List.mem_cons_of_mem _ q)
theorem putF_zip : ∀ {fs : List Str} {xs : List V} {i : Nat} {f : Str} {y : V}, fs.Nodup → fs[i]? = some f → i ≤ xs.length → xs.length ≤ fs.length → putF f y (fs.zip xs) = fs.zip (putL xs i y)
  | [], _, _, _, _, _, h, _, _ => by simp at h
  | g :: fs, [], i, f, y, hn, h, hi, _ => by
    have e : i = 0 := by simpa using hi
    subst e
    simp only [List.getElem?_cons_zero, Option.some.injEq] at h
    subst h
    rw [List.zip_nil_right]
    show [(g, y)] = (g, y) :: fs.zip []
    rw [List.zip_nil_right]
  | g :: fs, x :: xs, 0, f, y, hn, h, hi, _ => by
    simp only [List.getElem?_cons_zero, Option.some.injEq] at h
    subst h
    show (if g = g then (g, y) :: fs.zip xs else _) = (g, y) :: fs.zip xs
    rw [if_pos rfl]
  | g :: fs, x :: xs, i + 1, f, y, hn, h, hi, hl => by
    simp only [List.getElem?_cons_succ] at h
    have hne : g ≠ f := by
      intro e
      subst e
      exact (List.nodup_cons.mp hn).1 (List.mem_of_getElem? h)
    show (if g = f then (g, y) :: fs.zip xs else (g, x) :: putF f y (fs.zip xs)) = (g, x) :: fs.zip (putL xs i y)
    rw [if_neg hne, putF_zip (List.nodup_cons.mp hn).2 h (by simpa using hi) (by simpa using hl)]
theorem Reps.putL {K : PySem.W.Frag} {F : Hp} : ∀ {ds : List D} {vs : List V} {d : D} {v : V} {i : Nat}, Rep K F d v → Reps K F ds vs → Reps K F (L3.putL ds i d) (L3.putL vs i v)
  | [], _, _, _, _, hd, h => by cases h; exact ⟨_, [], rfl, hd, rfl⟩
  | _ :: ds, _, _, _, 0, hd, ⟨x, r, e, h1, h2⟩ => by subst e; exact ⟨_, r, rfl, hd, h2⟩
  | _ :: ds, _, _, _, i + 1, hd, ⟨x, r, e, h1, h2⟩ => by subst e; exact ⟨x, _, rfl, h1, Reps.putL hd h2⟩
/-- an instance as it stands -/
def resI (M : Mp) (d : D) : Option (Cl × List D) := match d with
  | .obj c ds => some (c, ds)
  | .ref q => match M q with
    | some (.ins c ds) => some (c, ds)
    | _ => none
  | _ => none
theorem resI_at {K : PySem.W.Frag} {R F : Hp} {M : Mp} {H : Hp} {d : D} {v : V} {c : Cl} {ds : List D} (a : At K R F M H) (r : Rep K F d v) (h : resI M d = some (c, ds)) :
    ∃ p dx xs, v = .ref p ∧ H p = some (.ins (He.ga K c.nm) dx (c.fs.zip xs)) ∧ ds.length ≤ c.fs.length ∧ Reps K F ds xs := by
  unfold resI at h
  split at h
  · cases h
    obtain ⟨p, dx, xs, rfl, hq, l, rx⟩ := r
    exact ⟨p, dx, xs, rfl, a.fz _ _ hq, l, rx⟩
  · split at h
    · rename_i hm
      cases h
      obtain ⟨_, u, hu, dx, xs, rfl, l, rx⟩ := a.mu _ _ hm
      exact ⟨_, dx, xs, r, hu, l, rx⟩
    · cases h
  · cases h
/-- what the text must have of a class -/
structure ClsT (K : PySem.W.Frag) (c : Cl) : Prop where
  cl : Cls K (He.ga K c.nm)
  na : ∀ f ∈ c.fs, NoAttr K (He.ga K c.nm) f
  nd : c.fs.Nodup
  few : c.fs.length < 1000
section
variable {X : Cx} {a b o : Expr} {e : Expr} {es : List Expr} {te ta tb to : DE} {t : DA} {pos p apos tpos : Pos}
/-- o.f -/
def dFld (c : Cl) (i : Nat) (te : DE) : DE := fun env M Q => te env M fun d M1 => match resI M1 d with
  | some (c', ds) => c' = c ∧ (match ds[i]? with
    | some x => Q x M1
    | none => False)
  | none => False
theorem pd_fld {c : Cl} {i : Nat} {f : Str} (T : ClsT X.K c) (he : PDE X e te) (hf : c.fs[i]? = some f := by rfl) (hb : attributeBase e f X.env (eval e X.env) = eval e X.env := by rfl) : PDE X (.Attribute e f pos) (dFld c i te) :=
  pe_imp (pe_fld he hb) fun σ H Q ⟨R, F, env, M, Qd, a, e, h, k⟩ => ⟨R, F, env, M, _, a, e, h, fun F1 H1 M1 d v s1 a1 r1 q1 => by
    split at q1
    · rename_i c' ds hr
      obtain ⟨rfl, q1⟩ := q1
      split at q1
      · rename_i x hx
        obtain ⟨p, dx, xs, rfl, hh, l, rx⟩ := resI_at a1 r1 hr
        obtain ⟨w, hw, rw_⟩ := rx.get hx
        exact ⟨p, _, dx, _, w, rfl, hh, T.cl, T.na f (List.mem_of_getElem? hf), by rw [lookup_zipF T.nd hf]; exact hw, k F1 H1 M1 x w s1 a1 rw_ q1⟩
      · exact q1.elim
    · exact q1.elim⟩
/-- o.f = e -/
def mFld (M : Mp) (o : D) (c : Cl) (i : Nat) (v : D) (k : Mp → Prop) : Prop := match o with
  | .ref q => match M q with
    | some (.ins c' ds) => (c' = c ∧ i ≤ ds.length) ∧ k (mupd M q (.ins c (putL ds i v)))
    | _ => False
  | _ => False
def dSetFld (c : Cl) (i : Nat) (te to : DE) : DS := fun D env M => te env M fun v M1 => to env M1 fun o M2 => mFld M2 o c i v fun M3 => D.nx env M3
theorem pds_setFld {c : Cl} {i : Nat} {f : Str} {value : Expr} (T : ClsT X.K c) (he : PDE X value te) (ho : PDE X o to) (hf : c.fs[i]? = some f := by rfl) (hs : swapsWith value (some (.Attribute o f tpos)) pos.line X.env = pure false := by rfl) :
    PDS X (.Assign [.Attribute o f tpos] value pos) (dSetFld c i te to) :=
  ps_imp (ps_fld ho he hs) fun D σ H ⟨R, F, env, M, Dd, a, e, h, k⟩ => ⟨R, F, env, M, _, a, e, h, fun F1 H1 M1 d v s1 a1 r1 q1 => ⟨R, F1, env, M1, _, a1, e.mono s1, q1, fun F2 H2 M2 d2 v2 s2 a2 r2 q2 => by
    unfold mFld at q2
    split at q2
    · rename_i q
      cases (show v2 = V.ref q from r2)
      split at q2
      · rename_i c' ds hm
        obtain ⟨⟨rfl, hi⟩, q2⟩ := q2
        obtain ⟨_, u, hu, dx, xs, rfl, l, rx⟩ := a2.mu _ _ hm
        have hl := rx.length
        have hif : i < c'.fs.length := (List.getElem?_eq_some_iff.mp hf).1
        have ep := putF_zip (y := v) T.nd hf (xs := xs) (by omega) (by omega)
        refine ⟨q, _, dx, _, rfl, hu, T.cl, T.na f (List.mem_of_getElem? hf), ?_, ?_⟩
        · rw [List.length_zip]; have := T.few; omega
        · rw [ep]
          have hpl := putL_len (xs := ds) (i := i) (v := d)
          exact k.nx F2 _ _ env σ (s1.trans s2) (a2.wrote hm (o := .ins c' (putL ds i d)) ⟨dx, _, rfl, by omega, Reps.putL (r1.mono s2) rx⟩) ((e.mono s1).mono s2) q2
      · exact q2.elim
    · exact q2.elim⟩⟩
/-- a method as it stands behind the top -/
structure MethAt (K : PySem.W.Frag) (c : Cl) (m : Str) (qual : Str) (st : Stmt) : Prop where
  ex : ∃ f fd, FunD K m qual (defArgs st) (defBody st) (defScope st) [] [] f fd ∧ Meth K (He.ga K c.nm) m f
/-- .. and keeps a promise -/
structure MethOk (P : Program) (w : World) (K : PySem.W.Frag) (mg : Str → Option Value) (base : Heap) (k : Nat) (c : Cl) (m : Str) (n : Nat) (sp : SpD) : Prop where
  ex : ∃ f fd ps, FnOk P w K mg base (L2N.CX P w) k f fd ps (upSp K n sp) ∧ ps.length = n ∧ Meth K (He.ga K c.nm) m f ∧ Binds K fd ps []
theorem MethOk.mono {P : Program} {w : World} {K : PySem.W.Frag} {mg : Str → Option Value} {base : Heap} {j k : Nat} {c : Cl} {x : Str} {n : Nat} {sp : SpD} (d : MethOk P w K mg base j c x n sp) (h : j ≤ k) : MethOk P w K mg base k c x n sp := by
  obtain ⟨f, fd, ps, a, b⟩ := d.ex
  exact ⟨f, fd, ps, a.mono h, b⟩
abbrev methCx (P : Program) (w : World) (K : PySem.W.Frag) (mg : Str → Option Value) (base : Heap) (N : List Str) (q : Str) (st : Stmt) (f : Addr) (cdv : Value) (A : Around) (outer : List PySem.Env) (s : Shared) (H : Hp) (E : XK) : Cx :=
  (cxOf (L2N.CX P w) P w K mg base N q (defScope st) f cdv A outer s H E).nox
/-- a def of any qualified name, with its defaults -/
theorem def_fnQ {P : Program} {w : World} {K : PySem.W.Frag} {mg : Str → Option Value} {base : Heap} {k : Nat} {x qual : Str} {st : Stmt} {f : Addr} {fd : FuncData} {N ps : List Str} {dvs : List V} {kws : List (Str × V)} {sp : SpD} {t : DS} (F : FunD K x qual (defArgs st) (defBody st) (defScope st) dvs kws f fd) (S : FnScope N ps (defScope st))
    (hb : ∀ f cdv A outer s H E, Room k (A.deeper (envOfC qual (defScope st) s.heap.objs.size f cdv)) → PDSs (methCx P w K mg base N qual st f cdv A outer s H E) (defBody st) t)
    (hr : ∀ ds M Q E, ds.length = ps.length → sp ds M Q E → t { nx := fun _ M' => Q .non M', rt := Q } (startD N ds) M) : FnOk P w K mg base (L2N.CX P w) (k + 1) f fd ps (upSp K ps.length sp) := by
  refine F.ok S (fun vs H Q E ⟨R, F, M, ds, Qd, Ed, _, r, hl, _⟩ => by rw [← r.length, hl]) (fun cdv A outer s H vs Q E hroom h => ?_)
  obtain ⟨R, F', M, ds, Qd, Ed, a, r, hl, hsp, kd, kx⟩ := h
  refine ⟨_, (hb f cdv A outer s H E hroom).nox, R, F', startD N ds, M, { nx := fun _ M' => Qd .non M', rt := Qd }, a, start_env r, hr ds M Qd Ed hl hsp, ⟨fun F1 H1 M1 env1 σ1 s1 a1 e1 q => kd F1 H1 M1 .non .non s1 a1 rfl q, kd, fun _ _ _ _ _ _ _ _ q => q.elim, fun _ _ _ _ _ _ _ _ q => q.elim⟩⟩
theorem meth_ok {P : Program} {w : World} {K : PySem.W.Frag} {mg : Str → Option Value} {base : Heap} {k : Nat} {c : Cl} {m qual : Str} {st : Stmt} {N ps : List Str} {sp : SpD} {t : DS} (d : MethAt K c m qual st) (S : FnScope N ps (defScope st))
    (bind : ∀ (kV doc pm : Value) (an : Option Addr) (cdv ct : Value) (us : List Value), us.length = ps.length → bindArgs (PySem.W.fnOf m qual (defArgs st) (defBody st) (defScope st) .none kV doc pm an cdv ct) ⟨us, []⟩ = pure (ps.zip us))
    (hb : ∀ f cdv A outer s H E, Room k (A.deeper (envOfC qual (defScope st) s.heap.objs.size f cdv)) → PDSs (methCx P w K mg base N qual st f cdv A outer s H E) (defBody st) t)
    (hr : ∀ ds M Q E, ds.length = ps.length → sp ds M Q E → t { nx := fun _ M' => Q .non M', rt := Q } (startD N ds) M) : MethOk P w K mg base (k + 1) c m ps.length sp := by
  obtain ⟨f, fd, F, hm⟩ := d.ex
  exact ⟨f, fd, ps, def_fnQ F S hb hr, rfl, hm, F.bindsN bind⟩
/-- o.m(e, ..) -/
def dMeth (c : Cl) (sp : SpD) (to : DE) (t : DA) : DE := fun env M Q => to env M fun o M1 => (match resI M1 o with
  | some (c', _) => c' = c
  | none => False) ∧ t env M1 fun ds M2 => sp (o :: ds) M2 Q X0
theorem resI_is {M : Mp} {o : D} {c : Cl} (h : match resI M o with
  | some (c', _) => c' = c
  | none => False) : ∃ ds, resI M o = some (c, ds) := by
  split at h
  · rename_i c' ds hr
    subst h
    exact ⟨ds, hr⟩
  · exact h.elim
theorem pd_meth {k n : Nat} {c : Cl} {m : Str} {sp : SpD} (d : MethOk X.prog X.w X.K X.mg X.base k c m n sp) (T : ClsT X.K c) (hr : Room k X.A) (ho : PDE X o to) (ha : PDA X (e :: es) t) (hn : (e :: es).length + 1 = n := by rfl) (hm : m ∉ c.fs := by decide +kernel)
    (hst : starEach (e :: es) X.env = (false, eval e X.env) :: starEach es X.env := by rfl) (hpl : (backTo pos (starEach es X.env)).any (·.1) = false := by rfl) {pl : Sem Bool}
    (ht : eval (.Call (.Attribute o m apos) (e :: es) [] pos) X.env = (do
      let ov ← eval o X.env
      standAt apos.atName
      let (f, first) ← holding [ov] (getMethod ov m pl)
      callWith pos f first (backTo pos (starEach (e :: es) X.env)) (backToKw pos (keywordEach [] X.env))) := by rfl) :
    PDE X (.Call (.Attribute o m apos) (e :: es) [] pos) (dMeth c sp to t) := by
  obtain ⟨f, fd, ps, F, hl, hme, hb⟩ := d.ex
  refine pe_imp (pe_meth (pl := pl) ho T.cl hme F hr hb .nil passE0 ha hst hpl ht) fun σ H Q ⟨R, F, env, M, Qd, a, e, h, k⟩ => ⟨R, F, env, M, _, a, e, h, fun F1 H1 M1 d v s1 a1 r1 q1 => ?_⟩
  obtain ⟨ds, hres⟩ := resI_is q1.1
  obtain ⟨p, dx, xs, rfl, hh, l, rx⟩ := resI_at a1 r1 hres
  refine ⟨p, dx, _, rfl, hh, lookup_zipN hm, R, F1, env, M1, _, a1, e.mono s1, q1.2, fun F2 H2 M2 es vs s2 a2 r2 l2 q2 => ?_⟩
  show upSp X.K n sp (V.ref p :: (vs ++ [])) H2 Q E0
  rw [List.append_nil]
  exact ⟨R, F2, M2, d :: es, Qd, X0, a2, ⟨_, vs, rfl, r1.mono s2, r2⟩, by rw [List.length_cons, l2, ← hn], q2, k.mono (s1.trans s2), kx0⟩
theorem pd_meth0 {k : Nat} {c : Cl} {m : Str} {sp : SpD} (d : MethOk X.prog X.w X.K X.mg X.base k c m 1 sp) (T : ClsT X.K c) (hr : Room k X.A) (ho : PDE X o to) (hm : m ∉ c.fs := by decide +kernel) {pl : Sem Bool}
    (ht : eval (.Call (.Attribute o m apos) [] [] pos) X.env = (do
      let ov ← eval o X.env
      standAt apos.atName
      let (f, first) ← holding [ov] (getMethod ov m pl)
      callWith pos f first (backTo pos (starEach [] X.env)) (backToKw pos (keywordEach [] X.env))) := by rfl) :
    PDE X (.Call (.Attribute o m apos) [] [] pos) (dMeth c sp to dNil) := by
  obtain ⟨f, fd, ps, F, hl, hme, hb⟩ := d.ex
  refine pe_imp (pe_meth0 (pl := pl) ho T.cl hme F hr hb .nil passE0 ht) fun σ H Q ⟨R, F, env, M, Qd, a, e, h, k⟩ => ⟨R, F, env, M, _, a, e, h, fun F1 H1 M1 d v s1 a1 r1 q1 => ?_⟩
  obtain ⟨ds, hres⟩ := resI_is q1.1
  obtain ⟨p, dx, xs, rfl, hh, l, rx⟩ := resI_at a1 r1 hres
  refine ⟨p, dx, _, rfl, hh, lookup_zipN hm, ?_⟩
  exact ⟨R, F1, M1, [d], Qd, X0, a1, ⟨_, [], rfl, r1, rfl⟩, rfl, q1.2, k.mono s1, kx0⟩
/-- the class c is made by an __init__ that keeps a promise; n values are written, dfl the defaults behind them -/
structure MkOk (P : Program) (w : World) (K : PySem.W.Frag) (mg : Str → Option Value) (base : Heap) (k : Nat) (c : Cl) (n : Nat) (dfl : List D) (sp : SpD) : Prop where
  ex : ∃ f fd ps ds dvs, FnOk P w K mg base (L2N.CX P w) k f fd ps (upSp K (n + 1 + dfl.length) sp) ∧ Mk K (He.ga K c.nm) f ∧ mg c.nm = some (.ref (He.ga K c.nm)) ∧ Binds K fd ps ds ∧ Vals dvs ds ∧ ∀ F, Reps K F dfl dvs
theorem MkOk.mono {P : Program} {w : World} {K : PySem.W.Frag} {mg : Str → Option Value} {base : Heap} {j k : Nat} {c : Cl} {n : Nat} {dfl : List D} {sp : SpD} (d : MkOk P w K mg base j c n dfl sp) (h : j ≤ k) : MkOk P w K mg base k c n dfl sp := by
  obtain ⟨f, fd, ps, ds, dvs, a, b⟩ := d.ex
  exact ⟨f, fd, ps, ds, dvs, a.mono h, b⟩
def dMake (c : Cl) (sp : SpD) (dfl : List D) (t : DA) : DE := fun env M Q => t env M fun ds M1 => ∀ p, M1 p = none → sp (.ref p :: (ds ++ dfl)) (mupd M1 p (.ins c [])) (fun v M2 => v = .non ∧ Q (.ref p) M2) X0
theorem make_up {K : PySem.W.Frag} {C : Addr} {c : Cl} {n : Nat} {dfl : List D} {dvs : List V} {sp : SpD} (hC : C = He.ga K c.nm) (hd : ∀ F, Reps K F dfl dvs) {R F : Hp} {M : Mp} {H : Hp} {ds : List D} {vs : List V} {Qd : DK} {Q : VK} (a : At K R F M H) (r : Reps K F ds vs) (l : ds.length = n)
    (h : ∀ p, M p = none → sp (.ref p :: (ds ++ dfl)) (mupd M p (.ins c [])) (fun v M2 => v = .non ∧ Qd (.ref p) M2) X0) (k : KD K R F Qd Q) (x dx : Addr) (hx : H x = none) (hdx : H dx = none) (hne : dx ≠ x) :
    upSp K (n + 1 + dfl.length) sp (.ref x :: (vs ++ dvs)) (upd (upd H dx (.own x)) x (.ins C dx [])) (fun v H2 => v = .non ∧ Q (.ref x) H2) E0 := by
  subst hC
  have a1 := a.skip hdx (.own x)
  have hx1 : upd H dx (.own x) x = none := by rw [upd_ne (Ne.symm hne)]; exact hx
  refine ⟨R, F, mupd M x (.ins c []), .ref x :: (ds ++ dfl), _, X0, a1.born hx1 (o := .ins c []) ⟨dx, [], by rw [List.zip_nil_right], Nat.zero_le _, rfl⟩, ⟨_, _, rfl, rfl, r.append (hd F)⟩, by simp; omega, h x (a.freeM hx), fun F' H' M' d v s' a' r' q => ?_, kx0⟩
  obtain ⟨rfl, q⟩ := q
  exact ⟨r', k F' H' M' (.ref x) _ s' a' rfl q⟩
theorem pd_make {k n : Nat} {c : Cl} {x : Str} {dfl : List D} {sp : SpD} (d : MkOk X.prog X.w X.K X.mg X.base k c n dfl sp) (hr : Room (k + 1) X.A) (ha : PDA X (e :: es) t) (hx : x = c.nm := by rfl) (hn : (e :: es).length = n := by rfl) (hg : Gl X x := by rfl)
    (hdb : (x == ("__debug__" : Str)) = false := by decide) (he : starEach (e :: es) X.env = (false, eval e X.env) :: starEach es X.env := by rfl) (hpl : (backTo pos (starEach es X.env)).any (·.1) = false := by rfl) :
    PDE X (.Call (.Name x p) (e :: es) [] pos) (dMake c sp dfl t) := by
  obtain ⟨f, fd, ps, ds, dvs, F, hmk, hm, hb, hv, hd⟩ := d.ex
  subst hx
  refine pe_imp (pe_make hmk F hr hg hm hb hv passE0 ha hdb he hpl) fun σ H Q ⟨R, F, env, M, Qd, a, e, h, k⟩ => ⟨R, F, env, M, _, a, e, h, fun F1 H1 M1 ds vs s1 a1 r1 l1 q1 x dx hx hdx hne => ?_⟩
  exact make_up rfl hd a1 r1 (by rw [l1, hn]) q1 (k.mono s1) x dx hx hdx hne
end
end L3
set_option Elab.async false
set_option linter.all false
set_option maxRecDepth 100000
set_option maxHeartbeats 1000000
namespace L3E
open PySem PySem.Spec PyProof.Rows L2
open PySem.Sem (wp)
open AutoSeq1 (wpAny_loadPart')
theorem meets_enumT_new (l : Addr) (items : Array Value) (n : Nat) (dct : Option Addr) (sl : Array (Option Value)) :
    Meets (Builtin.«enumerate.__new__» ⟨[.type "enumerate", .ref l], []⟩) (fun _ R s => s.heap.get? l = some { cls := .type "tuple", dict := dct, data := .seq items n, slots := sl } ∧
      R (.ok (.ret (.ref (s.heap.push { cls := .type "tuple_iterator", data := .fields #[.ref l, .int 0 0] }).objs.size)))
        { s with heap := (s.heap.push { cls := .type "tuple_iterator", data := .fields #[.ref l, .int 0 0] }).push { cls := .type "enumerate", data := .fields #[.none, .bool false, .ref s.heap.objs.size, rawInt 0, .none, .none] } }) :=
  .of_wp fun prog w A R s h => by
    obtain ⟨hp, g, d, tk, os⟩ := s; obtain ⟨hl, h⟩ := h
    have hsub := sub_enumerate
    have hL : Heap.IsTuple (Shared.heap ⟨hp, g, d, tk, os⟩) l items := ⟨_, hl, rfl, n, rfl⟩
    wp_walk using wpAny_loadPart' hl
    refine wpAny_stack_any fun st => wpAny_pure ?_
    split
    · rename_i c _ _ _ _ _
      cases (c == Value.type "enumerate")
      · wp_walk using wpAny_loadPart' hl, wpAny_pyIter_tuple hL
        exact ⟨_, rfl, h⟩
      · wp_walk using wpAny_loadPart' hl, wpAny_pyIter_tuple hL
        exact ⟨_, rfl, h⟩
    · wp_walk using wpAny_loadPart' hl, wpAny_pyIter_tuple hL
      exact ⟨_, rfl, h⟩
section
variable {prog : Program} {w : World} {A : Around} {E : Value → Shared → Prop} {s : Shared}
theorem enumT_next_item {e it l : Addr} {i : Nat} {items : Array Value} {x old : Value} {Q : Value → Shared → Prop}
    (he : IsEnum s.heap e it i old) (hit : s.heap.IsTupleIter it l i) (hl : s.heap.IsTuple l items) (hx : items[i]? = some x) (hne : e ≠ it)
    (hQ : ∀ h', IsEnumOut h' e it ((i : Int) + 1) x s.heap.objs.size → h'.IsTupleIter it l (i + 1) →
      h'.get? s.heap.objs.size = some { cls := .type "tuple", data := .seq #[.int i s.toks, x] } → h'.objs.size = s.heap.objs.size + 1 →
      (∀ b o, b ≠ e → b ≠ it → s.heap.get? b = some o → h'.get? b = some o) → Q (.ref s.heap.objs.size) { s with heap := h', toks := s.toks + 1 }) :
    wpAny (model prog w) A (Builtin.«enumerate.__next__» ⟨[.ref e], []⟩) (fun fin s' => ∃ v, fin = .done (.ret v) ∧ Q v s') E s := by
  obtain ⟨hp, g, d, tk, os⟩ := s
  show wpAny _ _ (field (.ref e) 2 >>= _) _ _ _
  refine wpAny_bind (wpAny_field he rfl (x := .ref it) rfl ?_)
  refine wpAny_bind (RZ.nextOf_tuple_item hit hl hx fun h₁ hit₁ hs₁ => ?_)
  replace hs₁ : Heap.SameBut it hp h₁ := hs₁
  have he₁ : IsEnum h₁ e it i old := (hs₁.2 e hne).trans he
  show wpAny _ _ (field (.ref e) 3 >>= _) _ _ ⟨h₁, g, d, tk, os⟩
  refine wpAny_bind (wpAny_field he₁ rfl (x := rawInt i) rfl ?_)
  show wpAny _ _ (field (.ref e) 4 >>= _) _ _ ⟨h₁, g, d, tk, os⟩
  refine wpAny_bind (wpAny_field he₁ rfl (x := .none) rfl ?_)
  show wpAny _ _ (mkInt i >>= _) _ _ ⟨h₁, g, d, tk, os⟩
  refine wpAny_bind (wpAny_mkInt ?_)
  show wpAny _ _ (setField (.ref e) 3 (rawInt ((i : Int) + 1)) >>= _) _ _ ⟨h₁, g, d, tk + 1, os⟩
  refine wpAny_bind (wpAny_setField_rec he₁ (by simp) fun h₂ he₂ hs₂ => ?_)
  replace hs₂ : Heap.SameBut e h₁ h₂ := hs₂
  replace he₂ : IsEnum h₂ e it ((i : Int) + 1) old := he₂
  show wpAny _ _ (setField (.ref e) 4 .none >>= _) _ _ ⟨h₂, g, d, tk + 1, os⟩
  refine wpAny_bind (wpAny_setField_rec he₂ (by simp) fun h₃ he₃ hs₃ => ?_)
  replace hs₃ : Heap.SameBut e h₂ h₃ := hs₃
  replace he₃ : IsEnum h₃ e it ((i : Int) + 1) old := he₃
  show wpAny _ _ (newTuple [.int i tk, x] >>= _) _ _ ⟨h₃, g, d, tk + 1, os⟩
  refine wpAny_bind (wpAny_newTuple ?_)
  have he₄ : IsEnum (h₃.push { cls := .type "tuple", data := .seq #[.int i tk, x] }) e it ((i : Int) + 1) old := Heap.get?_push_of_some _ he₃
  generalize hh₄ : h₃.push { cls := .type "tuple", data := .seq #[.int i tk, x] } = h₄ at he₄
  have hsz : h₃.objs.size = hp.objs.size := by rw [hs₃.1, hs₂.1, hs₁.1]
  have hel : e < hp.objs.size := Heap.lt_size he
  have ht₄ : h₄.get? hp.objs.size = some { cls := .type "tuple", data := .seq #[.int i tk, x] } := by rw [← hh₄, ← hsz]; exact Heap.get?_push_size _ rfl
  have hz₄ : h₄.objs.size = hp.objs.size + 1 := by rw [← hh₄, Heap.size_push, hsz]
  have hk₄ : ∀ b o, b ≠ e → b ≠ it → hp.get? b = some o → h₄.get? b = some o := fun b o hbe hbi hb => by
    rw [← hh₄]; exact Heap.get?_push_of_some _ (hs₃.extBut b o hbe (hs₂.extBut b o hbe (hs₁.extBut b o hbi hb)))
  have hit₄ : h₄.IsTupleIter it l (i + 1) := by
    rw [← hh₄]; obtain ⟨o, ho, r⟩ := (hit₁.extBut hs₂.extBut (Ne.symm hne)).extBut hs₃.extBut (Ne.symm hne); exact ⟨o, Heap.get?_push_of_some _ ho, r⟩
  show wpAny _ _ (Builtin.SmallTypes.ownedTupleIsFree (.ref e) >>= _) _ _ ⟨h₄, g, d, tk + 1, os⟩
  rw [hsz]
  clear hh₄ he₃ hs₃ he₂ hs₂ he₁ hs₁ hit₁ hsz h₃ h₂ h₁
  refine wpAny_bind ?_
  · unfold Builtin.SmallTypes.ownedTupleIsFree
    refine wpAny_bind (wpAny_field he₄ rfl (x := .none) rfl (wpAny_pure ?_))
    simp only [if_true]
    refine wpAny_bind (wpAny_rule ?_)
    refine wpAny_bind (wpAny_field he₄ rfl (x := old) rfl ?_)
    refine wpAny_bind (wpAny_setField_rec he₄ (by simp) fun h₅ he₅ hs₅ => ?_)
    replace hs₅ : Heap.SameBut e h₄ h₅ := hs₅
    replace he₅ : IsEnum h₅ e it ((i : Int) + 1) x := he₅
    show wpAny _ _ (Builtin.SmallTypes.ownedTupleHandOut (.ref e) (.ref hp.objs.size) >>= _) _ _ ⟨h₅, g, d, tk + 1, os⟩
    refine wpAny_bind ?_
    · unfold Builtin.SmallTypes.ownedTupleHandOut
      refine wpAny_bind (wpAny_setField_rec he₅ (by simp) fun h₆ he₆ hs₆ => ?_)
      replace hs₆ : Heap.SameBut e h₅ h₆ := hs₆
      replace he₆ : IsEnumOut h₆ e it ((i : Int) + 1) x hp.objs.size := he₆
      refine wpAny_setField_rec he₆ (by simp) fun h₇ he₇ hs₇ => ?_
      replace hs₇ : Heap.SameBut e h₆ h₇ := hs₇
      replace he₇ : IsEnumOut h₇ e it ((i : Int) + 1) x hp.objs.size := he₇
      refine wpAny_bind (wpAny_letGo (wpAny_pure ⟨_, rfl, hQ h₇ he₇ ?_ ?_ ?_ ?_⟩))
      · exact ((hit₄.extBut hs₅.extBut (Ne.symm hne)).extBut hs₆.extBut (Ne.symm hne)).extBut hs₇.extBut (Ne.symm hne)
      · exact hs₇.extBut _ _ (Nat.ne_of_gt hel) (hs₆.extBut _ _ (Nat.ne_of_gt hel) (hs₅.extBut _ _ (Nat.ne_of_gt hel) ht₄))
      · rw [hs₇.1, hs₆.1, hs₅.1, hz₄]
      · exact fun b o hbe hbi hb => hs₇.extBut b o hbe (hs₆.extBut b o hbe (hs₅.extBut b o hbe (hk₄ b o hbe hbi hb)))
theorem pyNext_enumT_item {e it l : Addr} {i : Nat} {items : Array Value} {x old : Value} {Q : Option Value → Shared → Prop}
    (he : IsEnum s.heap e it i old) (hit : s.heap.IsTupleIter it l i) (hl : s.heap.IsTuple l items) (hx : items[i]? = some x) (hne : e ≠ it)
    (hQ : ∀ h', IsEnumOut h' e it ((i : Int) + 1) x s.heap.objs.size → h'.IsTupleIter it l (i + 1) →
      h'.get? s.heap.objs.size = some { cls := .type "tuple", data := .seq #[.int i s.toks, x] } → h'.objs.size = s.heap.objs.size + 1 →
      (∀ b o, b ≠ e → b ≠ it → s.heap.get? b = some o → h'.get? b = some o) → Q (some (.ref s.heap.objs.size)) { s with heap := h', toks := s.toks + 1 }) :
    wpAny (model prog w) A (pyNext (.ref e)) Q E s := by
  have hT : s.TypeIs (.ref e) "enumerate" := ⟨_, he, rfl⟩
  unfold pyNext
  exact wpAny_bind (wpAny_attempt (wpAny_callSpecial?_slot (name := Str.ofString "__next__") hT F.slot_enumerate_next
    (wpAny_call_entry F.slot_enumerate_next hT F.entry_enumerate_next
      (enumT_next_item he hit hl hx hne fun h' a b c d k => wpAny_pure (hQ h' a b c d k)) (F.args_enumerate_next_1 _))))
theorem pyNext_enumT_end {e it l : Addr} {i : Nat} {items : Array Value} {old : Value} {Q : Option Value → Shared → Prop} (hh : A.handled = none)
    (he : IsEnum s.heap e it i old) (hit : s.heap.IsTupleIter it l i) (hl : s.heap.IsTuple l items) (hx : items[i]? = none)
    (hQ : ∀ h', Heap.ExtBut it s.heap h' → Q none { s with heap := h' }) : wpAny (model prog w) A (pyNext (.ref e)) Q E s := by
  have hT : s.TypeIs (.ref e) "enumerate" := ⟨_, he, rfl⟩
  unfold pyNext
  refine wpAny_bind (wpAny_attempt (wpAny_callSpecial?_slot (name := Str.ofString "__next__") hT F.slot_enumerate_next
    (wpAny_call_entry F.slot_enumerate_next hT F.entry_enumerate_next ?_ (F.args_enumerate_next_1 _))))
  show wpAny _ _ (field (.ref e) 2 >>= _) _ _ _
  refine wpAny_bind (wpAny_field he rfl (x := .ref it) rfl ?_)
  refine wpAny_bind (RZ.nextOf_tuple_end hh hit hl hx fun h' x he' hx' => ?_)
  obtain ⟨o, ho, hc⟩ := hx'
  refine wpAny_bind (wpAny_isInstance (T := "StopIteration") (b := true) ⟨o, ho, hc⟩ isSubtype_stop ?_)
  exact wpAny_pure (hQ _ he')
theorem call_enumT {l : Addr} {items : Array Value} {Q : Value → Shared → Prop} (hL : s.heap.IsTuple l items)
    (h : ∀ h', IsEnum h' (s.heap.objs.size + 1) s.heap.objs.size 0 .none → h'.IsTupleIter s.heap.objs.size l 0 → h'.objs.size = s.heap.objs.size + 2 →
      (∀ b o, s.heap.get? b = some o → h'.get? b = some o) → Q (.ref (s.heap.objs.size + 1)) { s with heap := h' }) :
    wpAny (model prog w) A (call (.type "enumerate") [.ref l]) Q E s := by
  obtain ⟨⟨c, dct, dt, sl⟩, hl, hc, n, hd⟩ := hL
  replace hc : c = .type "tuple" := hc
  replace hd : dt = .seq items n := hd
  subst hc hd
  refine callType_new F.called_enumerate (by decide) (F.typeCall_enumerate_1 _) (F.newCall_enumerate_1 _) (fun obj => F.args_object_init_2 obj _) F.entry_enumerate_new
    (meets_enumT_new l items n dct sl) ⟨hl, ?_⟩
  have hz : (s.heap.push { cls := .type "tuple_iterator", data := .fields #[.ref l, .int 0 0] }).objs.size = s.heap.objs.size + 1 := Heap.size_push ..
  show _ ∧ _
  rw [hz]
  have he : IsEnum ((s.heap.push { cls := .type "tuple_iterator", data := .fields #[.ref l, .int 0 0] }).push
      { cls := .type "enumerate", data := .fields #[.none, .bool false, .ref s.heap.objs.size, rawInt 0, .none, .none] }) (s.heap.objs.size + 1) s.heap.objs.size 0 .none := by
    have := Heap.get?_push_size (s.heap.push { cls := .type "tuple_iterator", data := .fields #[.ref l, .int 0 0] })
      (o := { cls := .type "enumerate", data := .fields #[.none, .bool false, .ref s.heap.objs.size, rawInt 0, .none, .none] }) rfl
    rw [hz] at this; exact this
  refine ⟨⟨_, he, rfl⟩, h _ he ⟨_, Heap.get?_push_of_some _ (Heap.get?_push_size _ rfl), rfl, rfl⟩ (by rw [Heap.size_push, hz]) fun b o x => Heap.get?_push_of_some _ (Heap.get?_push_of_some _ x)⟩
end
/-- the list at a as it stands at each turn, each item in a new pair -/
def IteT (K : PySem.W.Frag) (a : Addr) : It :=
  ⟨fun i H => ∃ (xs : List V) (x : V), SqT K H a xs ∧ xs[i]? = some x, fun i H v H' => ∃ T x, v = .ref T ∧ H T = none ∧ H' = upd H T (.tup [.int (i : Nat), x]) ∧ ∀ xs, SqT K H a xs → xs[i]? = some x, fun i H => ∃ xs : List V, SqT K H a xs ∧ xs.length ≤ i⟩
theorem turn_enumT {P : Program} {w : World} {K : PySem.W.Frag} {elts : List Expr} {kk : Nat} {tpos : Pos} (a e it : Addr) :
    Turn P w K (.Tuple elts kk tpos) (IteT K a) [e, it] e (fun i h => (∃ old, IsEnum h e it ((i : Nat) : Int) old) ∧ h.IsTupleIter it a i ∧ e ≠ it) where
  mem := by simp
  obj := fun i h st b hb => by
    obtain ⟨⟨old, he⟩, ⟨o, ho, hc, hd⟩, _⟩ := st
    have e' : b = e ∨ b = it := by simpa using hb
    rcases e' with z | z
    · rw [z]; exact ⟨_, he, fun v q => nomatch q⟩
    · rw [z]; exact ⟨o, ho, fun v q => by rw [hd] at q; cases q⟩
  keep := fun i h h' st k => let ⟨⟨old, he⟩, hi, hne⟩ := st; ⟨⟨old, k e (by simp) _ he⟩, hi.at fun o q => k it (by simp) o q, hne⟩
  item := by
    intro X hP hw hK hc i pins s σ H E I hf st hg
    subst hP hw hK
    obtain ⟨⟨old, he⟩, hit, hne⟩ := st
    obtain ⟨xs, x, hq, hx⟩ := hg
    obtain ⟨its, rv, p, hz⟩ := I.tuple hq
    obtain ⟨u, hu, ru⟩ := rv.get hx
    have hel : e < s.heap.objs.size := Heap.lt_size he
    have hil : it < s.heap.objs.size := by obtain ⟨_, q, _⟩ := hit; exact Heap.lt_size q
    refine pyNext_enumT_item he hit (show s.heap.IsTuple a its.toArray from p) (x := u) (by simpa using hu) hne fun h' ho hit' hT hsz hk => ?_
    refine ⟨_, rfl, wpAny_letOwnedTupleGo_enum (s := { s with heap := h', toks := s.toks + 1 }) ho fun h'' he' sb => ?_⟩
    have hT2 : h''.get? s.heap.objs.size = some { cls := .type "tuple", data := .seq #[.int i s.toks, u] } := (sb.2 _ (Nat.ne_of_gt hel)).trans hT
    have new : ObjOk X.prog X.w (upd H s.heap.objs.size (.tup [.int (i : Nat), x])) h'' s.heap.objs.size (.tup [.int (i : Nat), x]) :=
      ⟨by show 2 ≤ sizeLine; decide, [.int i s.toks, u], .cons ⟨_, rfl⟩ (.cons ru .nil), ⟨_, hT2, rfl, _, rfl⟩⟩
    have I1 : Inv X pins σ (upd H s.heap.objs.size (.tup [.int (i : Nat), x])) { s with heap := h'', toks := s.toks + 1 } :=
      I.turnedNew (ch := [e, it]) (fun b ob hb q => (sb.2 b (fun z => hb (by simp [z]))).trans (hk b ob (fun z => hb (by simp [z])) (fun z => hb (by simp [z])) q)) hf (Nat.le_refl _) new
    refine ⟨.ref s.heap.objs.size, _, I1, rfl, ⟨_, x, rfl, I.hok.fresh (Nat.le_refl _), rfl, fun ys hy => by rw [I.tuple_inj hy hq]; exact hx⟩, ⟨⟨u, ?_⟩, hit'.at fun o q => (sb.2 it (Ne.symm hne)).trans q, hne⟩, fun b hb => ?_⟩
    · have e1 : ((i + 1 : Nat) : Int) = (i : Int) + 1 := by omega
      rw [e1]; exact he'
    · have hb' : b < s.heap.objs.size := by
        have e' : b = e ∨ b = it := by simpa using hb
        rcases e' with z | z
        · rw [z]; exact hel
        · rw [z]; exact hil
      rw [upd_ne (Nat.ne_of_lt hb')]
      exact (hf b hb).1
  done := by
    intro X hP hw hK hc i pins s σ H E I hf st hg
    subst hP hw hK
    obtain ⟨⟨old, he⟩, hit, hne⟩ := st
    obtain ⟨xs, hq, hx⟩ := hg
    obtain ⟨its, rv, p, hz⟩ := I.tuple hq
    obtain ⟨f0, f1, f2, f3, f4, f5⟩ := hf it (by simp)
    have hl := rv.length
    exact pyNext_enumT_end (I.ok.hd hc) he hit (show s.heap.IsTuple a its.toArray from p) (by simp; omega) fun h' eb => ⟨rfl, I.turned (t' := s.toks) (fun b o hb q => eb b o hb q) f0 f1 f3 f4 f5⟩
  self := fun A i s Q E st h => let ⟨⟨_, he⟩, _⟩ := st; wpAny_pyIter_enum he h
/-- .. or of a list -/
def iEnumB (K : PySem.W.Frag) (ta : TA) : TI := fun σ H R => ta σ H fun vs H1 => ∃ a, vs = [.ref a] ∧ ((∃ xs, SqL K H1 a xs ∧ R (Ite K a) H1) ∨ ∃ xs, SqT K H1 a xs ∧ R (IteT K a) H1)
theorem pi_enumB {X : Cx} {e : Expr} {ta : TA} {p pos tpos : Pos} {elts : List Expr} {kk : Nat} (hg : Gl X "enumerate") (hm : X.mg "enumerate" = none) (ha : PA X [e] ta) (hs : starEach [e] X.env = [(false, eval e X.env)] := by rfl) :
    PI X (.Tuple elts kk tpos) (.Call (.Name "enumerate" p) [e] [] pos) (iEnumB X.K ta) := by
  refine ⟨fun pins s σ H R I h => ?_⟩
  refine Call_ (ld_blt I hg hm boot_enumerate (PyProof.Rows.callWith_type1 (thn (ha.run pos pins s σ H _ I h) fun us s1 ⟨vs, H1, I1, r1, q1⟩ => ?_) hs rfl))
  obtain ⟨a, ex, q⟩ := q1
  subst ex
  cases r1 with
  | cons r rr =>
    cases rr
    cases r
    rcases q with ⟨xs, hq, q⟩ | ⟨xs, hq, q⟩
    · obtain ⟨its, rv, p', hz⟩ := I1.list hq
      refine call_enumerate_list p'.isList fun h' he hit hsz hk => wpAny_pyIter_enum he ?_
      have I2 : Inv X pins σ H1 { s1 with heap := h' } := I1.kept (t' := s1.toks) hk
      refine ⟨s1.heap.objs.size + 1, [s1.heap.objs.size + 1, s1.heap.objs.size], _, _, H1, rfl, I2, turn_enum a (s1.heap.objs.size + 1) s1.heap.objs.size, ⟨⟨.none, he⟩, hit, Nat.succ_ne_self _⟩, fun b hb => ?_, q⟩
      have e' : b = s1.heap.objs.size + 1 ∨ b = s1.heap.objs.size := by simpa using hb
      have hle : s1.heap.objs.size ≤ b := by
        rcases e' with z | z
        · rw [z]; exact Nat.le_add_right _ _
        · rw [z]; exact Nat.le_refl _
      exact I1.fpOk hle (I1.hok.fresh hle)
    · obtain ⟨its, rv, p', hz⟩ := I1.tuple hq
      refine call_enumT (show s1.heap.IsTuple a its.toArray from p') fun h' he hit hsz hk => wpAny_pyIter_enum he ?_
      have I2 : Inv X pins σ H1 { s1 with heap := h' } := I1.kept (t' := s1.toks) hk
      refine ⟨s1.heap.objs.size + 1, [s1.heap.objs.size + 1, s1.heap.objs.size], _, _, H1, rfl, I2, turn_enumT a (s1.heap.objs.size + 1) s1.heap.objs.size, ⟨⟨.none, he⟩, hit, Nat.succ_ne_self _⟩, fun b hb => ?_, q⟩
      have e' : b = s1.heap.objs.size + 1 ∨ b = s1.heap.objs.size := by simpa using hb
      have hle : s1.heap.objs.size ≤ b := by
        rcases e' with z | z
        · rw [z]; exact Nat.le_add_right _ _
        · rw [z]; exact Nat.le_refl _
      exact I1.fpOk hle (I1.hok.fresh hle)
/-- a list or a tuple, walked -/
def iSeqB (K : PySem.W.Frag) (tl : TE) : TI := fun σ H R => tl σ H fun x H1 => ∃ a, x = .ref a ∧ (((∃ xs, SqL K H1 a xs) ∧ R (Itl K a) H1) ∨ ((∃ xs, SqT K H1 a xs) ∧ R (Itt K a) H1))
theorem pi_seqB {X : Cx} {tg l : Expr} {tl : TE} (hl : PE X l tl) : PI X tg l (iSeqB X.K tl) := by
  refine ⟨fun pins s σ H R I h => ?_⟩
  refine thn (hl.run pins s σ H _ I h) fun v s1 ⟨x, H1, I1, r1, q1⟩ => ?_
  obtain ⟨a, e, q⟩ := q1
  subst e
  cases r1
  rcases q with ⟨⟨xs, hq⟩, q⟩ | ⟨⟨xs, hq⟩, q⟩
  · obtain ⟨its, rv, p, hz⟩ := I1.list hq
    refine wpAny_pyIter_list p.isList ?_
    refine ⟨s1.heap.objs.size, [s1.heap.objs.size], _, _, H1, rfl, I1.kept (t' := s1.toks) fun b o e => Heap.get?_push_of_some _ e, turn_list a _, ⟨_, Heap.get?_push_size _ rfl, rfl, rfl⟩, fun b hb => ?_, q⟩
    have e : b = s1.heap.objs.size := by simpa using hb
    subst e
    exact I1.fpOk (Nat.le_refl _) (I1.hok.fresh (Nat.le_refl _))
  · obtain ⟨its, rv, p, hz⟩ := I1.tuple hq
    refine wpAny_pyIter_tuple (show s1.heap.IsTuple a its.toArray from p) ?_
    refine ⟨s1.heap.objs.size, [s1.heap.objs.size], _, _, H1, rfl, I1.kept (t' := s1.toks) fun b o e => Heap.get?_push_of_some _ e, turn_tuple a _, ⟨_, Heap.get?_push_size _ rfl, rfl, rfl⟩, fun b hb => ?_, q⟩
    have e : b = s1.heap.objs.size := by simpa using hb
    subst e
    exact I1.fpOk (Nat.le_refl _) (I1.hok.fresh (Nat.le_refl _))
end L3E
namespace L3
open PySem PySem.Spec PyProof.Rows L2
section
variable {X : Cx} {e : Expr} {t : DA} {pos p : Pos}
/-- what enumerate gives -/
def pairs (xs : List D) : List D := xs.mapIdx fun i x => .tup [.int (i : Nat), x]
theorem pairs_at {xs : List D} {i : Nat} {d : D} (h : (pairs xs)[i]? = some d) : ∃ x, xs[i]? = some x ∧ d = .tup [.int (i : Nat), x] := by
  unfold pairs at h
  rw [List.getElem?_mapIdx] at h
  cases hx : xs[i]? with
  | none => rw [hx] at h; cases h
  | some g => rw [hx] at h; cases h; exact ⟨g, rfl, rfl⟩
theorem gives_enumL {K : PySem.W.Frag} {F : Hp} {p : Addr} {ys : List V} {xs : List D} (hq : SqL K F p ys) (rx : Reps K F xs ys) (hz : ys.length ≤ sizeLine) : Gives K (Ite K p) F (pairs xs) := by
  refine ⟨by simp [pairs, rx.length, hz], fun R F' M H s a' => ⟨ys, a'.fz.seq (s.seq hq), by simp [pairs, rx.length]⟩, fun i d R F' M H s a' hi => ?_⟩
  obtain ⟨g, hx, rfl⟩ := pairs_at hi
  obtain ⟨y, hy, ry⟩ := rx.get hx
  refine ⟨⟨ys, y, a'.fz.seq (s.seq hq), hy⟩, fun v H' ⟨T, z, ev, hT, eH, hz⟩ => ?_⟩
  have := hz ys (a'.fz.seq (s.seq hq))
  rw [hy] at this; cases this
  subst ev eH
  exact new_pair a' hT rfl (ry.mono s)
theorem gives_enumT {K : PySem.W.Frag} {F : Hp} {p : Addr} {ys : List V} {xs : List D} (hq : SqT K F p ys) (rx : Reps K F xs ys) (hz : ys.length ≤ sizeLine) : Gives K (L3E.IteT K p) F (pairs xs) := by
  refine ⟨by simp [pairs, rx.length, hz], fun R F' M H s a' => ⟨ys, Same.seqT a'.fz (Same.seqT s hq), by simp [pairs, rx.length]⟩, fun i d R F' M H s a' hi => ?_⟩
  obtain ⟨g, hx, rfl⟩ := pairs_at hi
  obtain ⟨y, hy, ry⟩ := rx.get hx
  refine ⟨⟨ys, y, Same.seqT a'.fz (Same.seqT s hq), hy⟩, fun v H' ⟨T, z, ev, hT, eH, hz⟩ => ?_⟩
  have := hz ys (Same.seqT a'.fz (Same.seqT s hq))
  rw [hy] at this; cases this
  subst ev eH
  exact new_pair a' hT rfl (ry.mono s)
/-- enumerate of a list or a tuple -/
def seqOf : D → Option (List D)
  | .lst xs => some xs
  | .tup xs => some xs
  | _ => none
def iEnumA (t : DA) : DI := fun env M Q => t env M fun ds M1 => match ds with
  | [d] => match seqOf d with
    | some xs => Q (pairs xs) M1
    | none => False
  | _ => False
theorem pdi_enumA {elts : List Expr} {kk : Nat} {tpos : Pos} (hm : X.mg "enumerate" = none) (ha : PDA X [e] t) (hg : Gl X "enumerate" := by rfl) (hs : starEach [e] X.env = [(false, eval e X.env)] := by rfl) :
    PDI X (.Tuple elts kk tpos) (.Call (.Name "enumerate" p) [e] [] pos) (iEnumA t) := by
  refine pi_imp (L3E.pi_enumB hg hm (pa_held ha) hs) fun σ H Z ⟨R, F, env, M, Qd, a, e, h, k⟩ => ⟨R, F, env, M, _, a, e, h, fun F1 H1 M1 ds vs s1 a1 r1 l1 q1 pins s σ I => ?_⟩
  split at q1
  · rename_i d
    obtain ⟨x, r, rfl, rd, rfl⟩ := r1
    cases d with
    | lst xs =>
      obtain ⟨p, ys, rfl, hq', rx⟩ := rd
      have hq : SqL X.K F1 p ys := SqL.of hq'
      have hH := a1.fz.seq hq
      obtain ⟨its, rv, pl, hz⟩ := I.list hH
      exact ⟨p, rfl, .inl ⟨ys, hH, k F1 H1 M1 _ _ s1 a1 (gives_enumL hq rx hz) q1⟩⟩
    | tup xs =>
      obtain ⟨p, ys, rfl, hq, rx⟩ := rd
      have hH := Same.seqT a1.fz hq
      obtain ⟨its, rv, pl, hz⟩ := I.tuple hH
      exact ⟨p, rfl, .inr ⟨ys, hH, k F1 H1 M1 _ _ s1 a1 (gives_enumT hq rx hz) q1⟩⟩
    | _ => exact q1.elim
  · exact q1.elim
/-- a list or a tuple -/
def iSeq (te : DE) : DI := fun env M Q => te env M fun d M1 => match seqOf d with
  | some xs => Q xs M1
  | none => False
theorem pdi_seq {tg : Expr} {te : DE} (he : PDE X e te) : PDI X tg e (iSeq te) := by
  refine pi_imp (L3E.pi_seqB (pe_held he)) fun σ H Z ⟨R, F, env, M, Qd, a, e, h, k⟩ => ⟨R, F, env, M, _, a, e, h, fun F1 H1 M1 d v s1 a1 r1 q1 pins s σ I => ?_⟩
  cases d with
  | lst ds =>
    obtain ⟨p, xs, rfl, hq', rx⟩ := r1
    have hq : SqL X.K F1 p xs := SqL.of hq'
    have hH := a1.fz.seq hq
    obtain ⟨its, rv, pl, hz⟩ := I.list hH
    exact ⟨p, rfl, .inl ⟨⟨xs, hH⟩, k F1 H1 M1 ds _ s1 a1 (gives_list hq rx hz) q1⟩⟩
  | tup ds =>
    obtain ⟨p, xs, rfl, hq, rx⟩ := r1
    have hH := Same.seqT a1.fz hq
    obtain ⟨its, rv, pl, hz⟩ := I.tuple hH
    exact ⟨p, rfl, .inr ⟨⟨xs, hH⟩, k F1 H1 M1 ds _ s1 a1 (gives_tup hq rx hz) q1⟩⟩
  | _ => exact q1.elim
end
end L3
set_option Elab.async false
set_option linter.all false
set_option maxRecDepth 100000
set_option maxHeartbeats 4000000
namespace L3
open PySem PySem.Spec PyProof.Rows L2
open PySem.Sem (wp)
open AutoSeq1 (wpAny_loadPart')
theorem tuple_mul1 (l : Addr) (items : Array Value) (n : Nat) (dd : Option Addr) (sl : Array (Option Value)) (u : Tok) :
    Meets (Builtin.«tuple.__mul__» ⟨[.ref l, .int 1 u], []⟩) (fun _ R s => s.heap.get? l = some { cls := .type "tuple", dict := dd, data := .seq items n, slots := sl } ∧ R (.ok (.ret (Value.ref l))) s) :=
  .of_wp fun prog w A R s h => by
    obtain ⟨hp, g, d, tk, os⟩ := s
    obtain ⟨hl, h⟩ := h
    have f1 := AutoSeq1.idx_int
    have c1 : (items.isEmpty || (1 : Int) == 1) = true := by simp
    wp_walk using wpAny_loadPart' hl
    repeat (first
      | (refine wpAny_ite_true (by rw [c1]; rfl) ?_; wp_walk using wpAny_loadPart' hl)
      | (refine wpAny_ite_false (decide_eq_false (by decide)) ?_; wp_walk using wpAny_loadPart' hl)
      | (refine wpAny_ite_true (decide_eq_true c1) ?_; wp_walk using wpAny_loadPart' hl))
    exact ⟨_, rfl, h⟩
theorem tuple_mul0 (l : Addr) (items : Array Value) (n : Nat) (dd : Option Addr) (sl : Array (Option Value)) (u : Tok) (he : items.isEmpty = false) :
    Meets (Builtin.«tuple.__mul__» ⟨[.ref l, .int 0 u], []⟩) (fun _ R s => s.heap.get? l = some { cls := .type "tuple", dict := dd, data := .seq items n, slots := sl } ∧
      R (.ok (.ret (Value.ref s.heap.objs.size))) { s with heap := s.heap.push { cls := Value.type "tuple", data := Data.seq #[] }, toks := s.toks }) :=
  .of_wp fun prog w A R s h => by
    obtain ⟨hp, g, d, tk, os⟩ := s
    obtain ⟨hl, h⟩ := h
    have f1 := AutoSeq1.idx_int
    have c1 : (items.isEmpty || (0 : Int) == 1) = false := by rw [he]; rfl
    have c2 : (decide ((0 : Int) ≤ 0) || items.isEmpty) = true := by simp
    wp_walk using wpAny_loadPart' hl
    repeat (first
      | (refine wpAny_ite_false (decide_eq_false (by rw [c1]; exact Bool.false_ne_true)) ?_; wp_walk using wpAny_loadPart' hl)
      | (refine wpAny_ite_false (decide_eq_false (by decide)) ?_; wp_walk using wpAny_loadPart' hl)
      | (refine wpAny_ite_true (decide_eq_true c2) ?_; wp_walk using wpAny_loadPart' hl))
    exact ⟨_, rfl, h⟩
/-- tuple * 0, tuple * 1 -/
def rRep0 (K : PySem.W.Frag) : R2 := fun x y H Q => ∃ l xs, x = .ref l ∧ y = .int 0 ∧ SqT K H l xs ∧ xs ≠ [] ∧ ∀ p, H p = none → Q (.ref p) (upd H p (.tup []))
def rRep1 (K : PySem.W.Frag) : R2 := fun x y H Q => ∃ l xs, x = .ref l ∧ y = .int 1 ∧ SqT K H l xs ∧ Q (.ref l) H
section
variable {X : Cx}
theorem op_rep1 : OpR X (binaryOp .Mult) (rRep1 X.K) := by
  intro pins s σ H x y v u Q I rx ry h
  obtain ⟨l, xs, rfl, rfl, hT, q⟩ := h
  cases rx
  obtain ⟨t, rfl⟩ := ry
  obtain ⟨its, r, ⟨⟨cls, dd, data, sl⟩, ho, hc, n, hd⟩, hs⟩ := I.tuple hT
  simp only at hc hd
  subst hc hd
  refine wpAny_binaryOp_repeat_ref (T := "tuple") (U := "int") (by decide) ⟨_, ho, rfl⟩ (fun s' => typeIs_int s' 1 t) noFill_tuple_mul F.fills_int_mul F.slot_int_rmul repeat_tuple F.slot_int_index.lookup
    (call_meets F.slot_int_rmul (typeIs_int s 1 t) F.entry_int_rmul (F.args_int_rmul_2 _ _) (int_rmul_tuple 1 t l its.toArray n dd sl)
      ⟨ho, rfl, ⟨_, ho, rfl⟩, call_meets F.slot_tuple_mul ⟨_, ho, rfl⟩ F.entry_tuple_mul (F.args_tuple_mul_2 _ _) (tuple_mul1 l its.toArray n dd sl t) ⟨ho, ?_⟩⟩)
  exact ⟨.ref l, H, I, rfl, q⟩
theorem op_rep0 : OpR X (binaryOp .Mult) (rRep0 X.K) := by
  intro pins s σ H x y v u Q I rx ry h
  obtain ⟨l, xs, rfl, rfl, hT, hne, q⟩ := h
  cases rx
  obtain ⟨t, rfl⟩ := ry
  obtain ⟨its, r, ⟨⟨cls, dd, data, sl⟩, ho, hc, n, hd⟩, hs⟩ := I.tuple hT
  simp only at hc hd
  subst hc hd
  have hle : its.length = xs.length := r.length.symm
  have hi : its.toArray.isEmpty = false := by
    cases its with
    | nil => exact absurd (List.eq_nil_of_length_eq_zero hle.symm) hne
    | cons a b => rfl
  refine wpAny_binaryOp_repeat_ref (T := "tuple") (U := "int") (by decide) ⟨_, ho, rfl⟩ (fun s' => typeIs_int s' 0 t) noFill_tuple_mul F.fills_int_mul F.slot_int_rmul repeat_tuple F.slot_int_index.lookup
    (call_meets F.slot_int_rmul (typeIs_int s 0 t) F.entry_int_rmul (F.args_int_rmul_2 _ _) (int_rmul_tuple 0 t l its.toArray n dd sl)
      ⟨ho, rfl, ⟨_, ho, rfl⟩, call_meets F.slot_tuple_mul ⟨_, ho, rfl⟩ F.entry_tuple_mul (F.args_tuple_mul_2 _ _) (tuple_mul0 l its.toArray n dd sl t hi) ⟨ho, ?_⟩⟩)
  refine ⟨.ref s.heap.objs.size, _, I.laid (t' := s.toks) (o := .tup []) (fun b ob q => Heap.get?_push_of_some _ q) (Nat.le_refl _) ?_, rfl, q _ (I.hok.fresh (Nat.le_refl _))⟩
  exact ⟨Nat.zero_le _, _, .nil, IsTup.new _ _⟩
theorem reps_rep {K : PySem.W.Frag} {F : Hp} {ds : List D} {vs : List V} (r : Reps K F ds vs) : ∀ n : Nat, Reps K F (List.replicate n ds).flatten (List.replicate n vs).flatten
  | 0 => rfl
  | n + 1 => by
    rw [List.replicate_succ, List.replicate_succ, List.flatten_cons, List.flatten_cons]
    exact r.append (reps_rep r n)
/-- * of ints; a tuple by a number -/
def rMulD : R2D := fun d e M Q => match d, e with
  | .int i, .int j => CMul i j ∧ Q (.int (i * j)) M
  | .tup xs, .int k => (xs ≠ [] ∧ 0 ≤ k ∧ k ≤ 1000 ∧ xs.length ≤ 1000) ∧ Q (.tup (List.replicate k.toNat xs).flatten) M
  | _, _ => False
theorem opd_mulD : OpD X (binaryOp .Mult) rMulD := ⟨_, op_mul.or (op_rep0.or (op_rep1.or op_repT)), fun R F M H d e x y Qd Q a r1 r2 q kd => by
  unfold rMulD at q
  split at q
  · rename_i i j
    exact .inl ⟨i, j, r1, r2, q.1, kd F H M (.int _) _ (Same.refl _) a rfl q.2⟩
  · rename_i xs k
    obtain ⟨⟨hne, k0, k1, hz⟩, q⟩ := q
    obtain ⟨p, vx, rfl, hx, rx⟩ := r1
    obtain rfl : y = V.int k := r2
    have lx := rx.length
    have hv : vx ≠ [] := fun e => hne (List.eq_nil_of_length_eq_zero (by rw [lx, e]; rfl))
    refine .inr ?_
    rcases (show k = 0 ∨ k = 1 ∨ 2 ≤ k by omega) with rfl | rfl | h2
    · exact .inl ⟨p, vx, rfl, rfl, Same.seqT a.fz hx, hv, fun P hP => tup_new (ds := []) (vs := []) a rfl kd q hP⟩
    · refine .inr (.inl ⟨p, vx, rfl, rfl, Same.seqT a.fz hx, kd F H M (.tup xs) _ (Same.refl _) a ⟨p, vx, rfl, hx, rx⟩ ?_⟩)
      have e : (List.replicate (1 : Int).toNat xs).flatten = xs := by show (List.replicate 1 xs).flatten = xs; simp
      rw [e] at q
      exact q
    · exact .inr (.inr ⟨p, k, vx, rfl, rfl, Same.seqT a.fz hx, hv, h2, k1, by omega, fun P hP => tup_new a (reps_rep rx _) kd q hP⟩)
  · exact q.elim⟩
/-- int(x) of an int, a truth value, a text -/
def rIntB : R1D := fun d M Q => match d with
  | .int i => Q (.int i) M
  | .bl b => Q (.int (if b then 1 else 0)) M
  | .str x => match PySem.intText? x with
    | some n => x.length ≤ 640 ∧ Q (.int n) M
    | none => False
  | _ => False
theorem calld_intB : CallD X (.type "int") rIntB := ⟨_, call_int1.or call_int_str, fun R F M H d x Qd Q a r q kd => by
  cases d with
  | int i => cases (show x = V.int i from r); exact .inl (.inl ⟨i, rfl, kd F H M (.int i) _ (Same.refl _) a rfl q⟩)
  | bl b => cases (show x = V.bl b from r); exact .inl (.inr ⟨b, rfl, kd F H M (.int _) _ (Same.refl _) a rfl q⟩)
  | str y =>
    obtain ⟨e, hy⟩ := r
    subst e
    change (match PySem.intText? y with | some n => _ | none => False) at q
    split at q
    · rename_i n hn
      exact .inr ⟨y, n, rfl, hn, q.1, kd F H M (.int n) _ (Same.refl _) a rfl q.2⟩
    · exact q.elim
  | _ => exact q.elim⟩
variable {a b o i : Expr} {e : Expr} {te ta to ti : DE} {pos p apos : Pos}
end
end L3
set_option Elab.async false
set_option linter.all false
set_option maxRecDepth 100000
set_option maxHeartbeats 1000000
namespace L3
open PySem PySem.Spec PyProof.Rows L2
/-- an __init__ as it stands behind the top, dfl its defaults -/
structure InitAt (K : PySem.W.Frag) (mg : Str → Option Value) (c : Cl) (qual : Str) (st : Stmt) (dfl : List D) : Prop where
  ex : ∃ f fd dvs, FunD K "__init__" qual (defArgs st) (defBody st) (defScope st) dvs [] f fd ∧ Mk K (He.ga K c.nm) f ∧ mg c.nm = some (.ref (He.ga K c.nm)) ∧ ∀ F, Reps K F dfl dvs
structure InitOk (P : Program) (w : World) (K : PySem.W.Frag) (mg : Str → Option Value) (base : Heap) (k : Nat) (c : Cl) (qual : Str) (st : Stmt) (ps : List Str) (dfl : List D) (sp : SpD) : Prop where
  ex : ∃ f fd dvs, FnOk P w K mg base (L2N.CX P w) k f fd ps (upSp K ps.length sp) ∧ FunD K "__init__" qual (defArgs st) (defBody st) (defScope st) dvs [] f fd ∧ Mk K (He.ga K c.nm) f ∧ mg c.nm = some (.ref (He.ga K c.nm)) ∧ ∀ F, Reps K F dfl dvs
theorem init_ok {P : Program} {w : World} {K : PySem.W.Frag} {mg : Str → Option Value} {base : Heap} {k : Nat} {c : Cl} {qual : Str} {st : Stmt} {N ps : List Str} {dfl : List D} {sp : SpD} {t : DS} (d : InitAt K mg c qual st dfl) (S : FnScope N ps (defScope st))
    (hb : ∀ f cdv A outer s H E, Room k (A.deeper (envOfC qual (defScope st) s.heap.objs.size f cdv)) → PDSs (methCx P w K mg base N qual st f cdv A outer s H E) (defBody st) t)
    (hr : ∀ ds M Q E, ds.length = ps.length → sp ds M Q E → t { nx := fun _ M' => Q .non M', rt := Q } (startD N ds) M) : InitOk P w K mg base (k + 1) c qual st ps dfl sp := by
  obtain ⟨f, fd, dvs, F, hm, hg, hd⟩ := d.ex
  exact ⟨f, fd, dvs, def_fnQ F S hb hr, F, hm, hg, hd⟩
theorem nodflt {K : PySem.W.Frag} {dvs : List V} {ds : List D} {F : Hp} (r : Reps K F ds dvs) (h : ds ≠ []) : dvs ≠ [] := by
  intro e
  subst e
  exact h (List.eq_nil_of_length_eq_zero r.length)
/-- made with n values written, the defaults from the j-th on behind them -/
theorem InitOk.make {P : Program} {w : World} {K : PySem.W.Frag} {mg : Str → Option Value} {base : Heap} {k : Nat} {c : Cl} {qual : Str} {st : Stmt} {ps : List Str} {dfl : List D} {sp : SpD} (o : InitOk P w K mg base k c qual st ps dfl sp) (n j : Nat) (hne : dfl ≠ []) (hn : n + 1 + (dfl.length - j) = ps.length)
    (h : ∀ (T : Addr) (kV doc pm : Value) (an : Option Addr) (cdv ct : Value) (us its : List Value), us.length = n + 1 → its.length = dfl.length →
      ∃ k, bindArgs (PySem.W.fnOf "__init__" qual (defArgs st) (defBody st) (defScope st) (.ref T) kV doc pm an cdv ct) ⟨us, []⟩ = seqItems? (.ref T) >>= k ∧ k (some its.toArray) = pure (ps.zip (us ++ its.drop j))) : MkOk P w K mg base k c n (dfl.drop j) sp := by
  obtain ⟨f, fd, dvs, G, F, hm, hg, hd⟩ := o.ex
  have hl := (hd (fun _ => none)).length
  obtain ⟨ds, h1, h2⟩ := F.binds1 (ps := ps) (n + 1) j (nodflt (hd fun _ => none) hne) (by omega) fun T kV doc pm an cdv ct us its hu hi => h T kV doc pm an cdv ct us its hu (by omega)
  refine ⟨f, fd, ps, ds, dvs.drop j, ?_, hm, hg, h2, h1, fun F => (hd F).drop j⟩
  have e : n + 1 + (dfl.drop j).length = ps.length := by rw [List.length_drop]; omega
  rw [e]
  exact G
section
variable {X : Cx}
theorem pd_globT {x : Str} {ds : List D} {a : Addr} {pos : Pos} (hg : Gl X x) (h : X.mg x = some (.ref a) ∧ ∀ F, Rep X.K F (.tup ds) (.ref a)) (hd : (x == ("__debug__" : Str)) = false := by decide) : PDE X (.Name x pos) (dC (.tup ds)) := pd_glob (v := .ref a) hg h.1 rfl h.2 hd
end
/-- a tuple at an address told by the text -/
def tupAt (a : PySem.W.Frag → Addr) (vs : List He.Dv) (K : PySem.W.Frag) : Bool := match K.lookup (a K) with
  | some ⟨.type c, _, .seq its _, _⟩ => decide (c = "tuple") && (decide (its.size ≤ sizeLine) && He.relAll (vs.map (He.Dv.v K)) its.toList)
  | _ => false
theorem tupAt_ok {K : PySem.W.Frag} {a : PySem.W.Frag → Addr} {vs : List He.Dv} (h : tupAt a vs K = true) (H : Hp) : SqT K H (a K) (vs.map (He.Dv.v K)) := by
  unfold tupAt at h
  cases q : K.lookup (a K) with
  | none =>
    rw [q] at h
    cases h
  | some o =>
    obtain ⟨oc, od, dt, osl⟩ := o
    rw [q] at h
    cases oc with
    | type c =>
      cases dt with
      | seq its n =>
        obtain ⟨h1, h2⟩ := He.ba (show (decide (c = "tuple") && (decide (its.size ≤ sizeLine) && He.relAll (vs.map (He.Dv.v K)) its.toList)) = true from h)
        obtain ⟨h3, h4⟩ := He.ba h2
        exact .inr ⟨_, its, n, q, congrArg Value.type (of_decide_eq_true h1), rfl, of_decide_eq_true h3, He.relAll_ok h4⟩
      | _ => cases h
    | _ => cases dt <;> cases h
abbrev AlX : Type := Bool × He.AlD
def obsX (fb : List (PySem.W.Frag → Bool)) (fa : List He.Fa) (fn : List He.DefD) (K : PySem.W.Frag) : AlX := (fb.all fun b => b K, He.obsD fa fn K)
def valX (fn : List He.DefD) : AlX := (true, He.valD fn)
def SaysX (fb : List (PySem.W.Frag → Bool)) (fa : List He.Fa) (fn : List He.DefD) (K : PySem.W.Frag) : Prop := obsX fb fa fn K = valX fn
section
variable {fb : List (PySem.W.Frag → Bool)} {fa : List He.Fa} {fn : List He.DefD} {K : PySem.W.Frag}
theorem SaysX.d (c : SaysX fb fa fn K) : He.SaysD fa fn K := congrArg (fun z : AlX => z.2) c
theorem SaysX.b (c : SaysX fb fa fn K) (i : Nat) {f : PySem.W.Frag → Bool} (h : fb[i]? = some f := by rfl) : f K = true :=
  List.all_eq_true.mp (show (fb.all fun b => b K) = true from congrArg (fun z : AlX => z.1) c) f (List.mem_of_getElem? h)
end
end L3
set_option Elab.async false
set_option linter.all false
set_option maxRecDepth 100000
set_option maxHeartbeats 1000000
namespace L3
open PySem PySem.Spec PyProof.Rows L2
section
variable {X : Cx}
abbrev rDivW : R2D := r2I CDivW fun i j => .int (i / j)
theorem opd_fdivW : OpD X (binaryOp .FloorDiv) rDivW := opd_int op_fdivW fun _ _ _ _ => rfl
end
theorem div_wide {j : Int} (i : Int) (h : 0 < j) (h2 : j < 2 ^ 60) : CDivW i j := wide_div (b := 60) h (by omega) (by decide) (by decide)
end L3
set_option Elab.async false
set_option linter.all false
set_option maxRecDepth 100000
set_option maxHeartbeats 1000000
namespace L3
open PySem PySem.Spec PyProof.Rows L2
local macro_rules | `(tactic| walk_at "w") => `(tactic| conv => whnf)
set_option hygiene false in
local macro_rules | `(tactic| walk_at "m") => `(tactic| (conv => whnf; rw [resD_ref hM]; conv => whnf))
set_option hygiene false in
local macro_rules | `(tactic| walk_at "n") => `(tactic| (conv => whnf; rw [resD_new]; conv => whnf))
theorem resD_ref {M : Mp} {p : Addr} {ds : List D} (h : M p = some (.lst ds)) : resD M (.ref p) = .lst ds := by
  simp only [resD, h]
theorem resD_new {M : Mp} {p : Addr} {ds : List D} : resD (mupd M p (.lst ds)) (.ref p) = .lst ds := resD_ref mupd_same
def letters : Str := "abcdefghijklmnopqrstuvwxyz"
theorem letters_list : letters.cps.toList = (List.range 26).map (· + 97) := by decide +kernel
def isLetter (c : Nat) : Bool := decide (97 ≤ c) && decide (c ≤ 122)
theorem mem_letters (c : Nat) : c ∈ letters.cps.toList ↔ isLetter c = true := by
  rw [letters_list, List.mem_map]
  unfold isLetter
  rw [Bool.and_eq_true, decide_eq_true_eq, decide_eq_true_eq]
  constructor
  · rintro ⟨a, h, rfl⟩
    have := List.mem_range.mp h
    omega
  · rintro ⟨h1, h2⟩
    exact ⟨c - 97, List.mem_range.mpr (by omega), by omega⟩
theorem strIn_letters (c : Nat) : strIn ⟨#[c]⟩ letters = isLetter c := by
  unfold strIn
  rw [PySem.StrLaws.found_one]
  rw [Bool.eq_iff_iff, decide_eq_true_eq]
  exact mem_letters c
def isName (x : Str) : Bool := decide (0 < x.length) && (decide (x.length ≤ 6) && x.cps.toList.all isLetter)
theorem lc_go {t : Tg} {tt : DT} {te : DE} {env : DEnv} {Q : List D → Mp → Prop} {xs : List D} (Pv : Nat → List D → Mp → Prop)
    (hs : ∀ i x acc M (K : List D → Mp → Prop), xs[i]? = some x → Pv i acc M → (∀ acc' M', Pv (i + 1) acc' M' → K acc' M') → t.bind x env fun env1 => tt env1 M fun b M1 => brn b (te env1 M1 fun y M2 => K (acc ++ [y]) M2) (K acc M1))
    (hd : ∀ acc M, Pv xs.length acc M → Q acc M) : ∀ (r : List D) (k : Nat) (acc : List D) (M : Mp), xs.drop k = r → k ≤ xs.length → Pv k acc M → dLcL0 t tt te env r acc M Q
  | [], k, acc, M, e, hk, p => by
    have : k = xs.length := by have := List.drop_eq_nil_iff.mp e; omega
    subst this
    exact hd acc M p
  | x :: r, k, acc, M, e, hk, p => by
    have hx : xs[k]? = some x := by rw [← List.head?_drop, e]; rfl
    have hr : xs.drop (k + 1) = r := by rw [← List.drop_drop, e]; rfl
    have hlt : k < xs.length := (List.getElem?_eq_some_iff.mp hx).1
    exact hs k x acc M _ hx p fun acc' M' p' => lc_go Pv hs hd r (k + 1) acc' M' hr hlt p'
theorem lc_inv {t : Tg} {tt : DT} {te : DE} {env : DEnv} {M : Mp} {Q : List D → Mp → Prop} {xs : List D} (Pv : Nat → List D → Mp → Prop) (h0 : Pv 0 [] M)
    (hs : ∀ i x acc M (K : List D → Mp → Prop), xs[i]? = some x → Pv i acc M → (∀ acc' M', Pv (i + 1) acc' M' → K acc' M') → t.bind x env fun env1 => tt env1 M fun b M1 => brn b (te env1 M1 fun y M2 => K (acc ++ [y]) M2) (K acc M1))
    (hd : ∀ acc M, Pv xs.length acc M → Q acc M) : dLcL t tt te env xs [] M Q := by
  rw [dLcL_eq]; exact lc_go Pv hs hd xs 0 [] M rfl (Nat.zero_le _) h0
/-- each element is one value, nothing changes -/
theorem lc_map {t : Tg} {tt : DT} {te : DE} {env : DEnv} {M : Mp} {Q : List D → Mp → Prop} {xs : List D} (f : D → D)
    (h : ∀ x ∈ xs, ∀ (K1 : DK) (K2 : Mp → Prop), K1 (f x) M → t.bind x env fun env1 => tt env1 M fun b M1 => brn b (te env1 M1 K1) (K2 M1)) (q : Q (xs.map f) M) : dLcL t tt te env xs [] M Q := by
  refine lc_inv (fun i acc M' => M' = M ∧ acc = (xs.take i).map f) ⟨rfl, by simp⟩ (fun i x acc M' K hx ⟨e1, e2⟩ hK => ?_) fun acc M' ⟨e1, e2⟩ => ?_
  · subst e1
    refine h x (List.mem_of_getElem? hx) _ _ (hK _ _ ⟨rfl, ?_⟩)
    rw [e2, List.take_add_one, hx]; simp
  · rw [e1, e2, List.take_length]; exact q
theorem lc_filter {t : Tg} {tt : DT} {te : DE} {env : DEnv} {M : Mp} {Q : List D → Mp → Prop} {xs : List D} (p : D → Bool) (f : D → D)
    (h : ∀ x ∈ xs, ∀ (K1 : DK) (K2 : Mp → Prop), (p x = true → K1 (f x) M) → (p x = false → K2 M) → t.bind x env fun env1 => tt env1 M fun b M1 => brn b (te env1 M1 K1) (K2 M1)) (q : Q ((xs.filter p).map f) M) : dLcL t tt te env xs [] M Q := by
  refine lc_inv (fun i acc M' => M' = M ∧ acc = ((xs.take i).filter p).map f) ⟨rfl, by simp⟩ (fun i x acc M' K hx ⟨e1, e2⟩ hK => ?_) fun acc M' ⟨e1, e2⟩ => ?_
  · subst e1
    refine h x (List.mem_of_getElem? hx) _ _ (fun hp => hK _ _ ⟨rfl, ?_⟩) fun hp => hK _ _ ⟨rfl, ?_⟩
    · rw [e2, List.take_add_one, hx]; simp [List.filter_append, hp]
    · rw [e2, List.take_add_one, hx]; simp [List.filter_append, hp]
  · rw [e1, e2, List.take_length]; exact q
theorem for_go {t : Tg} {tb : DS} {E : DEnds} {xs : List D} (Pv : Nat → DEnv → Mp → Prop)
    (hs : ∀ i x env M (K : DEnv → Mp → Prop), xs[i]? = some x → Pv i env M → (∀ env' M', Pv (i + 1) env' M' → K env' M') → t.bind x env fun env1 => tb { E with nx := K, ct := K, bk := E.nx } env1 M)
    (hd : ∀ env M, Pv xs.length env M → E.nx env M) : ∀ (r : List D) (k : Nat) (env : DEnv) (M : Mp), xs.drop k = r → k ≤ xs.length → Pv k env M → dForL0 t tb r E env M
  | [], k, env, M, e, hk, p => by
    have : k = xs.length := by have := List.drop_eq_nil_iff.mp e; omega
    subst this
    exact hd env M p
  | x :: r, k, env, M, e, hk, p => by
    have hx : xs[k]? = some x := by rw [← List.head?_drop, e]; rfl
    have hr : xs.drop (k + 1) = r := by rw [← List.drop_drop, e]; rfl
    have hlt : k < xs.length := (List.getElem?_eq_some_iff.mp hx).1
    exact hs k x env M _ hx p fun env' M' p' => for_go Pv hs hd r (k + 1) env' M' hr hlt p'
theorem for_inv {t : Tg} {tb : DS} {E : DEnds} {xs : List D} {env : DEnv} {M : Mp} (Pv : Nat → DEnv → Mp → Prop) (h0 : Pv 0 env M)
    (hs : ∀ i x env M (K : DEnv → Mp → Prop), xs[i]? = some x → Pv i env M → (∀ env' M', Pv (i + 1) env' M' → K env' M') → t.bind x env fun env1 => tb { E with nx := K, ct := K, bk := E.nx } env1 M)
    (hd : ∀ env M, Pv xs.length env M → E.nx env M) : dForL t tb xs E env M := by
  rw [dForL_eq]; exact for_go Pv hs hd xs 0 env M rfl (Nat.zero_le _) h0
theorem rng_at {lo : Int} {n i : Nat} {x : D} (h : (rng lo n)[i]? = some x) : i < n ∧ x = .int (lo + i) := by
  have hlt : i < n := by have := (List.getElem?_eq_some_iff.mp h).1; rwa [rng_length] at this
  unfold rng at h
  rw [List.getElem?_map, List.getElem?_range hlt] at h
  cases h
  exact ⟨hlt, rfl⟩
structure Bag where
  cells : List Int
  at_ : Int
  left : Int
  seed : Int
def Bag.l (b : Bag) : List D := [.lst (b.cells.map D.int), .int b.at_, .int b.left, .int b.seed]
structure Bag.Ok (b : Bag) : Prop where
  at0 : 0 ≤ b.at_
  at1 : b.at_ ≤ b.cells.length
  left0 : 0 ≤ b.left
  seed0 : 0 ≤ b.seed
  seed1 : b.seed < 2147483563
def sp_law_bag : SpD := fun ds M Q _ => ∃ ns : List Int, ds = [.lsk (ns.map D.int)] ∧ ∀ p b, M p = none → Bag.Ok b → Q (.ref p) (mupd M p (.lst b.l))
def t_law_bag_1 : DS := (dRet (dLstM (dCons (dUn rListD (dSl (dVar 0) dNoPart (dPart (dC (.int 63))))) (dCons (dC (.int 0)) (dCons (dC (.int 0)) (dCons (dVar 1) dNil))))))
def t_law_bag : DS := (dSeq (dSet 1 (dC (.int 9450)))
    (dSeq (dFor (iLst (dSl (dVar 0) dNoPart (dPart (dC (.int 63))))) (.name 2) (dSet 1 (dBin rModI (dBin rAddD (dBin rAddD (dBin rMulI (dVar 1) (dC (.int 40014))) (dBin rModI (dVar 2) (dC (.int 2147483563)))) (dC (.int 13))) (dC (.int 2147483563)))))
    t_law_bag_1))
theorem cut_map {α β : Type} (f : α → β) (xs : List α) (lo hi : Option Int) : cut (xs.map f) lo hi = (cut xs lo hi).map f := by
  unfold cut; simp [List.map_drop, List.map_take]
theorem r_law_bag (ds : List D) (M : Mp) (Q : DK) (E : DX) (hl : ds.length = 1) (h : sp_law_bag ds M Q E) : t_law_bag { nx := fun _ M' => Q .non M', rt := Q } (startD ["_law_script", "_law_salt", "_law_cell"] ds) M := by
  obtain ⟨ns, rfl, q⟩ := h
  walk_at "w"
  rw [cut_map]
  refine for_inv (fun i env M' => M' = M ∧ ∃ (salt : Int) (c : Option D), env = [some (.lsk (ns.map D.int)), some (.int salt), c] ∧ 0 ≤ salt ∧ salt < 2147483563) ⟨rfl, 9450, none, rfl, by omega, by omega⟩ (fun i x env M' K hx ⟨e, salt, c, he, h0, h1⟩ hK => ?_) fun env M' ⟨e, salt, c, he, h0, h1⟩ => ?_
  · subst e he
    have hm := List.mem_of_getElem? hx
    obtain ⟨z, _, rfl⟩ := List.mem_map.mp hm
    walk_at "w"
    refine ⟨.inl (by omega), by omega, by omega, hK _ _ ⟨rfl, _, _, rfl, by omega, by omega⟩⟩
  · subst e he
    walk_at "w"
    intro p hp
    rw [cut_map]
    exact q p ⟨cut ns none (some 63), 0, 0, salt⟩ hp ⟨by show (0 : Int) ≤ 0; omega, by show (0 : Int) ≤ _; omega, by show (0 : Int) ≤ 0; omega, h0, h1⟩
theorem atI_0 {α : Type} {x : α} {xs : List α} : atI (x :: xs) 0 = some x := by
  unfold atI ixN; simp
theorem atI_of {α : Type} {xs : List α} {i : Nat} {x : α} (h : xs[i]? = some x) : atI xs (i : Int) = some x := atI_nat h
theorem atI_in {α : Type} {xs : List α} {i : Int} (h0 : 0 ≤ i) (h1 : i < xs.length) : ∃ x, atI xs i = some x ∧ x ∈ xs := by
  obtain ⟨j, rfl⟩ := Int.eq_ofNat_of_zero_le h0
  have hj : j < xs.length := by omega
  exact ⟨xs[j], atI_nat (List.getElem?_eq_getElem hj), List.getElem_mem hj⟩
def sp_law_pull : SpD := fun ds M Q _ => ∃ p b n, ds = [.ref p, .int n] ∧ M p = some (.lst (Bag.l b)) ∧ b.Ok ∧ 0 < n ∧ n < 1152921504606846976 ∧ ∀ r b', Bag.Ok b' → 0 ≤ r → r < n → Q (.int r) (mupd M p (.lst b'.l))
def t_law_pull_1 : DS := (dSeq (dSet 2 (dBin rIxD (dVar 0) (dC (.int 3))))
    (dSeq (dSetIx (dBin rModI (dBin rAddD (dBin rAddD (dBin rMulI (dBin rMulI (dVar 2) (dVar 2)) (dC (.int 3))) (dBin rMulI (dVar 2) (dC (.int 16807)))) (dC (.int 1013904223))) (dC (.int 2147483563))) (dVar 0) (dC (.int 3)))
    (dRet (dBin rModI (dBin rAddD (dBin rDivW (dBin rIxD (dVar 0) (dC (.int 3))) (dC (.int 61))) (dBin rMulI (dBin rModI (dBin rIxD (dVar 0) (dC (.int 3))) (dC (.int 8191))) (dC (.int 17)))) (dVar 1)))))
def t_law_pull_2 : DS := (dSeq (dIfS (dTest (dBin rGtI (dBin rIxD (dVar 0) (dC (.int 2))) (dC (.int 0)))) (dSeq (dSet 4 (dBin rModI (dBin rIxD (dVar 0) (dC (.int 2))) (dVar 1)))
    (dSeq (dSetIx (dBin rDivW (dBin rIxD (dVar 0) (dC (.int 2))) (dVar 1)) (dVar 0) (dC (.int 2)))
    (dRet (dVar 4)))) dNext)
    t_law_pull_1)
def t_law_pull : DS := (dSeq (dIfS (dAnd (dTest (dBin (rEqDD id) (dBin rIxD (dVar 0) (dC (.int 2))) (dC (.int 0)))) (dTest (dBin rLtI (dBin rIxD (dVar 0) (dC (.int 1))) (dUn rLenD (dBin rIxD (dVar 0) (dC (.int 0))))))) (dSeq (dSet 3 (dBin rIxD (dBin rIxD (dVar 0) (dC (.int 0))) (dBin rIxD (dVar 0) (dC (.int 1)))))
    (dSeq (dSetIx (dBin rAddD (dBin rIxD (dVar 0) (dC (.int 1))) (dC (.int 1))) (dVar 0) (dC (.int 1)))
    (dIfS (dTest (dBin rGeI (dVar 3) (dBin rPowI (dC (.int 10)) (dC (.int 18))))) (dSetIx (dBin rSubI (dVar 3) (dBin rPowI (dC (.int 10)) (dC (.int 18)))) (dVar 0) (dC (.int 2))) (dSetIx (dBin rModI (dBin rAddD (dBin rAddD (dBin rMulI (dBin rIxD (dVar 0) (dC (.int 3))) (dC (.int 48271))) (dBin rMulI (dBin rModI (dVar 3) (dC (.int 2147483563))) (dC (.int 69621)))) (dC (.int 7))) (dC (.int 2147483563))) (dVar 0) (dC (.int 3)))))) dNext)
    t_law_pull_2)
theorem eqD_int {i j : Int} : eqD (.int i) (.int j) = (i == j) := rfl
theorem eqD_str {i j : Str} : eqD (.str i) (.str j) = (i == j) := rfl
theorem r_pull1 (p : Addr) (b : Bag) (n : Int) (M : Mp) (Q : DK) (nx : DEnv → Mp → Prop) (c : Option D) (hM : M p = some (.lst b.l)) (hb : b.Ok) (h0 : 0 < n) (h1 : n < 1152921504606846976)
    (q : ∀ r b', Bag.Ok b' → 0 ≤ r → r < n → Q (.int r) (mupd M p (.lst b'.l))) : t_law_pull_1 { nx := nx, rt := Q } [some (.ref p), some (.int n), none, c, none] M := by
  have s0 := hb.seed0
  have s1 := hb.seed1
  walk_at "m"
  refine ⟨.inl (by omega), ?_⟩
  walk_at "w"
  refine ⟨.inr (by omega), ?_⟩
  walk_at "w"
  refine ⟨.inl (by omega), ?_⟩
  walk_at "w"
  refine ⟨by omega, ?_⟩
  walk_at "w"
  rw [hM]
  walk_at "n"
  refine ⟨div_wide _ (by decide) (by decide), ?_⟩
  walk_at "n"
  refine ⟨by show (0 : Int) < 8191; omega, ?_⟩
  walk_at "w"
  refine ⟨.inr (by omega), ?_⟩
  walk_at "w"
  refine ⟨h0, ?_⟩
  exact q _ { b with seed := (b.seed * b.seed * 3 + b.seed * 16807 + 1013904223) % 2147483563 } ⟨hb.at0, hb.at1, hb.left0, Int.emod_nonneg _ (by decide), Int.emod_lt_of_pos _ (by decide)⟩ (Int.emod_nonneg _ (by omega)) (Int.emod_lt_of_pos _ h0)
theorem r_pull2 (p : Addr) (b : Bag) (n : Int) (M : Mp) (Q : DK) (nx : DEnv → Mp → Prop) (c : Option D) (hM : M p = some (.lst b.l)) (hb : b.Ok) (h0 : 0 < n) (h1 : n < 1152921504606846976)
    (q : ∀ r b', Bag.Ok b' → 0 ≤ r → r < n → Q (.int r) (mupd M p (.lst b'.l))) : t_law_pull_2 { nx := nx, rt := Q } [some (.ref p), some (.int n), none, c, none] M := by
  walk_at "m"
  refine brn_by (fun hc => ?_) fun hc => r_pull1 p b n M Q nx c hM hb h0 h1 q
  have hl : 0 < b.left := of_decide_eq_true hc
  walk_at "m"
  refine ⟨h0, ?_⟩
  walk_at "m"
  refine ⟨div_wide _ h0 (by omega), ?_⟩
  walk_at "w"
  rw [hM]
  walk_at "w"
  exact q _ { b with left := b.left / n } ⟨hb.at0, hb.at1, Int.ediv_nonneg hb.left0 (by omega), hb.seed0, hb.seed1⟩ (Int.emod_nonneg _ (by omega)) (Int.emod_lt_of_pos _ h0)
theorem r_law_pull (ds : List D) (M : Mp) (Q : DK) (E : DX) (hl : ds.length = 2) (h : sp_law_pull ds M Q E) : t_law_pull { nx := fun _ M' => Q .non M', rt := Q } (startD ["_law_bag_here", "_law_many", "_law_seed", "_law_cell", "_law_got"] ds) M := by
  obtain ⟨p, b, n, rfl, hM, hb, h0, h1, q⟩ := h
  walk_at "m"
  refine ⟨⟨rfl, rfl⟩, ?_⟩
  walk_at "w"
  refine brn_by (fun hc => ?_) fun hc => r_pull2 p b n M Q _ none hM hb h0 h1 q
  walk_at "m"
  rw [resD_ref hM]
  walk_at "w"
  refine brn_by (fun hc2 => ?_) fun hc2 => r_pull2 p b n M Q _ none hM hb h0 h1 q
  walk_at "m"
  have hlt : b.at_ < b.cells.length := by
    have := of_decide_eq_true hc2
    simpa using this
  rw [resD_ref hM]
  walk_at "w"
  obtain ⟨x, hx, hm⟩ := atI_in (xs := b.cells.map D.int) hb.at0 (by simpa using hlt)
  obtain ⟨z, _, rfl⟩ := List.mem_map.mp hm
  rw [hx]
  walk_at "m"
  rw [hM]
  walk_at "w"
  have hb1 : Bag.Ok { b with at_ := b.at_ + 1 } := ⟨by have := hb.at0; show 0 ≤ b.at_ + 1; omega, by show b.at_ + 1 ≤ (b.cells.length : Int); omega, hb.left0, hb.seed0, hb.seed1⟩
  refine ⟨⟨by decide, by decide, by decide⟩, ?_⟩
  walk_at "w"
  refine brn_by (fun hc3 => ?_) fun hc3 => ?_
  · walk_at "w"
    refine ⟨⟨by decide, by decide, by decide⟩, ?_⟩
    walk_at "w"
    rw [mupd_same]
    have hz : (10 : Int) ^ 18 ≤ z := of_decide_eq_true hc3
    refine r_pull2 p { b with at_ := b.at_ + 1, left := z - 10 ^ 18 } n (M := mupd (mupd M p _) p _) Q _ _ mupd_same ⟨hb1.at0, hb1.at1, by show (0 : Int) ≤ z - 10 ^ 18; omega, hb.seed0, hb.seed1⟩ h0 h1 fun r b' h1 h2 h3 => ?_
    rw [mupd_mupd, mupd_mupd]
    exact q r b' h1 h2 h3
  · walk_at "n"
    refine ⟨.inr (by omega), ?_⟩
    walk_at "w"
    refine ⟨by omega, ?_⟩
    walk_at "w"
    refine ⟨.inr (by omega), ?_⟩
    walk_at "w"
    refine ⟨by omega, ?_⟩
    walk_at "w"
    rw [mupd_same]
    refine r_pull2 p { b with at_ := b.at_ + 1, seed := (b.seed * 48271 + z % 2147483563 * 69621 + 7) % 2147483563 } n (M := mupd (mupd M p _) p _) Q _ _ mupd_same ⟨hb1.at0, hb1.at1, hb.left0, Int.emod_nonneg _ (by decide), Int.emod_lt_of_pos _ (by decide)⟩ h0 h1 fun r b' h1 h2 h3 => ?_
    rw [mupd_mupd, mupd_mupd]
    exact q r b' h1 h2 h3
def sp_law_of : SpD := fun ds M Q _ => ∃ p b d xs, ds = [.ref p, d] ∧ M p = some (.lst (Bag.l b)) ∧ b.Ok ∧ 0 < xs.length ∧ xs.length < 1000000 ∧
  ((resD M d = .lst xs ∧ d ≠ .ref p) ∨ d = .tup xs ∨ ∃ x, d = .str x ∧ xs = signs x) ∧ ∀ x b', Bag.Ok b' → x ∈ xs → Q x (mupd M p (.lst b'.l))
def sp_law_letters : SpD := fun ds M Q _ => ds = [] ∧ Q (.str letters) M
def t_law_of : DS := (dRet (dBin rIxD (dVar 1) (dCall sp_law_pull (dCons (dVar 0) (dCons (dUn rLenD (dVar 1)) dNil)))))
def t_law_letters : DS := (dRet (dC (.str "abcdefghijklmnopqrstuvwxyz")))
theorem resD_upd_ne {M : Mp} {p : Addr} {o : MO} {d : D} (h : d ≠ .ref p) : resD (mupd M p o) d = resD M d := by
  unfold resD
  split
  · rename_i q
    rw [mupd_ne (fun e => h (by rw [e]))]
  · rfl
theorem r_law_of (ds : List D) (M : Mp) (Q : DK) (E : DX) (hl : ds.length = 2) (h : sp_law_of ds M Q E) : t_law_of { nx := fun _ M' => Q .non M', rt := Q } (startD ["_law_bag_here", "_law_things"] ds) M := by
  obtain ⟨p, b, d, xs, rfl, hM, hb, h0, h1, hd, q⟩ := h
  walk_at "w"
  rcases hd with ⟨hd, hne⟩ | rfl | ⟨x, rfl, rfl⟩
  · rw [hd]
    walk_at "w"
    refine ⟨p, b, xs.length, rfl, hM, hb, by omega, by omega, fun r b' hb' r0 r1 => ?_⟩
    walk_at "w"
    rw [resD_upd_ne hne, hd]
    walk_at "w"
    obtain ⟨x, hx, hm⟩ := atI_in r0 r1
    rw [hx]
    exact q x b' hb' hm
  · refine ⟨p, b, xs.length, rfl, hM, hb, by omega, by omega, fun r b' hb' r0 r1 => ?_⟩
    walk_at "w"
    obtain ⟨x, hx, hm⟩ := atI_in r0 r1
    rw [hx]
    exact q x b' hb' hm
  · have hl2 : (signs x).length = x.length := by unfold signs Str.length; simp
    refine ⟨p, b, x.length, rfl, hM, hb, by omega, by omega, fun r b' hb' r0 r1 => ?_⟩
    walk_at "w"
    obtain ⟨c, hx, hm⟩ := atI_in (xs := x.cps.toList) r0 (by simpa [Str.length] using r1)
    rw [hx]
    exact q (sgn c) b' hb' (List.mem_map.mpr ⟨c, hm, rfl⟩)
theorem r_law_letters (ds : List D) (M : Mp) (Q : DK) (E : DX) (hl : ds.length = 0) (h : sp_law_letters ds M Q E) : t_law_letters { nx := fun _ M' => Q .non M', rt := Q } (startD [] ds) M := by
  obtain ⟨rfl, q⟩ := h
  exact q
mutual
/-- the same datum -/
def sameD : D → D → Bool
  | .non, .non => true
  | .bl a, .bl b => a == b
  | .int a, .int b => a == b
  | .str a, .str b => a == b
  | .tup a, .tup b => sameDs a b
  | .lst a, .lst b => sameDs a b
  | _, _ => false
def sameDs : List D → List D → Bool
  | [], [] => true
  | a :: as, b :: bs => sameD a b && sameDs as bs
  | _, _ => false
end
/-- promised up to the depth n -/
def sp_law_like : Nat → SpD
  | 0 => fun _ _ _ _ => False
  | n + 1 => fun ds M Q _ => ∃ d e, ds = [d, e] ∧ D.le n d = true ∧ D.le n e = true ∧ n ≤ 50 ∧ Q (.bl (sameD d e)) M
def t_law_like_1 (n : Nat) : DS := (dRet (dAndV (dBin (rEqDD id) (dUn rLenD (dVar 0)) (dUn rLenD (dVar 1))) (dUn rAllD (dLc (iZipD (dCons (dVar 0) (dCons (dVar 1) dNil))) (.tup [(.name 2), (.name 3)]) dYes (dCall (sp_law_like n) (dCons (dVar 2) (dCons (dVar 3) dNil))) [2, 3]))))
def t_law_like_2 (n : Nat) : DS := (dRet (dAndV (dBin (rEqDD id) (dIsi .str (dVar 0)) (dIsi .str (dVar 1))) (dBin (rEqDD id) (dVar 0) (dVar 1))))
def t_law_like_3 (n : Nat) : DS := (dSeq (dIfS (dOr (dTest (dBin (rEqDD not) (dIsi .bool (dVar 0)) (dIsi .bool (dVar 1)))) (dTest (dBin (rEqDD not) (dIsi .int (dVar 0)) (dIsi .int (dVar 1))))) (dRet (dC (.bl false))) dNext)
    (t_law_like_2 n))
def t_law_like_4 (n : Nat) : DS := (dSeq (dIfS (dOr (dTest (dBin (rIsD id) (dVar 0) (dC .non))) (dTest (dBin (rIsD id) (dVar 1) (dC .non)))) (dRet (dAndV (dBin (rIsD id) (dVar 0) (dC .non)) (dBin (rIsD id) (dVar 1) (dC .non)))) dNext)
    (t_law_like_3 n))
def t_law_like (n : Nat) : DS := (dSeq (dIfS (dTru (dIsi2 .list .tuple (dVar 1))) (dSeq (dIfS (dOr (dTest (dBin (rEqDD not) (dIsi .list (dVar 0)) (dIsi .list (dVar 1)))) (dTest (dBin (rEqDD not) (dIsi .tuple (dVar 0)) (dIsi .tuple (dVar 1))))) (dRet (dC (.bl false))) dNext)
    (t_law_like_1 n)) dNext)
    (t_law_like_4 n))
mutual
theorem le_mono : ∀ {n m : Nat} {d : D}, n ≤ m → D.le n d = true → D.le m d = true
  | n, m, .non, _, _ => by cases m <;> rfl
  | n, m, .bl _, _, _ => by cases m <;> rfl
  | n, m, .int _, _, _ => by cases m <;> rfl
  | n, m, .str _, _, _ => by cases m <;> rfl
  | 0, m, .tup _, _, h => by simp [D.le] at h
  | 0, m, .lst _, _, h => by simp [D.le] at h
  | n + 1, 0, .tup _, h, _ => by omega
  | n + 1, 0, .lst _, h, _ => by omega
  | n + 1, m + 1, .tup ds, h, q => by simp only [D.le] at q ⊢; exact les_mono (by omega) q
  | n + 1, m + 1, .lst ds, h, q => by simp only [D.le] at q ⊢; exact les_mono (by omega) q
  | n, m, .ref _, _, h => by cases n <;> simp [D.le] at h
  | n, m, .ty _, _, h => by cases n <;> simp [D.le] at h
  | n, m, .lsk _, _, h => by cases n <;> simp [D.le] at h
  | n, m, .obj _ _, _, h => by cases n <;> simp [D.le] at h
  | n, m, .dkd _ _ _, _, h => by cases n <;> simp [D.le] at h
  | n, m, .exc _ _ _ _, _, h => by cases n <;> simp [D.le] at h
  | n, m, .fn _ _ _, _, h => by cases n <;> simp [D.le] at h
theorem les_mono : ∀ {n m : Nat} {ds : List D}, n ≤ m → D.les n ds = true → D.les m ds = true
  | n, m, [], _, _ => by cases m <;> rfl
  | n, m, d :: ds, h, q => by
    simp only [D.les, Bool.and_eq_true] at q ⊢
    exact ⟨le_mono h q.1, les_mono h q.2⟩
end
theorem les_at : ∀ {n : Nat} {ds : List D}, D.les n ds = true → ∀ d ∈ ds, D.le n d = true
  | n, d :: ds, h, g, hg => by
    simp only [D.les, Bool.and_eq_true] at h
    rcases List.mem_cons.mp hg with rfl | hg
    · exact h.1
    · exact les_at h.2 g hg
theorem les_of : ∀ {n : Nat} {ds : List D}, (∀ d ∈ ds, D.le n d = true) → D.les n ds = true
  | n, [], _ => rfl
  | n, d :: ds, h => by
    simp only [D.les, Bool.and_eq_true]
    exact ⟨h d List.mem_cons_self, les_of fun g hg => h g (List.mem_cons_of_mem _ hg)⟩
theorem same_zip : ∀ {a b : List D}, a.length = b.length → ((List.zipWith (fun x y => D.tup [x, y]) a b).map fun z => match z with
    | .tup [x, y] => sameD x y
    | _ => false).all id = sameDs a b
  | [], [], _ => rfl
  | x :: a, y :: b, h => by
    have := same_zip (a := a) (b := b) (by simpa using h)
    simp only [List.zipWith_cons_cons, List.map_cons, List.all_cons, id_eq, sameDs, ← this]
  | [], _ :: _, h => by simp at h
  | _ :: _, [], h => by simp at h
theorem sameDs_len : ∀ {a b : List D}, a.length ≠ b.length → sameDs a b = false
  | [], [], h => absurd rfl h
  | [], _ :: _, _ => rfl
  | _ :: _, [], _ => rfl
  | x :: a, y :: b, h => by
    simp only [sameDs]
    rw [sameDs_len (a := a) (b := b) (by simpa using h), Bool.and_false]
def pairSame (z : D) : Bool := match z with
  | .tup [x, y] => sameD x y
  | _ => false
theorem r_like_seq (n : Nat) (a b : List D) (d e : D) (M : Mp) (Q : DK) (nx : DEnv → Mp → Prop) (hn : n ≤ 49) (la : D.les n a = true) (lb : D.les n b = true) (hd : (d = .lst a ∧ e = .lst b) ∨ (d = .tup a ∧ e = .tup b))
    (q : Q (.bl (sameDs a b)) M) : t_law_like_1 (n + 1) { nx := nx, rt := Q } [some d, some e, none, none] M := by
  have key : ∀ zs, zs = List.zipWith (fun x y => D.tup [x, y]) a b → a.length = b.length → dLcL (.tup [(.name 2), (.name 3)]) dYes (dCall (sp_law_like (n + 1)) (dCons (dVar 2) (dCons (dVar 3) dNil))) (wipeD [some d, some e, none, none] [2, 3]) zs [] M (fun ds M2 => rAllD (.lst ds) M2 Q) := by
    rintro zs rfl hl
    refine lc_map (fun z => .bl (pairSame z)) (fun z hz K1 K2 hK => ?_) ?_
    · obtain ⟨i, hi⟩ := List.getElem?_of_mem hz
      obtain ⟨x, y, h1, h2, rfl⟩ := zip_at hi
      walk_at "w"
      exact ⟨x, y, rfl, les_at la x (List.mem_of_getElem? h1), les_at lb y (List.mem_of_getElem? h2), by omega, hK⟩
    · have e1 : (List.zipWith (fun x y => D.tup [x, y]) a b).map (fun z => D.bl (pairSame z)) = ((List.zipWith (fun x y => D.tup [x, y]) a b).map pairSame).map D.bl := by rw [List.map_map]; rfl
      rw [e1]
      walk_at "w"
      rw [asBls_map]
      have e2 : ((List.zipWith (fun x y => D.tup [x, y]) a b).map pairSame).all id = sameDs a b := same_zip hl
      show Q (.bl (((List.zipWith (fun x y => D.tup [x, y]) a b).map pairSame).all id)) M
      rw [e2]
      exact q
  rcases hd with ⟨rfl, rfl⟩ | ⟨rfl, rfl⟩
  all_goals
    walk_at "w"
    refine ⟨⟨rfl, rfl⟩, ?_⟩
    walk_at "w"
    refine brn_by (fun hc => ?_) fun hc => ?_
    · have hl : a.length = b.length := by
        have h1 : ((a.length : Int) == (b.length : Int)) = true := hc
        exact Int.ofNat.inj (eq_of_beq h1)
      walk_at "w"
      exact key _ rfl hl
    · have hl : a.length ≠ b.length := by
        intro h
        have h1 : ((a.length : Int) == (b.length : Int)) = false := hc
        simp [h] at h1
      rw [sameDs_len hl] at q
      have h1 : ((a.length : Int) == (b.length : Int)) = false := hc
      show Q (.bl (id (eqD (.int a.length) (.int b.length)))) M
      rw [eqD_int, h1]
      exact q
theorem r_law_like (n : Nat) (ds : List D) (M : Mp) (Q : DK) (E : DX) (hl : ds.length = 2) (h : sp_law_like (n + 1) ds M Q E) : t_law_like n { nx := fun _ M' => Q .non M', rt := Q } (startD ["_law_found", "_law_due", "_law_one", "_law_other"] ds) M := by
  obtain ⟨d, e, rfl, ld, le, hn, q⟩ := h
  cases e <;> cases d <;> first
    | (exfalso; cases n <;> simp [D.le] at ld; done)
    | (exfalso; cases n <;> simp [D.le] at le; done)
    | skip
  all_goals
    walk_at "w"
    try refine ⟨⟨rfl, rfl⟩, ?_⟩
    try walk_at "w"
    try refine ⟨⟨rfl, rfl⟩, ?_⟩
    try walk_at "w"
    first
      | exact q
      | (refine ⟨⟨rfl, rfl⟩, ?_⟩; walk_at "w"; exact q)
      | (refine ⟨⟨rfl, rfl⟩, ?_⟩; walk_at "w"; refine ⟨⟨rfl, rfl⟩, ?_⟩; walk_at "w"; exact q)
      | (refine ⟨⟨rfl, rfl⟩, ?_⟩; walk_at "w"; refine ⟨⟨rfl, rfl⟩, ?_⟩; walk_at "w"; refine ⟨⟨rfl, rfl⟩, ?_⟩; walk_at "w"; exact q)
      | (refine ⟨⟨by cases n <;> rfl, by cases n <;> rfl⟩, ?_⟩; exact q)
      | (cases n with
        | zero => simp [D.le] at ld
        | succ m => exact r_like_seq m _ _ _ _ M Q _ (by omega) (by simpa [D.le] using ld) (by simpa [D.le] using le) (.inr ⟨rfl, rfl⟩) q)
      | (cases n with
        | zero => simp [D.le] at ld
        | succ m => exact r_like_seq m _ _ _ _ M Q _ (by omega) (by simpa [D.le] using ld) (by simpa [D.le] using le) (.inl ⟨rfl, rfl⟩) q)
theorem z_law_like (ds : List D) (M : Mp) (Q : DK) (E : DX) (h : sp_law_like 0 ds M Q E) : False := h
end L3
set_option Elab.async false
set_option linter.all false
set_option maxRecDepth 100000
set_option maxHeartbeats 1000000
namespace L3
open PySem PySem.Spec PyProof.Rows L2
theorem law_start {K : PySem.W.Frag} {H : Hp} {a : Addr} {ns : List Int} {sp : SpD} {E : XK} (hS : SqL K H a (ns.map V.int)) (h : sp [.lsk (ns.map D.int)] (fun _ => none) (fun d _ => d = .bl true) X0) : upSp K 1 sp [.ref a] H (fun v _ => v = .bl true) E := by
  refine ⟨fun _ => none, H, fun _ => none, [.lsk (ns.map D.int)], _, _, ⟨Same.refl _, fun _ _ e => (by cases e), fun _ _ e => (by cases e)⟩, ⟨.ref a, [], rfl, ⟨a, _, rfl, hS, Reps.ofInts ns⟩, rfl⟩, rfl, h, fun F' H' M' d v s at_ r q => ?_, kx0⟩
  subst q
  exact r
end L3
set_option Elab.async false
set_option linter.all false
set_option maxRecDepth 100000
set_option maxHeartbeats 1000000
set_option Elab.async false
set_option linter.all false
set_option maxRecDepth 100000
set_option maxHeartbeats 1000000
namespace L3
open PySem PySem.Spec PyProof.Rows L2
abbrev PDK (X : Cx) (kws : List Keyword) (t : DA) : Prop := PK X kws (upA X.K kws.length t)
theorem pk_imp {X : Cx} {kws : List Keyword} {t t' : TA} (h : PK X kws t) (i : ∀ σ H Q, t' σ H Q → t σ H Q) : PK X kws t' := ⟨fun pos pins s σ H Q I q => h.run pos pins s σ H Q I (i _ _ _ q)⟩
theorem pdk_nil {X : Cx} : PDK X [] dNil := pk_imp pk_nil fun σ H Q ⟨R, F, env, M, Qd, a, e, h, k⟩ => k F H M [] [] (Same.refl F) a rfl rfl h
theorem pdk_cons {X : Cx} {e : Expr} {te : DE} {kws : List Keyword} {t : DA} {nm : Option Str} {kpos : Pos} (ha : PDE X e te) (hr : PDK X kws t) : PDK X (⟨nm, e, kpos⟩ :: kws) (dCons te t) :=
  pk_imp (pk_cons ha hr) fun σ H Q ⟨R, F, env, M, Qd, a, e, h, k⟩ => ⟨R, F, env, M, _, a, e, h, fun F1 H1 M1 d v s1 a1 r1 h1 => ⟨R, F1, env, M1, _, a1, e.mono s1, h1, fun F2 H2 M2 ds vs s2 a2 r2 l2 h2 =>
    k F2 H2 M2 (d :: ds) (v :: vs) (s1.trans s2) a2 ⟨v, vs, rfl, r1.mono s2, r2⟩ (by simp [l2]) h2⟩⟩
/-- the keyword-only default x of the def at f, if it is an object -/
def kwdAt (f : Str × Option Str) (x : Str) (K : PySem.W.Frag) : Addr := match K.lookup (He.fAd K f) with
  | some ⟨_, _, .func fd, _⟩ => (match fd.kwdefaults with
    | .ref D => (match PySem.W.nsIn K D x with
      | some (some (.ref a)) => a
      | _ => 0)
    | _ => 0)
  | _ => 0
structure InitKOk (P : Program) (w : World) (K : PySem.W.Frag) (mg : Str → Option Value) (base : Heap) (k : Nat) (c : Cl) (qual : Str) (st : Stmt) (ps : List Str) (kwd : List (Str × D)) (sp : SpD) : Prop where
  ex : ∃ f fd kws, FnOk P w K mg base (L2N.CX P w) k f fd ps (upSp K ps.length sp) ∧ FunD K "__init__" qual (defArgs st) (defBody st) (defScope st) [] kws f fd ∧ Mk K (He.ga K c.nm) f ∧ mg c.nm = some (.ref (He.ga K c.nm)) ∧ kws.map (·.1) = kwd.map (·.1) ∧ ∀ F, Reps K F (kwd.map (·.2)) (kws.map (·.2))
/-- made with n values and the keywords ks; g puts them, and the lacking ones' data, in the parameters' order -/
structure MkKOk (P : Program) (w : World) (K : PySem.W.Frag) (mg : Str → Option Value) (base : Heap) (k : Nat) (c : Cl) (n : Nat) (ks : List Str) (g : List D → List D → List D) (sp : SpD) : Prop where
  ex : ∃ f fd ps gv gV np, FnOk P w K mg base (L2N.CX P w) k f fd ps (upSp K np sp) ∧ Mk K (He.ga K c.nm) f ∧ mg c.nm = some (.ref (He.ga K c.nm)) ∧ KBn K fd ps (n + 1) ks gv gV ∧
    ∀ F ds vs es zs, Reps K F ds vs → Reps K F es zs → ds.length = n + 1 → es.length = ks.length → Reps K F (g ds es) (gV vs zs) ∧ (g ds es).length = np
theorem MkKOk.mono {P : Program} {w : World} {K : PySem.W.Frag} {mg : Str → Option Value} {base : Heap} {j k : Nat} {c : Cl} {n : Nat} {ks : List Str} {g : List D → List D → List D} {sp : SpD} (d : MkKOk P w K mg base j c n ks g sp) (h : j ≤ k) : MkKOk P w K mg base k c n ks g sp := by
  obtain ⟨f, fd, ps, gv, gV, np, a, b⟩ := d.ex
  exact ⟨f, fd, ps, gv, gV, np, a.mono h, b⟩
/-- from the __init__: ms the keyword-only parameters that lack -/
theorem InitKOk.make {P : Program} {w : World} {K : PySem.W.Frag} {mg : Str → Option Value} {base : Heap} {k : Nat} {c : Cl} {qual : Str} {st : Stmt} {ps : List Str} {kwd : List (Str × D)} {sp : SpD} (o : InitKOk P w K mg base k c qual st ps kwd sp) (n : Nat) (ks : List Str) (is : List Nat)
    (g : {α : Type} → List α → List α → List α → List α) (gD : List D → List D → List D) (hne : kwd ≠ []) (his : ∀ i ∈ is, i < kwd.length) (hgD : ∀ ds es, gD ds es = g ds (is.map fun i => ((kwd.map (·.2))[i]?).getD .non) es)
    (hlen : ∀ ds es : List D, ds.length = n + 1 → es.length = ks.length → (gD ds es).length = ps.length)
    (hrel : ∀ {vs mz zs : List V} {us mv ws : List Value}, Vals vs us → Vals mz mv → Vals zs ws → Vals (g vs mz zs) (g us mv ws))
    (hrep : ∀ (K : PySem.W.Frag) (F : Hp) {ds ms es : List D} {vs mz zs : List V}, Reps K F ds vs → Reps K F ms mz → Reps K F es zs → Reps K F (g ds ms es) (g vs mz zs))
    (h : ∀ (D : Addr) (doc pm : Value) (an : Option Addr) (cdv ct : Value) (us mv ws : List Value), us.length = n + 1 → mv.length = is.length → ws.length = ks.length →
      KwChain D ((is.map fun i => ((kwd.map (·.1))[i]?).getD Str.empty).zip mv) (bindArgs (PySem.W.fnOf "__init__" qual (defArgs st) (defBody st) (defScope st) .none (.ref D) doc pm an cdv ct) ⟨us, ks.zip ws⟩) (ps.zip (g us mv ws))) :
    MkKOk P w K mg base k c n ks gD sp := by
  obtain ⟨f, fd, kws, G, F, hm, hg, hn, hd⟩ := o.ex
  have lk : kws.length = kwd.length := by have := congrArg List.length hn; simpa using this
  have kne : kws ≠ [] := fun e => hne (List.eq_nil_of_length_eq_zero (by rw [← lk, e]; rfl))
  have at_ : ∀ i, i < kwd.length → kws[i]? = some ((kws[i]?).getD (Str.empty, V.non)) := fun i hi => by
    rw [List.getElem?_eq_getElem (show i < kws.length by omega)]; rfl
  obtain ⟨mv, hb⟩ := F.kbinds0 (ps := ps) (n + 1) ks (is.map fun i => (kws[i]?).getD (Str.empty, V.non)) g kne (fun q hq => by
    obtain ⟨i, hi, rfl⟩ := List.mem_map.mp hq
    exact List.mem_of_getElem? (at_ i (his i hi))) hrel fun D doc pm an cdv ct us mv ws l1 l2 l3 => by
      have e : (is.map fun i => (kws[i]?).getD (Str.empty, V.non)).map (·.1) = is.map fun i => ((kwd.map (·.1))[i]?).getD Str.empty := by
        rw [List.map_map]
        refine List.map_congr_left fun i hi => ?_
        rw [← hn, List.getElem?_map, at_ i (his i hi)]; rfl
      rw [e]
      exact h D doc pm an cdv ct us mv ws l1 (by simpa using l2) l3
  refine ⟨f, fd, ps, _, _, ps.length, G, hm, hg, hb, fun F' ds vs es zs r1 r2 l1 l2 => ⟨?_, hlen ds es l1 l2⟩⟩
  rw [hgD]
  refine hrep K F' r1 ?_ r2
  have all := hd F'
  clear hb hgD hlen h
  induction is with
  | nil => exact rfl
  | cons i is ih =>
    have hi := his i List.mem_cons_self
    have e1 : (kwd.map (·.2))[i]? = some (((kwd.map (·.2))[i]?).getD .non) := by
      rw [List.getElem?_eq_getElem (by rw [List.length_map]; exact hi)]; rfl
    obtain ⟨v, hv, rv⟩ := all.get e1
    refine ⟨_, _, rfl, ?_, ih fun j hj => his j (List.mem_cons_of_mem _ hj)⟩
    have e2 : ((kws[i]?).getD (Str.empty, V.non)).2 = v := by
      rw [List.getElem?_map, at_ i hi] at hv
      exact Option.some.inj hv
    show Rep K F' _ ((kws[i]?).getD (Str.empty, V.non)).2
    rw [e2]; exact rv
end L3
set_option Elab.async false
set_option linter.all false
set_option maxRecDepth 100000
set_option maxHeartbeats 1000000
set_option Elab.async false
set_option linter.all false
set_option maxRecDepth 100000
set_option maxHeartbeats 4000000
namespace L3
open PySem PySem.Spec PyProof.Rows L2 ClX
/-- the built-in class below -/
inductive Bs where
  | ve | le | ie
  deriving DecidableEq
namespace Bs
abbrev nm : Bs → String
  | ve => "ValueError" | le => "LookupError" | ie => "IndexError"
abbrev new : Bs → String
  | ve => "ValueError.__new__" | le => "LookupError.__new__" | ie => "IndexError.__new__"
abbrev ini : Bs → String
  | ve => "ValueError.__init__" | le => "LookupError.__init__" | ie => "IndexError.__init__"
abbrev tl : Bs → List Value
  | ve => [.type "ValueError", .type "Exception", .type "BaseException", .type "object"]
  | le => [.type "LookupError", .type "Exception", .type "BaseException", .type "object"]
  | ie => [.type "IndexError", .type "LookupError", .type "Exception", .type "BaseException", .type "object"]
theorem base : ∀ b : Bs, ExcBaseFacts b.nm b.new b.ini b.tl
  | ve => PySem.F.excBase_ValueError | le => PySem.F.excBase_LookupError | ie => PySem.F.excBase_IndexError
theorem obj : ∀ b : Bs, b.tl.contains (.type "object") = true
  | ve => by decide +kernel | le => by decide +kernel | ie => by decide +kernel
/-- own classes, then the built-in one's -/
def Refs (b : Bs) (l : List Value) : Prop := ∃ cs : List Addr, l = cs.map Value.ref ++ b.tl
theorem Refs.cons {b : Bs} {l : List Value} (h : Refs b l) (c : Addr) : Refs b (.ref c :: l) := let ⟨cs, e⟩ := h; ⟨c :: cs, by rw [e]; rfl⟩
theorem Refs.some {b : Bs} {l : List Value} (h : Refs b l) : l.isEmpty = false := by
  obtain ⟨cs, rfl⟩ := h
  cases cs with
  | nil => cases b <;> rfl
  | cons c cs => rfl
end Bs
/-- what the written part says of a class over b -/
structure OexB (K : PySem.W.Frag) (C : Addr) (b : Bs) : Prop where
  cls : ∃ nm q N bs bm sn sub ab col dd k0 k1 k2 k3 k5, K.lookup C = some (excClassObj nm q C N bs bm true sn sub ab col dd k0 k1 k2 k3 k5 b.new) ∧ b.Refs bm
  sa : PySem.W.findIn K (.ref C) "__setattr__" = some (some (.builtin "object.__setattr__"))
  exC : PySem.W.subIn K (.ref C) (.type "BaseException") = some true
  tyC : PySem.W.typeIn K (.ref C) = some (.type "type")
  kC : PySem.W.keepIn K (.ref C) = true
section
variable {X : Cx} {o e : Expr} {es : List Expr} {to te : TE} {ta : TA} {f : Str} {p p' p1 p2 pos : Pos} {b : Bs}
/-- the built-in class's own __init__, found -/
def Bs.Finds (b : Bs) (K : PySem.W.Frag) : Prop := PySem.W.findCls K (.type b.nm) (.type "type") "__init__" = some (.val (.builtin b.ini))
end
end L3
set_option Elab.async false
set_option linter.all false
set_option maxRecDepth 100000
set_option maxHeartbeats 2000000
namespace L3
open PySem PySem.Spec PyProof.Rows L2 ClX
/-- InkError.__init__(self, word), Missing's -/
def spInk (K : PySem.W.Frag) (b : Bs) : Sp := fun vs H Q _ => ∃ a C w, vs = [.ref a, .str w] ∧ OexB K C b ∧ PySem.W.findIn K (.ref C) "word" = some none ∧ H a = some (exo a C none) ∧
  ∀ dx H2, H dx = none → dx ≠ a → H2 a = some (exo a C (some dx)) → H2 dx = some (exd dx [(("word" : Str), V.str w)]) → (∀ b, b ≠ a → b ≠ dx → H2 b = H b) → Q .non H2
/-- C.__init__(self, ..) of a class whose word is its name -/
def spBad (K : PySem.W.Frag) (nm : Str) (fs : List Str) : Sp := fun vs H Q _ => ∃ a ws, vs = .ref a :: ws ∧ ws.length = fs.length ∧ H a = some (exo a (He.ga K nm) none) ∧
  ∀ dx H2, H dx = none → dx ≠ a → H2 a = some (exo a (He.ga K nm) (some dx)) → H2 dx = some (exd dx (fs.zip ws ++ [(("word" : Str), V.str nm)])) → (∀ b, b ≠ a → b ≠ dx → H2 b = H b) → Q .non H2
structure BadC (K : PySem.W.Frag) (nm : Str) (fs : List Str) (b : Bs) : Prop where
  T : OexB K (He.ga K nm) b
  word : PySem.W.findIn K (.ref (He.ga K nm)) "word" = some none
  fs : ∀ f ∈ fs, PySem.W.findIn K (.ref (He.ga K nm)) f = some none
structure BadOk (P : Program) (w : World) (K : PySem.W.Frag) (mg : Str → Option Value) (base : Heap) (k : Nat) (nm : Str) (fs : List Str) : Prop where
  c : ∃ b, BadC K nm fs b
  gl : mg nm = some (.ref (He.ga K nm))
  ex : ∃ fI fd ps, PySem.W.findIn K (.ref (He.ga K nm)) "__init__" = some (some (.ref fI)) ∧ PySem.W.typeIn K (.ref fI) = some (.type "function") ∧ FnOk P w K mg base (L2N.CX P w) k fI fd ps (spBad K nm fs) ∧ Binds K fd ps []
theorem BadOk.mono {P : Program} {w : World} {K : PySem.W.Frag} {mg : Str → Option Value} {base : Heap} {j k : Nat} {nm : Str} {fs : List Str} (b : BadOk P w K mg base j nm fs) (h : j ≤ k) : BadOk P w K mg base k nm fs :=
  ⟨b.c, b.gl, let ⟨fI, fd, ps, a1, a2, F, a3⟩ := b.ex; ⟨fI, fd, ps, a1, a2, F.mono h, a3⟩⟩
end L3
set_option Elab.async false
set_option linter.all false
set_option maxRecDepth 100000
set_option maxHeartbeats 2000000
set_option Elab.async false
set_option linter.all false
set_option maxRecDepth 100000
set_option maxHeartbeats 2000000
namespace L3
open PySem PySem.Spec PyProof.Rows L2
/-- what a call of the lambda at f does, from any later state -/
structure Cal (P : Program) (w : World) (K : PySem.W.Frag) (mg : Str → Option Value) (base : Heap) (k : Nat) (q : Str) (f c : Addr) (tl : XK → Hp → VK → Prop) (fr : List Addr) (s : Shared) (H : Hp) : Prop where
  fn : ∀ (s1 : Shared) (HZ : Hp), Un fr [] H HZ s.heap s1.heap → PySem.W.FnAt f s1.heap
  run : ∀ (A : Around) (outer : List Env) (s1 : Shared) (HZ : Hp) (Q : VK) (E : XK), Room (k + 1) A → Env0 P w K mg base A outer s1 HZ → Un fr [] H HZ s.heap s1.heap → HZ c = some (LamX.CodeO c q) → tl E HZ Q →
    codeAny (model P w) A (.call (.ref f) ⟨[], []⟩) (CR (L2N.CX P w) outer P w HZ s1 Q E) s1
theorem un_glue {fr fr' : List Addr} {H H1 H2 : Hp} {h h1 h2 : Heap} (a : Un fr [] H H1 h h1) (b : Un fr' [] H1 H2 h1 h2) (sub : ∀ x ∈ fr, x ∈ fr') (new : ∀ x ∈ fr', x ∈ fr ∨ h.get? x = none) : Un fr [] H H2 h h2 := by
  have nin : ∀ x o, h.get? x = some o → x ∉ fr → x ∉ fr' := fun x o e n m => by
    rcases new x m with z | z
    · exact n z
    · rw [z] at e; cases e
  refine ⟨fun x o e n nf nx => b.keep x o (a.keep x o e n nf nx) (a.free x o e n nx) (nin x o e nf) nx, fun x o e n inf nx => ?_, fun x o e n nx => ?_, fun x o e nx => ?_, fun x xs e => b.tups x xs (a.tups x xs e), fun x o u e => b.frzs x o u (a.frzs x o u e), fun x ps e => ?_⟩
  · obtain ⟨sl, e1⟩ := a.slot x o e n inf nx
    obtain ⟨sl2, e2⟩ := b.slot x _ e1 (a.free x o e n nx) (sub x inf) nx
    exact ⟨sl2, e2⟩
  · obtain ⟨o', e1⟩ := a.there x o e nx
    exact b.free x o' e1 (a.free x o e n nx) nx
  · obtain ⟨o', e1⟩ := a.there x o e nx
    exact b.there x o' e1 nx
  · obtain ⟨m1, e1⟩ := a.tbls x ps e
    obtain ⟨m2, e2⟩ := b.tbls x _ e1
    exact ⟨m1 ++ m2, by rw [e2, Array.append_assoc]⟩
theorem Cal.step {P : Program} {w : World} {K : PySem.W.Frag} {mg : Str → Option Value} {base : Heap} {k : Nat} {q : Str} {f c : Addr} {tl : XK → Hp → VK → Prop} {fr fr' : List Addr} {s s2 : Shared} {H H2 : Hp} (C : Cal P w K mg base k q f c tl fr s H) (u : Un fr [] H H2 s.heap s2.heap) (sub : ∀ x ∈ fr, x ∈ fr') (new : ∀ x ∈ fr', x ∈ fr ∨ s.heap.get? x = none) :
    Cal P w K mg base k q f c tl fr' s2 H2 := ⟨fun s1 HZ un => C.fn s1 HZ (un_glue u un sub new), fun A outer s1 HZ Q E hr e0 un hc ht => C.run A outer s1 HZ Q E hr e0 (un_glue u un sub new) hc ht⟩
/-- .. into a def that is called from X -/
theorem Cal.call {X : Cx} {pins : List (Addr × Obj)} {σ : L2.St} {s : Shared} {H : Hp} {k : Nat} {q : Str} {f c : Addr} {tl : XK → Hp → VK → Prop} (C : Cal X.prog X.w X.K X.mg X.base k q f c tl X.fs X.s_0 X.H_0) (I : Inv X pins σ H s) (hx : X.ex = []) (hs : X.stack = X.env :: X.outer) : Cal X.prog X.w X.K X.mg X.base k q f c tl (frs X.stack) s H := by
  have u := I.base
  rw [hx] at u
  refine C.step u (fun x hm => ?_) fun x hm => ?_
  · rw [hs]
    obtain ⟨e, he, z⟩ := List.mem_filterMap.mp hm
    exact List.mem_filterMap.mpr ⟨e, List.mem_cons_of_mem _ he, z⟩
  · rcases List.mem_cons.mp (I.stkSub x hm) with z | z
    · refine .inr ?_
      cases e : X.s_0.heap.get? x with
      | none => rfl
      | some o =>
        have h1 := Heap.lt_size e
        have h2 := I.ok.above
        rw [z] at h1
        exact absurd (Nat.lt_of_lt_of_le h1 h2) (Nat.lt_irrefl _)
    · exact .inl z
end L3
set_option Elab.async false
set_option linter.all false
set_option maxRecDepth 100000
set_option maxHeartbeats 2000000
set_option Elab.async false
set_option linter.all false
set_option maxRecDepth 100000
set_option maxHeartbeats 2000000
namespace L3
open PySem PySem.Spec PyProof.Rows L2
def findN : List Str → List D → Str → Option D
  | n :: ns, d :: ds, f => if n = f then some d else findN ns ds f
  | _, _, _ => none
end L3
set_option Elab.async false
set_option linter.all false
set_option maxRecDepth 100000
set_option maxHeartbeats 2000000
namespace L3
open PySem PySem.Spec PyProof.Rows L2
def isS (ws : List Str) (w : Str) : Bool := (ws.map D.str).any fun z => eqD z (.str w)
def plainW : Str := "BadSign BadName BadNumber BadDeed Full Clash NothingLeft"
def fieldOf (ns : List Str) (xs : List D) : Option D := match findN ns xs "word" with
  | some (.str w) => if isS ["Taken", "NoName"] w = true then findN ns xs "name" else if eqD (.str w) (.str "TooMany") = true then findN ns xs "most" else if eqD (.str w) (.str "Still") = true then findN ns xs "strip" else
    if eqD (.str w) (.str "NoSaid") = true then findN ns xs "number" else if isS (Txt.split plainW " ") w = true then some .non else findN ns xs "at"
  | _ => none
/-- what the law's look at an exception does -/
structure FieldOk (P : Program) (w : World) (K : PySem.W.Frag) (mg : Str → Option Value) (base : Heap) (k : Nat) (exs : List Str) : Prop where
  xf : ∀ nm ∈ exs, XfC K (He.ga K nm) ∧ PySem.W.findIn K (.ref (He.ga K nm)) "word" = some none
  ex : ∃ g fd, mg "_law_field" = some (.ref g) ∧ PySem.W.keepIn K (.ref g) = true ∧ Binds K fd [("_law_e" : Str)] [] ∧
    ∀ (nm : Str) (a dd : Addr) (oe : Obj) (A : Around) (outer : List Env) (s : Shared) (H : Hp) (args : Args) (Q : VK) (R F : Hp) (M : Mp) (ns : List Str) (xs : List D) (d : D), nm ∈ exs → L2H.RoomH k A → L2H.Hot1 A (a, oe) → L2H.PinOk outer H s (a, oe) → Zc (.ref (He.ga K nm)) (some dd) oe → (∃ vs, oe.data = .fields vs) →
      Env0 P w K mg base A outer s H → BindsTo s fd args (([("_law_e" : Str)]).zip [Value.ref a]) → At K R F M H → Rep K F (.exc a dd ns xs) (.ref a) → fieldOf ns xs = some d → KD K R F (fun d' M' => d' = d ∧ M' = M) Q → codeAny (model P w) A (.call (.ref g) args) (CR (L2N.CX P w) outer P w H s Q E0) s
structure Mono (tl : XK → Hp → VK → Prop) : Prop where
  up : ∀ (E : XK) (H : Hp) (Q Q' : VK), (∀ v H', Q v H' → Q' v H') → tl E H Q → tl E H Q'
  lay : ∀ (E : XK) (H : Hp) (Q : VK) (p : Addr) (o : HO), tl E H Q → H p = none → tl E (upd H p o) Q
def MonoX (tl : XK → Hp → VK → Prop) : Prop := ∀ (E E' : XK) (H : Hp) (Q : VK), (∀ cls d H', E cls d H' → E' cls d H') → tl E H Q → tl E' H Q
/-- a def that takes a lambda and calls it -/
structure Taker (P : Program) (w : World) (K : PySem.W.Frag) (mg : Str → Option Value) (base : Heap) (k n : Nat) (x : Str) (WX : VK → XK) (WV : VK → VK) : Prop where
  ex : ∃ g, mg x = some (.ref g) ∧ PySem.W.keepIn K (.ref g) = true ∧
    ∀ (A : Around) (outer : List Env) (s : Shared) (H : Hp) (f c : Addr) (q : Str) (tl : XK → Hp → VK → Prop) (j : Nat) (Q : VK), Room k A → j + n ≤ k → K.In s.heap → Env0 P w K mg base A outer s H → Cal P w K mg base j q f c tl (frs outer) s H → Mono tl → MonoX tl → H c = some (LamX.CodeO c q) → tl (WX Q) H (WV Q) →
      codeAny (model P w) A (.call (.ref g) ⟨[.ref f], []⟩) (CR (L2N.CX P w) outer P w H s Q E0) s
theorem Taker.mono {P : Program} {w : World} {K : PySem.W.Frag} {mg : Str → Option Value} {base : Heap} {k k' n : Nat} {x : Str} {WX : VK → XK} {WV : VK → VK} (T : Taker P w K mg base k n x WX WV) (h : k ≤ k') (hn : k' ≤ k) : Taker P w K mg base k' n x WX WV := by
  have e : k' = k := by omega
  subst e; exact T
end L3
set_option Elab.async false
set_option linter.all false
set_option maxRecDepth 100000
set_option maxHeartbeats 2000000
set_option Elab.async false
set_option linter.all false
set_option maxRecDepth 100000
set_option maxHeartbeats 1000000
namespace L3
open PySem PySem.Spec PyProof.Rows L2
def asT (g : Addr → Option Obj) (n : Nat) : List Addr := He.asD g n ++ [cStatics]
def obsXT (n : Nat) (fb : List (PySem.W.Frag → Bool)) (fa : List He.Fa) (fn : List He.DefD) (tf : List He.Defn) (g : Addr → Option Obj) : AlX × Bool := (obsX fb fa fn (He.frT g (asT g n)), He.tabsB g tf (He.frT g (asT g n)))
structure SaysXT (fb : List (PySem.W.Frag → Bool)) (fa : List He.Fa) (fn : List He.DefD) (tf : List He.Defn) (h : Heap) (K : PySem.W.Frag) : Prop where
  c : SaysX fb fa fn K
  hd : ∀ p ∈ tf, PySem.W.codeHdIn K (He.cT K p).1 (He.cT K p).2 = true
  out : ∀ p ∈ tf, K.lookup (He.cT K p).2 = none
  empty : ∀ p ∈ tf, h.get? (He.cT K p).2 = some { cls := .none, data := .fields #[] }
theorem saysXT_of {n : Nat} {fb : List (PySem.W.Frag → Bool)} {fa : List He.Fa} {fn : List He.DefD} {tf : List He.Defn} {h : Heap} (e : obsXT n fb fa fn tf h.get? = (valX fn, true)) : SaysXT fb fa fn tf h (He.frT h.get? (asT h.get? n)) := by
  have e1 : obsX fb fa fn (He.frT h.get? (asT h.get? n)) = valX fn := congrArg (fun z : AlX × Bool => z.1) e
  have e2 : He.tabsB h.get? tf (He.frT h.get? (asT h.get? n)) = true := congrArg (fun z : AlX × Bool => z.2) e
  generalize hK : He.frT h.get? (asT h.get? n) = K at e1 e2
  have key : ∀ p ∈ tf, PySem.W.codeHdIn K (He.cT K p).1 (He.cT K p).2 = true ∧ ∃ o, h.get? (He.cT K p).2 = some o ∧ He.emptyTab o = true := fun p hp => by
    obtain ⟨z1, z2⟩ := He.ba (List.all_eq_true.mp e2 p hp)
    refine ⟨z1, ?_⟩
    cases q : h.get? (He.cT K p).2 with
    | none => rw [q] at z2; cases z2
    | some o => rw [q] at z2; exact ⟨o, rfl, z2⟩
  refine ⟨e1, fun p hp => (key p hp).1, fun p hp => ?_, fun p hp => ?_⟩
  · obtain ⟨_, o, q, z⟩ := key p hp
    rw [← hK] at q ⊢
    exact He.frT_none q z
  · obtain ⟨_, o, q, z⟩ := key p hp
    rw [q, He.emptyTab_eq z]
def obsPT (n : Nat) (fb : List (PySem.W.Frag → Bool)) (fa : List He.Fa) (fn : List He.DefD) (tf : List He.Defn) (s : Shared) : AlX × Bool := match HandSHeadRun.treeOf s with
  | some x => HandSHeadRun.frS x fun x => obsXT n fb fa fn tf (HandSHeadRun.getT x)
  | none => ((false, He.valD fn), false)
theorem obsPT_ok {n : Nat} {fb : List (PySem.W.Frag → Bool)} {fa : List He.Fa} {fn : List He.DefD} {tf : List He.Defn} {s : Shared} (h : obsPT n fb fa fn tf s = (valX fn, true)) : obsXT n fb fa fn tf s.heap.get? = (valX fn, true) := by
  unfold obsPT at h
  cases e : HandSHeadRun.treeOf s with
  | none =>
    rw [e] at h
    have := congrArg (fun z : AlX × Bool => z.2) h
    cases this
  | some x =>
    rw [e] at h
    have h2 : (HandSHeadRun.frS x fun x => obsXT n fb fa fn tf (HandSHeadRun.getT x)) = (valX fn, true) := h
    rw [HandSHeadRun.frS_eq] at h2
    have ex := (HandSHeadRun.treeOf_eq e).1
    have eg : HandSHeadRun.getT x = s.heap.get? := funext fun a => by rw [HandSHeadRun.getT_eq, ex]
    rw [eg] at h2
    exact h2
def hookPT (n : Nat) (fb : List (PySem.W.Frag → Bool)) (fa : List He.Fa) (fn : List He.DefD) (tf : List He.Defn) : PySem.W.Hook where
  α := AlX × Bool
  obs := fun s => obsPT n fb fa fn tf s
  val := fun _ => (valX fn, true)
  says := fun _ h => ∃ K : PySem.W.Frag, K.In h ∧ SaysXT fb fa fn tf h K
  of := fun _ _ e => ⟨_, He.frT_in, saysXT_of (obsPT_ok e)⟩
  keeps := fun _ _ _ ⟨K, hK, c⟩ k => ⟨K, PySem.W.Frag.In.keeps hK k, ⟨c.c, c.hd, c.out, fun p hp => k _ _ (c.empty p hp)⟩⟩
end L3
set_option Elab.async false
set_option linter.all false
set_option maxRecDepth 100000
set_option maxHeartbeats 1000000
namespace L3
open PySem PySem.Spec PyProof.Rows L2 ClX
structure InkF (K : PySem.W.Frag) (mg : Str → Option Value) (bb : Bs) (x : Str) : Prop where
  r : CRead K (He.ga K x) (.type "type")
  v : CVal K (He.ga K x) (.type "type") "__init__" (.ref (He.ma K (He.ga K x) "__init__")) (.ref (He.ma K (He.ga K x) "__init__"))
  ve : bb.Finds K
  kp : PySem.W.keepIn K (.ref (He.ma K (He.ga K x) "__init__")) = true
  gl : mg x = some (.ref (He.ga K x))
structure InkOk (P : Program) (w : World) (K : PySem.W.Frag) (mg : Str → Option Value) (base : Heap) (k : Nat) (bb : Bs) (x : Str) : Prop where
  f : InkF K mg bb x
  ex : ∃ fd ps, FnOk P w K mg base (L2N.CX P w) k (He.ma K (He.ga K x) "__init__") fd ps (spInk K bb) ∧ Binds K fd ps []
theorem InkOk.mono {P : Program} {w : World} {K : PySem.W.Frag} {mg : Str → Option Value} {base : Heap} {j k : Nat} {bb : Bs} {x : Str} (o : InkOk P w K mg base j bb x) (h : j ≤ k) : InkOk P w K mg base k bb x := ⟨o.f, let ⟨fd, ps, F, b⟩ := o.ex; ⟨fd, ps, F.mono h, b⟩⟩
end L3
set_option Elab.async false
set_option linter.all false
set_option maxRecDepth 100000
set_option maxHeartbeats 1000000
set_option Elab.async false
set_option linter.all false
set_option maxRecDepth 100000
set_option maxHeartbeats 1000000
namespace L3
open PySem PySem.Spec PyProof.Rows L2 ClX
local macro_rules | `(tactic| walk_at "w") => `(tactic| conv => whnf)
section
variable {X : Cx}
theorem pv (i : Nat) {x : Str} {pos : Pos} (hN : X.N[i]? = some x := by rfl) (hv : Vis X.env.scope x := by first | exact Or.inl rfl | exact Or.inr (Or.inl rfl) | exact Or.inr (Or.inr rfl)) (hd : (x == ("__debug__" : Str)) = false := by decide)
    (hcd : (x == ("__classdict__" : Str)) = false := by decide) : PE X (.Name x pos) (tVar i) := pe_var hN hv hd hcd
end
section
variable {P : Program} {w : World} {K : PySem.W.Frag} {mg : Str → Option Value} {base : Heap} {k : Nat} {st : Stmt} {nm : Str} {fs cs : List Str} {bb : Bs}
theorem FieldOk.mono {j : Nat} {exs : List Str} (o : FieldOk P w K mg base j exs) (h : j ≤ k) : FieldOk P w K mg base k exs := ⟨o.xf, let ⟨g, fd, a1, a2, a3, run⟩ := o.ex; ⟨g, fd, a1, a2, a3, fun nm a dd oe A outer s H args Q R F M ns xs d hn hr => run nm a dd oe A outer s H args Q R F M ns xs d hn (hr.mono h)⟩⟩
end
end L3
set_option Elab.async false
set_option linter.all false
set_option maxRecDepth 100000
set_option maxHeartbeats 0
namespace L3
open PySem PySem.Spec PyProof.Rows L2
def topS (i : Nat) : Stmt := PySem.Challenge.pw_whoseink_k32_doubts_judged.main.body.getD i (.Pass ⟨0, 0, 0, 0⟩)
abbrev s_law_bag : Stmt := topS 33
abbrev s_law_pull : Stmt := topS 34
abbrev s_law_of : Stmt := topS 35
abbrev s_law_letters : Stmt := topS 36
abbrev s_law_signs : Stmt := topS 39
abbrev s_law_names : Stmt := topS 38
abbrev s_law_writer : Stmt := topS 40
abbrev s_law_company : Stmt := topS 41
abbrev s_law_filled : Stmt := topS 52
abbrev s_law_begin : Stmt := topS 43
abbrev s_law_arrows : Stmt := topS 42
abbrev s_law_waits_count : Stmt := topS 44
abbrev s_law_can : Stmt := topS 45
abbrev s_law_after : Stmt := topS 46
abbrev s_law_steps : Stmt := topS 47
abbrev s_law_ways : Stmt := topS 48
abbrev s_law_tight : Stmt := topS 53
abbrev s_law_taking_turns : Stmt := topS 57
abbrev s_law_delayed : Stmt := topS 58
abbrev s_law_kinds : Stmt := topS 54
abbrev s_law_alike : Stmt := topS 49
abbrev s_law_twin_steps : Stmt := topS 51
abbrev s_law_twin_rows : Stmt := topS 59
abbrev s_law_walked : Stmt := topS 55
abbrev s_law_differs : Stmt := topS 50
abbrev s_law_doubt_ok : Stmt := topS 56
abbrev s_is_name : Stmt := topS 19
abbrev s_is_sign : Stmt := topS 20
abbrev s_is_arrow : Stmt := topS 21
abbrev s_is_writer : Stmt := topS 22
abbrev s_need_writers : Stmt := topS 30
abbrev s_Company___init__ : Stmt := inClass (topS 31) 0
abbrev s_Company_begin : Stmt := inClass (topS 31) 7
abbrev s_arrows_at : Stmt := topS 23
abbrev s_is_done : Stmt := topS 24
abbrev s_Company_counts : Stmt := inClass (topS 31) 8
abbrev s_Company_may_write : Stmt := inClass (topS 31) 9
abbrev s_Company_behind : Stmt := inClass (topS 31) 10
abbrev s_Company_steps : Stmt := inClass (topS 31) 11
abbrev s_stands_of : Stmt := topS 10
abbrev s_is_alike : Stmt := topS 8
abbrev s_twin_stands : Stmt := topS 11
abbrev s_differs : Stmt := topS 9
abbrev s_is_doubt : Stmt := topS 12
abbrev s_law_like : Stmt := topS 37
abbrev s_law : Stmt := topS 60
def dd_law_bag : He.DefD := ⟨("_law_bag", none), "_law_bag", "_law_bag", defArgs s_law_bag, defBody s_law_bag, defScope s_law_bag, [], []⟩
def dd_law_pull : He.DefD := ⟨("_law_pull", none), "_law_pull", "_law_pull", defArgs s_law_pull, defBody s_law_pull, defScope s_law_pull, [], []⟩
def dd_law_of : He.DefD := ⟨("_law_of", none), "_law_of", "_law_of", defArgs s_law_of, defBody s_law_of, defScope s_law_of, [], []⟩
def dd_law_letters : He.DefD := ⟨("_law_letters", none), "_law_letters", "_law_letters", defArgs s_law_letters, defBody s_law_letters, defScope s_law_letters, [], []⟩
def dd_law_signs : He.DefD := ⟨("_law_signs", none), "_law_signs", "_law_signs", defArgs s_law_signs, defBody s_law_signs, defScope s_law_signs, [], []⟩
def dd_law_names : He.DefD := ⟨("_law_names", none), "_law_names", "_law_names", defArgs s_law_names, defBody s_law_names, defScope s_law_names, [], []⟩
def dd_law_writer : He.DefD := ⟨("_law_writer", none), "_law_writer", "_law_writer", defArgs s_law_writer, defBody s_law_writer, defScope s_law_writer, [], []⟩
def dd_law_company : He.DefD := ⟨("_law_company", none), "_law_company", "_law_company", defArgs s_law_company, defBody s_law_company, defScope s_law_company, [], []⟩
def dd_law_filled : He.DefD := ⟨("_law_filled", none), "_law_filled", "_law_filled", defArgs s_law_filled, defBody s_law_filled, defScope s_law_filled, [], []⟩
def dd_law_begin : He.DefD := ⟨("_law_begin", none), "_law_begin", "_law_begin", defArgs s_law_begin, defBody s_law_begin, defScope s_law_begin, [], []⟩
def dd_law_arrows : He.DefD := ⟨("_law_arrows", none), "_law_arrows", "_law_arrows", defArgs s_law_arrows, defBody s_law_arrows, defScope s_law_arrows, [], []⟩
def dd_law_waits_count : He.DefD := ⟨("_law_waits_count", none), "_law_waits_count", "_law_waits_count", defArgs s_law_waits_count, defBody s_law_waits_count, defScope s_law_waits_count, [], []⟩
def dd_law_can : He.DefD := ⟨("_law_can", none), "_law_can", "_law_can", defArgs s_law_can, defBody s_law_can, defScope s_law_can, [], []⟩
def dd_law_after : He.DefD := ⟨("_law_after", none), "_law_after", "_law_after", defArgs s_law_after, defBody s_law_after, defScope s_law_after, [], []⟩
def dd_law_steps : He.DefD := ⟨("_law_steps", none), "_law_steps", "_law_steps", defArgs s_law_steps, defBody s_law_steps, defScope s_law_steps, [], []⟩
def dd_law_ways : He.DefD := ⟨("_law_ways", none), "_law_ways", "_law_ways", defArgs s_law_ways, defBody s_law_ways, defScope s_law_ways, [], []⟩
def dd_law_tight : He.DefD := ⟨("_law_tight", none), "_law_tight", "_law_tight", defArgs s_law_tight, defBody s_law_tight, defScope s_law_tight, [], []⟩
def dd_law_taking_turns : He.DefD := ⟨("_law_taking_turns", none), "_law_taking_turns", "_law_taking_turns", defArgs s_law_taking_turns, defBody s_law_taking_turns, defScope s_law_taking_turns, [], []⟩
def dd_law_delayed : He.DefD := ⟨("_law_delayed", none), "_law_delayed", "_law_delayed", defArgs s_law_delayed, defBody s_law_delayed, defScope s_law_delayed, [], []⟩
def dd_law_kinds : He.DefD := ⟨("_law_kinds", none), "_law_kinds", "_law_kinds", defArgs s_law_kinds, defBody s_law_kinds, defScope s_law_kinds, [], []⟩
def dd_law_alike : He.DefD := ⟨("_law_alike", none), "_law_alike", "_law_alike", defArgs s_law_alike, defBody s_law_alike, defScope s_law_alike, [], []⟩
def dd_law_twin_steps : He.DefD := ⟨("_law_twin_steps", none), "_law_twin_steps", "_law_twin_steps", defArgs s_law_twin_steps, defBody s_law_twin_steps, defScope s_law_twin_steps, [], []⟩
def dd_law_twin_rows : He.DefD := ⟨("_law_twin_rows", none), "_law_twin_rows", "_law_twin_rows", defArgs s_law_twin_rows, defBody s_law_twin_rows, defScope s_law_twin_rows, [], []⟩
def dd_law_walked : He.DefD := ⟨("_law_walked", none), "_law_walked", "_law_walked", defArgs s_law_walked, defBody s_law_walked, defScope s_law_walked, [], []⟩
def dd_law_differs : He.DefD := ⟨("_law_differs", none), "_law_differs", "_law_differs", defArgs s_law_differs, defBody s_law_differs, defScope s_law_differs, [], []⟩
def dd_law_doubt_ok : He.DefD := ⟨("_law_doubt_ok", none), "_law_doubt_ok", "_law_doubt_ok", defArgs s_law_doubt_ok, defBody s_law_doubt_ok, defScope s_law_doubt_ok, [], []⟩
def dd_is_name : He.DefD := ⟨("is_name", none), "is_name", "is_name", defArgs s_is_name, defBody s_is_name, defScope s_is_name, [], []⟩
def dd_is_sign : He.DefD := ⟨("is_sign", none), "is_sign", "is_sign", defArgs s_is_sign, defBody s_is_sign, defScope s_is_sign, [], []⟩
def dd_is_arrow : He.DefD := ⟨("is_arrow", none), "is_arrow", "is_arrow", defArgs s_is_arrow, defBody s_is_arrow, defScope s_is_arrow, [], []⟩
def dd_is_writer : He.DefD := ⟨("is_writer", none), "is_writer", "is_writer", defArgs s_is_writer, defBody s_is_writer, defScope s_is_writer, [], []⟩
def dd_need_writers : He.DefD := ⟨("need_writers", none), "need_writers", "need_writers", defArgs s_need_writers, defBody s_need_writers, defScope s_need_writers, [], []⟩
def dd_Company___init__ : He.DefD := ⟨("Company", some "__init__"), "__init__", "Company.__init__", defArgs s_Company___init__, defBody s_Company___init__, defScope s_Company___init__, [.adr (He.dflAt ("Company", some "__init__") 0)], []⟩
def dd_Company_begin : He.DefD := ⟨("Company", some "begin"), "begin", "Company.begin", defArgs s_Company_begin, defBody s_Company_begin, defScope s_Company_begin, [], []⟩
def dd_arrows_at : He.DefD := ⟨("arrows_at", none), "arrows_at", "arrows_at", defArgs s_arrows_at, defBody s_arrows_at, defScope s_arrows_at, [], []⟩
def dd_is_done : He.DefD := ⟨("is_done", none), "is_done", "is_done", defArgs s_is_done, defBody s_is_done, defScope s_is_done, [], []⟩
def dd_Company_counts : He.DefD := ⟨("Company", some "counts"), "counts", "Company.counts", defArgs s_Company_counts, defBody s_Company_counts, defScope s_Company_counts, [], []⟩
def dd_Company_may_write : He.DefD := ⟨("Company", some "may_write"), "may_write", "Company.may_write", defArgs s_Company_may_write, defBody s_Company_may_write, defScope s_Company_may_write, [], []⟩
def dd_Company_behind : He.DefD := ⟨("Company", some "behind"), "behind", "Company.behind", defArgs s_Company_behind, defBody s_Company_behind, defScope s_Company_behind, [], []⟩
def dd_Company_steps : He.DefD := ⟨("Company", some "steps"), "steps", "Company.steps", defArgs s_Company_steps, defBody s_Company_steps, defScope s_Company_steps, [], []⟩
def dd_stands_of : He.DefD := ⟨("stands_of", none), "stands_of", "stands_of", defArgs s_stands_of, defBody s_stands_of, defScope s_stands_of, [], []⟩
def dd_is_alike : He.DefD := ⟨("is_alike", none), "is_alike", "is_alike", defArgs s_is_alike, defBody s_is_alike, defScope s_is_alike, [], []⟩
def dd_twin_stands : He.DefD := ⟨("twin_stands", none), "twin_stands", "twin_stands", defArgs s_twin_stands, defBody s_twin_stands, defScope s_twin_stands, [], []⟩
def dd_differs : He.DefD := ⟨("differs", none), "differs", "differs", defArgs s_differs, defBody s_differs, defScope s_differs, [], []⟩
def dd_is_doubt : He.DefD := ⟨("is_doubt", none), "is_doubt", "is_doubt", defArgs s_is_doubt, defBody s_is_doubt, defScope s_is_doubt, [], [("who", .non), ("stamps", .adr (kwdAt ("is_doubt", none) "stamps"))]⟩
def dd_law_like : He.DefD := ⟨("_law_like", none), "_law_like", "_law_like", defArgs s_law_like, defBody s_law_like, defScope s_law_like, [], []⟩
def dd_law : He.DefD := ⟨("law", none), "law", "law", defArgs s_law, defBody s_law, defScope s_law, [], []⟩
def fnl : List He.DefD := [dd_law_bag, dd_law_pull, dd_law_of, dd_law_letters, dd_law_signs, dd_law_names, dd_law_writer, dd_law_company, dd_law_filled, dd_law_begin, dd_law_arrows, dd_law_waits_count, dd_law_can, dd_law_after, dd_law_steps, dd_law_ways, dd_law_tight, dd_law_taking_turns, dd_law_delayed, dd_law_kinds, dd_law_alike, dd_law_twin_steps, dd_law_twin_rows, dd_law_walked, dd_law_differs, dd_law_doubt_ok, dd_is_name, dd_is_sign, dd_is_arrow, dd_is_writer, dd_need_writers, dd_Company___init__, dd_Company_begin, dd_arrows_at, dd_is_done, dd_Company_counts, dd_Company_may_write, dd_Company_behind, dd_Company_steps, dd_stands_of, dd_is_alike, dd_twin_stands, dd_differs, dd_is_doubt, dd_law_like, dd_law]
def fb0 : PySem.W.Frag → Bool := tupAt (He.dflAt ("Company", some "__init__") 0) []
def fb1 : PySem.W.Frag → Bool := tupAt (kwdAt ("is_doubt", none) "stamps") []
def fb2 : PySem.W.Frag → Bool := tupAt (fun K => He.ga K "NOBODY") [.int (-1), .int 0]
def fbl : List (PySem.W.Frag → Bool) := [fb0, fb1, fb2]
def fal : List He.Fa := [.glo "_law_bag", .glo "_law_pull", .glo "_law_of", .glo "_law_letters", .glo "_law_signs", .glo "_law_names", .glo "_law_writer", .glo "_law_company", .glo "_law_filled", .glo "_law_begin", .glo "_law_arrows", .glo "_law_waits_count", .glo "_law_can", .glo "_law_after", .glo "_law_steps", .glo "_law_ways", .glo "_law_tight", .glo "_law_taking_turns", .glo "_law_delayed", .glo "_law_kinds", .glo "_law_alike", .glo "_law_twin_steps", .glo "_law_twin_rows", .glo "_law_walked", .glo "_law_differs", .glo "_law_doubt_ok", .glo "is_name", .glo "is_sign", .glo "is_arrow", .glo "is_writer", .glo "need_writers", .mkr "Company", .meth "Company" "begin", .glo "arrows_at", .glo "is_done", .meth "Company" "counts", .meth "Company" "may_write", .meth "Company" "behind", .meth "Company" "steps", .glo "stands_of", .glo "is_alike", .glo "twin_stands", .glo "differs", .glo "is_doubt", .glo "_law_like", .glo "law", .glo "Company", .cls "Company", .noat "Company" "crew", .str "LETTERS" "abcdefghijklmnopqrstuvwxyz", .int "LONGEST" 6, .int "MOST_ARROWS" 9, .int "MOST_COUNT" 3, .int "MOST_PLACE" 2, .int "MOST_WRITERS" 3, .glo "NOBODY", .free "all", .free "bool", .free "enumerate", .free "int", .free "isinstance", .free "len", .free "list", .free "max", .free "range", .free "set", .free "sorted", .free "str", .free "tuple", .free "zip"]
def tfl : List He.Defn := []
abbrev hk : PySem.W.Hook := hookPT 6 fbl fal fnl tfl
def FP : Prop := ∀ (w : World) (mg : Str → Option Value) (fa : Addr) (h : Heap), hk.says w h → h.Ns mainGlobals mg → mg ("law" : Str) = some (.ref fa) → ∃ K : PySem.W.Frag, K.In h ∧ LamX.LawAtS PySem.Challenge.rw_whoseink_k32_doubts_judged w K (L2N.CX (PySem.W.OpenLaw.prog PySem.Challenge.rw_whoseink_k32_doubts_judged) w) 9 63 "_law_script" mg fa h
/-- the hook, the rest of the proof told with what it says -/
def hkF (F : FP) : PySem.W.Hook where
  α := hk.α
  obs := hk.obs
  val := hk.val
  says := fun w h => hk.says w h ∧ FP
  of := fun w h e => ⟨hk.of w h e, F⟩
  keeps := fun w h h' s k => ⟨hk.keeps w h h' s.1 k, s.2⟩
section
open Lean in
local macro_rules
  | `($f:ident L3.hkX) => do
    let n := f.getId.eraseMacroScopes
    if n == `Hook.obs || n == `Hook.val then `($f L3.hk) else `($f (L3.hkF $(mkIdent `F)))
theorem head_of (F : FP) : PySem.Challenge.rw_whoseink_k32_doubts_judged.Holds := by
  w_on; o_law
  o_head L3.hkX
  case hw => w_witness2
  case hc =>
    refine LamX.walk_ofTsE (l := PySem.Challenge.rw_whoseink_k32_doubts_judged) (n := 63) (k := 9) (x := "_law_script") (CX := (fun w => L2N.CX (PySem.W.OpenLaw.prog PySem.Challenge.rw_whoseink_k32_doubts_judged) w)) rfl (by decide) (by kernel_rfl) ⟨rfl, by decide, by decide⟩ ?F (fun _ _ _ _ _ z => by obtain ⟨_, _, _, _, _, _, _, _, _, _, _, _, z⟩ := z; exact z)
    intro w mg fa h Y G hmg0
    exact Y.2 w mg fa h Y.1 G hmg0
end
end L3
set_option Elab.async false
set_option linter.all false
set_option maxRecDepth 100000
set_option maxHeartbeats 1000000
namespace L3
open PySem PySem.Spec PyProof.Rows L2
local macro_rules | `(tactic| walk_at "w") => `(tactic| conv => whnf)
theorem mupd_comm {M : Mp} {a b : Addr} {x y : MO} (h : a ≠ b) : mupd (mupd M a x) b y = mupd (mupd M b y) a x := by
  funext c
  simp only [mupd]
  by_cases h1 : c = b
  · subst h1; rw [if_pos rfl, if_neg (Ne.symm h), if_pos rfl]
  · rw [if_neg h1, if_neg h1]
theorem cutS_to (x : Str) (k : Nat) : (cutS x none (some (k : Int))).cps.toList = x.cps.toList.take k := by
  unfold cutS
  rw [HT.sIx_none, HT.sIx_nat, List.drop_zero, Nat.sub_zero]
  show x.cps.toList.take _ = _
  have : x.length = x.cps.toList.length := by simp [Str.length]
  rw [this]
  by_cases h : k ≤ x.cps.toList.length
  · rw [Nat.min_eq_left h]
  · rw [Nat.min_eq_right (by omega), List.take_length, List.take_of_length_le (by omega)]
theorem cutS_from (x : Str) (k : Nat) : (cutS x (some (k : Int)) none).cps.toList = x.cps.toList.drop k := by
  unfold cutS
  rw [HT.sIx_none, HT.sIx_nat]
  have hl : x.length = x.cps.toList.length := by simp [Str.length]
  show ((x.cps.toList.drop _).take _) = _
  rw [hl]
  by_cases h : k ≤ x.cps.toList.length
  · rw [Nat.min_eq_left h, List.take_of_length_le (by rw [List.length_drop]; omega)]
  · rw [Nat.min_eq_right (by omega), List.drop_length, List.drop_eq_nil_of_le (by omega)]; simp
theorem app_list (x y : Str) : (x ++ y).cps.toList = x.cps.toList ++ y.cps.toList := by
  have e : (x ++ y).cps = x.cps ++ y.cps := rfl
  rw [e, Array.toList_append]
theorem len_list (x : Str) : x.length = x.cps.toList.length := by simp [Str.length]
theorem join_ones : ∀ {ys : List Str}, (∀ y ∈ ys, ∃ c, y = ⟨#[c]⟩ ∧ isLetter c = true) → (Txt.join (Str.ofString "") ys).cps.toList.length = ys.length ∧ (Txt.join (Str.ofString "") ys).cps.toList.all isLetter = true := by
  intro ys h
  have e : (Txt.join (Str.ofString "") ys).cps.toList = TL.joinL (Str.ofString "").cps.toList (ys.map fun y => y.cps.toList) := by
    rw [TL.join_eq]; exact TL.tl_join _ ys
  have e0 : (Str.ofString "").cps.toList = [] := by decide +kernel
  rw [e, e0]
  have key : ∀ zs : List (List Nat), (∀ z ∈ zs, ∃ c, z = [c] ∧ isLetter c = true) → (TL.joinL [] zs).length = zs.length ∧ (TL.joinL [] zs).all isLetter = true := by
    intro zs
    induction zs with
    | nil => intro _; exact ⟨rfl, rfl⟩
    | cons z zs ih =>
      intro hz
      obtain ⟨c, rfl, hc⟩ := hz z List.mem_cons_self
      have ih' := ih fun y hy => hz y (List.mem_cons_of_mem _ hy)
      cases zs with
      | nil => exact ⟨rfl, by simp [TL.joinL, hc]⟩
      | cons y ys =>
        have ej : TL.joinL [] ([c] :: y :: ys) = c :: TL.joinL [] (y :: ys) := by simp [TL.joinL]
        rw [ej]
        exact ⟨by rw [List.length_cons, ih'.1]; rfl, by rw [List.all_cons, hc, ih'.2]; rfl⟩
  have := key (ys.map fun y => y.cps.toList) fun z hz => by
    obtain ⟨y, hy, rfl⟩ := List.mem_map.mp hz
    obtain ⟨c, rfl, hc⟩ := h y hy
    exact ⟨c, rfl, hc⟩
  rw [List.length_map] at this
  exact this
theorem sum_ones {ys : List Str} (h : ∀ y ∈ ys, y.length = 1) : (ys.map (·.length)).sum = ys.length := by
  induction ys with
  | nil => rfl
  | cons y ys ih =>
    rw [List.map_cons, List.sum_cons, h y List.mem_cons_self, ih fun z hz => h z (List.mem_cons_of_mem _ hz), List.length_cons]
    omega
theorem letter_at {i : Int} (h0 : 0 ≤ i) (h1 : i < 26) : atI letters.cps.toList i = some (97 + i.toNat) := by
  obtain ⟨j, rfl⟩ := Int.eq_ofNat_of_zero_le h0
  rw [letters_list]
  have hj : j < 26 := by omega
  refine atI_nat (j := j) ?_
  rw [List.getElem?_map, List.getElem?_range hj]
  simp [Nat.add_comm]
/-- a drawn name: letters, one to six, a given one at a given place -/
structure NmAt (a c : Nat) (x : Str) : Prop where
  pos : 0 < x.length
  few : x.length ≤ 6
  let_ : x.cps.toList.all isLetter = true
  at_ : x.cps.toList[a]? = some c
theorem NmAt.name {a c : Nat} {x : Str} (h : NmAt a c x) : isName x = true := by
  unfold isName
  rw [decide_eq_true h.pos, decide_eq_true h.few, h.let_]; rfl
/-- the letter of a step -/
def stepL (start step : Int) (k : Nat) : Nat := 97 + ((start + step * k) % 26).toNat
theorem stepL_inj {start step : Int} {i j : Nat} (hs : step = 1 ∨ step = 3 ∨ step = 5 ∨ step = 7) (hi : i < 26) (hj : j < 26) (h : stepL start step i = stepL start step j) : i = j := by
  unfold stepL at h
  have h1 := Int.emod_nonneg (start + step * i) (show (26 : Int) ≠ 0 by decide)
  have h2 := Int.emod_nonneg (start + step * j) (show (26 : Int) ≠ 0 by decide)
  have h3 : (start + step * i) % 26 = (start + step * j) % 26 := by omega
  rcases hs with rfl | rfl | rfl | rfl <;> omega
def sp_law_names : SpD := fun ds M Q _ => ∃ p b n, ds = [.ref p, .int n] ∧ M p = some (.lst (Bag.l b)) ∧ b.Ok ∧ 0 ≤ n ∧ n ≤ 26 ∧
  ∀ (xs : List Str) b', Bag.Ok b' → (xs.length : Int) = n → (∀ x ∈ xs, isName x = true) → xs.Nodup → Q (.lst (xs.map D.str)) (mupd M p (.lst b'.l))
def t_law_names_1 : DS := (dFrzN 9 (dRet (dVar 9)))
def t_law_names : DS := (dSeq (dAsg (dTup (dCons (dBin rAddD (dC (.int 1)) (dCall sp_law_pull (dCons (dVar 0) (dCons (dC (.int 6)) dNil)))) (dCons (dCall sp_law_letters dNil) dNil))) (.tup [(.name 4), (.name 5)]))
    (dSeq (dPar 6 7 (dCons (dCall sp_law_pull (dCons (dVar 0) (dCons (dVar 4) dNil))) (dCons (dCall sp_law_pull (dCons (dVar 0) (dCons (dC (.int 26)) dNil))) dNil)))
    (dSeq (dSet 2 (dCall sp_law_of (dCons (dVar 0) (dCons (dLst (dCons (dC (.int 1)) (dCons (dC (.int 3)) (dCons (dC (.int 5)) (dCons (dC (.int 7)) dNil))))) dNil))))
    (dSeq (dPar 8 9 (dCons (dJoin (dC (.str "")) (dLc (iRange1 (dCons (dVar 4) dNil)) (.name 3) dYes (dCall sp_law_of (dCons (dVar 0) (dCons (dVar 5) dNil))) [3])) (dCons (dLstM dNil) dNil)))
    (dSeq (dFor (iRange1 (dCons (dVar 1) dNil)) (.name 3) (dSeq (dSet 10 (dBin rIxD (dVar 5) (dBin rModI (dBin rAddD (dVar 7) (dBin rMulI (dVar 2) (dVar 3))) (dC (.int 26)))))
    (dSeq (dSet 11 (dBin rAddD (dBin rAddD (dSl (dVar 8) dNoPart (dPart (dVar 6))) (dVar 10)) (dSl (dVar 8) (dPart (dBin rAddD (dVar 6) (dC (.int 1)))) dNoPart)))
    (dDrop (dAppend (dVar 9) (dIf (dTest (dBin (rEqDD id) (dCall sp_law_pull (dCons (dVar 0) (dCons (dC (.int 3)) dNil))) (dC (.int 0)))) (dSl (dVar 11) dNoPart (dPart (dBin rMaxI (dBin rAddD (dVar 6) (dC (.int 1))) (dBin rSubI (dVar 4) (dVar 3))))) (dVar 11)))))))
    t_law_names_1)))))
theorem r_law_names (ds : List D) (M : Mp) (Q : DK) (E : DX) (hl : ds.length = 2) (h : sp_law_names ds M Q E) : t_law_names { nx := fun _ M' => Q .non M', rt := Q } (startD ["_law_bag_here", "_law_many", "_law_step", "_law_k", "_law_size", "_law_letters_here", "_law_at", "_law_start", "_law_base", "_law_found", "_law_sign", "_law_name"] ds) M := by
  obtain ⟨p, b, n, rfl, hM, hb, h0, h1, q⟩ := h
  walk_at "w"
  refine ⟨p, b, 6, rfl, hM, hb, by decide, by decide, fun r1 b1 hb1 r10 r11 => ?_⟩
  walk_at "w"
  refine ⟨rfl, ?_⟩
  walk_at "w"
  refine ⟨p, b1, 1 + r1, rfl, mupd_same, hb1, by omega, by omega, fun r2 b2 hb2 r20 r21 => ?_⟩
  rw [mupd_mupd]
  walk_at "w"
  refine ⟨p, b2, 26, rfl, mupd_same, hb2, by decide, by decide, fun r3 b3 hb3 r30 r31 => ?_⟩
  rw [mupd_mupd]
  walk_at "w"
  refine ⟨p, b3, .lst [.int 1, .int 3, .int 5, .int 7], [.int 1, .int 3, .int 5, .int 7], rfl, mupd_same, hb3, by decide, by decide, .inl ⟨rfl, fun e => by cases e⟩, fun y b4 hb4 hy => ?_⟩
  rw [mupd_mupd]
  obtain ⟨st, rfl, hst⟩ : ∃ st : Int, y = .int st ∧ (st = 1 ∨ st = 3 ∨ st = 5 ∨ st = 7) := by
    simp only [List.mem_cons, List.not_mem_nil, or_false] at hy
    rcases hy with rfl | rfl | rfl | rfl <;> exact ⟨_, rfl, by omega⟩
  walk_at "w"
  refine ⟨⟨by omega, by omega⟩, ?_⟩
  walk_at "w"
  refine lc_inv (fun i acc M' => ∃ b' ys, Bag.Ok b' ∧ M' = mupd M p (.lst b'.l) ∧ acc = ys.map D.str ∧ ys.length = i ∧ ∀ y ∈ ys, ∃ c, y = ⟨#[c]⟩ ∧ isLetter c = true) ⟨b4, [], hb4, rfl, rfl, rfl, fun y hy => by cases hy⟩ (fun i x acc M' K hx ⟨b', ys, hb', e1, e2, e3, e4⟩ hK => ?_) fun acc M' ⟨b', ys, hb', e1, e2, e3, e4⟩ => ?_
  · subst e1 e2
    walk_at "w"
    refine ⟨p, b', .str letters, signs letters, rfl, mupd_same, hb', by decide +kernel, by decide +kernel, .inr (.inr ⟨letters, rfl, rfl⟩), fun x b2 hb2 hx => ?_⟩
    obtain ⟨c, hc, rfl⟩ := List.mem_map.mp hx
    have hc' := (mem_letters c).mp hc
    refine hK _ _ ⟨b2, ys ++ [⟨#[c]⟩], hb2, by rw [mupd_mupd], by simp [sgn], by simp [e3], fun y hy => ?_⟩
    rcases List.mem_append.mp hy with hy | hy
    · exact e4 y hy
    · rw [List.mem_singleton.mp hy]; exact ⟨c, rfl, hc'⟩
  · subst e1 e2
    rw [rng_length] at e3
    walk_at "w"
    rw [asStrs_map]
    walk_at "w"
    have hj := join_ones e4
    have hs : (ys.map (·.length)).sum = ys.length := sum_ones fun y hy => by obtain ⟨c, rfl, _⟩ := e4 y hy; rfl
    have h00 : (Str.ofString "").length = 0 := by decide +kernel
    refine ⟨by rw [hs, h00]; omega, ?_⟩
    generalize Txt.join (Str.ofString "") ys = base at hj ⊢
    obtain ⟨bl, bLet⟩ := hj
    have hbl : (base.cps.toList.length : Int) = 1 + r1 := by rw [bl, e3]; omega
    walk_at "w"
    intro qa hqa
    have hpq : qa ≠ p := fun e => by rw [e, mupd_same] at hqa; cases hqa
    walk_at "w"
    refine ⟨⟨by omega, by omega⟩, ?_⟩
    walk_at "w"
    obtain ⟨at_, rfl⟩ := Int.eq_ofNat_of_zero_le r20
    refine for_inv (fun i env M' => ∃ k s10 s11 b', ∃ xs : List Str, env = [some (.ref p), some (.int n), some (.int st), k, some (.int (1 + r1)), some (.str letters), some (.int (at_ : Int)), some (.int r3), some (.str base), some (.ref qa), s10, s11] ∧ Bag.Ok b' ∧ M' = mupd (mupd M p (.lst b'.l)) qa (.lst (xs.map D.str)) ∧ xs.length = i ∧ ∀ j x, xs[j]? = some x → NmAt at_ (stepL r3 st j) x)
      ⟨none, none, none, b', [], rfl, hb', rfl, rfl, fun j x hx => by simp at hx⟩ (fun i x env M' K hx ⟨k, s10, s11, b5, xs, e1, hb5, e2, e3, e4⟩ hK => ?_) fun env M' ⟨k, s10, s11, b5, xs, e1, hb5, e2, e3, e4⟩ => ?_
    · obtain ⟨hi, rfl⟩ := rng_at hx
      subst e1 e2
      have hmod0 := Int.emod_nonneg (r3 + st * (0 + (i : Int))) (show (26 : Int) ≠ 0 by decide)
      have hmod1 := Int.emod_lt_of_pos (r3 + st * (0 + (i : Int))) (show (0 : Int) < 26 by decide)
      walk_at "w"
      refine ⟨.inr ?_, ?_⟩
      · rcases hst with rfl | rfl | rfl | rfl <;> omega
      walk_at "w"
      refine ⟨by show (0 : Int) < 26; decide, ?_⟩
      walk_at "w"
      rw [letter_at hmod0 hmod1]
      walk_at "w"
      have eL : (97 + ((r3 + st * (0 + (i : Int))) % 26).toNat) = stepL r3 st i := by unfold stepL; rw [Int.zero_add]
      rw [eL]
      have hcl : isLetter (stepL r3 st i) = true := by
        rw [← eL]; unfold isLetter
        rw [decide_eq_true (show 97 ≤ 97 + ((r3 + st * (0 + (i : Int))) % 26).toNat by omega), decide_eq_true (show 97 + ((r3 + st * (0 + (i : Int))) % 26).toNat ≤ 122 by omega)]; rfl
      generalize hcE : stepL r3 st i = c at hcl ⊢
      have hat : at_ < base.cps.toList.length := by omega
      have ca := cutS_to base at_
      have cb := cutS_from base (at_ + 1)
      have e11 : ((at_ + 1 : Nat) : Int) = (at_ : Int) + 1 := by omega
      rw [e11] at cb
      have la := congrArg List.length ca
      have lb := congrArg List.length cb
      rw [List.length_take, ← len_list] at la
      rw [List.length_drop, ← len_list] at lb
      refine ⟨by rw [sizeLine_eq, la]; show _ + 1 ≤ _; omega, ?_⟩
      walk_at "w"
      have l1 : (cutS base none (some (at_ : Int)) ++ (⟨#[c]⟩ : Str)).length = (cutS base none (some (at_ : Int))).length + 1 := by
        rw [len_list, app_list, List.length_append, ← len_list]; rfl
      refine ⟨by rw [sizeLine_eq, l1, la, lb]; omega, ?_⟩
      have hnm : NmAt at_ c (cutS base none (some (at_ : Int)) ++ (⟨#[c]⟩ : Str) ++ cutS base (some ((at_ : Int) + 1)) none) := by
        have el : (cutS base none (some (at_ : Int)) ++ (⟨#[c]⟩ : Str) ++ cutS base (some ((at_ : Int) + 1)) none).cps.toList = base.cps.toList.take at_ ++ c :: base.cps.toList.drop (at_ + 1) := by
          rw [app_list, app_list, ca, cb]; simp
        refine ⟨?_, ?_, ?_, ?_⟩
        · rw [len_list, el, List.length_append, List.length_cons, List.length_take, List.length_drop]; omega
        · rw [len_list, el, List.length_append, List.length_cons, List.length_take, List.length_drop]; omega
        · rw [el, List.all_append, List.all_cons, hcl, Bool.true_and, Bool.and_eq_true]
          rw [List.all_eq_true] at bLet
          exact ⟨List.all_eq_true.mpr fun z hz => bLet z (List.mem_of_mem_take hz), List.all_eq_true.mpr fun z hz => bLet z (List.mem_of_mem_drop hz)⟩
        · rw [el, List.getElem?_append_right (by rw [List.length_take]; exact Nat.min_le_left _ _), List.length_take, Nat.min_eq_left (Nat.le_of_lt hat), Nat.sub_self]; rfl
      generalize (cutS base none (some (at_ : Int)) ++ (⟨#[c]⟩ : Str) ++ cutS base (some ((at_ : Int) + 1)) none) = nm at hnm ⊢
      walk_at "w"
      refine ⟨?_, ?_⟩
      · walk_at "w"
        rw [mupd_same]
        trivial
      walk_at "w"
      refine ⟨p, b5, 3, rfl, by rw [mupd_ne (Ne.symm hpq), mupd_same], hb5, by decide, by decide, fun r4 b6 hb6 r40 r41 => ?_⟩
      rw [mupd_comm hpq, mupd_mupd]
      walk_at "w"
      refine ⟨⟨rfl, rfl⟩, ?_⟩
      have fin : ∀ y, NmAt at_ c y → (xs.map D.str).length < sizeLine ∧ K ((([some (D.ref p), some (D.int n), some (D.int st), k, some (D.int (1 + r1)), some (D.str letters), some (D.int (at_ : Int)), some (D.int r3), some (D.str base), some (D.ref qa), s10, s11].set 3 (some (D.int (0 + (i : Int))))).set 10 (some (sgn c))).set 11 (some (D.str nm))) (mupd (mupd (mupd M p (.lst b6.l)) qa (.lst (xs.map D.str))) qa (.lst (xs.map D.str ++ [.str y]))) := fun y hy =>
        ⟨by rw [List.length_map, sizeLine_eq]; omega, hK _ _ ⟨_, _, _, b6, xs ++ [y], rfl, hb6, by rw [mupd_mupd, List.map_append]; rfl, by rw [List.length_append, e3]; rfl, fun j x hx2 => by
          by_cases hj : j < xs.length
          · rw [List.getElem?_append_left hj] at hx2; exact e4 j x hx2
          · rw [List.getElem?_append_right (by omega)] at hx2
            have hj0 : j = i := by
              have := (List.getElem?_eq_some_iff.mp hx2).1
              simp at this
              omega
            subst hj0
            rw [e3, Nat.sub_self] at hx2
            cases hx2
            rw [hcE]; exact hy⟩⟩
      walk_at "w"
      refine brn_by (fun hc => ?_) fun hc => ?_
      · walk_at "w"
        have hm : ∃ m : Nat, (if (1 + r1 - (0 + (i : Int))) > ((at_ : Int) + 1) then (1 + r1 - (0 + (i : Int))) else ((at_ : Int) + 1)) = (m : Int) ∧ at_ < m := by
          split
          · exact ⟨(1 + r1 - (0 + (i : Int))).toNat, by omega, by omega⟩
          · exact ⟨at_ + 1, by omega, by omega⟩
        obtain ⟨m, em, hm⟩ := hm
        have hnm2 : NmAt at_ c (cutS nm none (some (m : Int))) := by
          have cm := cutS_to nm m
          have h1 := hnm.pos
          have h2 := hnm.few
          have h3 := hnm.let_
          rw [len_list] at h1 h2
          refine ⟨by rw [len_list, cm, List.length_take]; omega, by rw [len_list, cm, List.length_take]; omega, ?_, ?_⟩
          · rw [cm]
            rw [List.all_eq_true] at h3 ⊢
            exact fun z hz => h3 z (List.mem_of_mem_take hz)
          · rw [cm, List.getElem?_take, if_pos hm]; exact hnm.at_
        rw [em]
        rw [mupd_same]
        walk_at "w"
        refine fin _ hnm2
      · walk_at "w"
        rw [mupd_same]
        walk_at "w"
        refine fin _ hnm
    · subst e1 e2
      rw [rng_length] at e3
      walk_at "w"
      rw [mupd_same]
      walk_at "w"
      rw [mdel_mupd (by rw [mupd_ne hpq]; rw [mupd_ne hpq] at hqa; exact hqa)]
      refine q xs b5 hb5 (by omega) (fun x hx => ?_) ?_
      · obtain ⟨j, hj⟩ := List.getElem?_of_mem hx
        exact (e4 j x hj).name
      · rw [List.nodup_iff_pairwise_ne, List.pairwise_iff_getElem]
        intro i j hi hj hij e
        have h1 := e4 i xs[i] (List.getElem?_eq_getElem hi)
        have h2 := e4 j xs[j] (List.getElem?_eq_getElem hj)
        rw [e] at h1
        have := stepL_inj hst (by omega) (by omega) (Option.some.inj (h1.at_.symm.trans h2.at_))
        omega
theorem leD_str {a b : Str} : leD (.str a) (.str b) = decide (a.cps.toList ≤ b.cps.toList) := by
  show (!PySem.W.dataLt (.str b) (.str a)) = _
  rw [PySem.W.dataLt_str, PySem.W.not_lt_str]
theorem one_le {a b : Nat} : ([a] ≤ [b]) ↔ a ≤ b := by
  rw [← List.not_lt, ← Nat.not_lt]
  constructor
  · intro h q; exact h (List.Lex.rel q)
  · intro h q
    cases q with
    | rel q => exact h q
    | cons q => cases q
theorem leD_sgn {a b : Nat} : leD (sgn a) (sgn b) = decide (a ≤ b) := by
  unfold sgn
  rw [leD_str, decide_eq_decide]
  exact one_le
theorem sortD_pw (ds : List D) : (sortD ds).Pairwise (fun a b => leD a b = true) := PySem.W.sort_pairwise (PySem.W.sortLe_total _ false _) ds
theorem sortD_perm (ds : List D) : (sortD ds).Perm ds := List.mergeSort_perm _ _
theorem sortD_sgns (cs : List Nat) : ∃ ys : List Nat, sortD (cs.map sgn) = ys.map sgn ∧ ys.Perm cs ∧ ys.Pairwise (· ≤ ·) := by
  have e := (PySem.W.sort_maps (r := fun a b => decide (a ≤ b)) (s := leD) sgn (l := cs) fun a _ b _ => leD_sgn.symm)
  refine ⟨_, e.symm, List.mergeSort_perm _ _, ?_⟩
  have h := sortD_pw (cs.map sgn)
  unfold sortD at h
  rw [← e, List.pairwise_map] at h
  exact h.imp fun h => of_decide_eq_true (leD_sgn ▸ h)
theorem les_flat {n : Nat} {ds : List D} (h : ∀ d ∈ ds, flatD d = true) : D.les n ds = true := les_of fun d hd => by
  have := h d hd
  cases d <;> first | (cases n <;> rfl) | cases this
theorem srt_strs (xs : List Str) : SrtOk (xs.map D.str) := by
  refine ⟨?_, ?_⟩
  · rw [List.map_map]; exact PySem.W.AllAlike.of fun b b' => by simp [D.py, PySem.W.alike]
  · rw [List.map_map]; exact PySem.W.Sortable.others fun b => ⟨by simp [D.py], by simp [D.py]⟩
theorem sgns_strs (cs : List Nat) : cs.map sgn = (cs.map fun c => (⟨#[c]⟩ : Str)).map D.str := by rw [List.map_map]; rfl
theorem le_nodup_lt {α : Type} {xs : List α} {le lt : α → α → Prop} (h : xs.Pairwise le) (hn : xs.Nodup) (hl : ∀ a b, le a b → a ≠ b → lt a b) : xs.Pairwise lt := by
  have := List.Pairwise.and h hn
  exact this.imp fun ⟨a, b⟩ => hl _ _ a b
/-- a row of letters that rises -/
structure SgOk (cs : List Nat) : Prop where
  let_ : ∀ c ∈ cs, isLetter c = true
  up : cs.Pairwise (· < ·)
theorem SgOk.few {cs : List Nat} (h : SgOk cs) : cs.length ≤ 26 := by
  have h1 : cs.Nodup := h.up.imp fun q => Nat.ne_of_lt q
  have h2 : ∀ c ∈ cs, c ∈ (List.range 26).map (· + 97) := fun c hc => by
    have := (mem_letters c).mpr (h.let_ c hc)
    rwa [letters_list] at this
  have := L2.nat_nodup_len cs _ h1 h2
  simpa using this
def sp_law_signs : SpD := fun ds M Q _ => ∃ p b n, ds = [.ref p, .int n] ∧ M p = some (.lst (Bag.l b)) ∧ b.Ok ∧ 0 < n ∧ n ≤ 26 ∧
  ∀ (cs : List Nat) b', Bag.Ok b' → SgOk cs → 0 < cs.length → (cs.length : Int) ≤ n → Q (.lst (cs.map sgn)) (mupd M p (.lst b'.l))
def t_law_signs : DS := (dSeq (dAsg (dTup (dCons (dCall sp_law_pull (dCons (dVar 0) (dCons (dC (.int 26)) dNil))) (dCons (dCall sp_law_of (dCons (dVar 0) (dCons (dLst (dCons (dC (.int 1)) (dCons (dC (.int 3)) (dCons (dC (.int 5)) (dCons (dC (.int 7)) dNil))))) dNil))) dNil))) (.tup [(.name 2), (.name 3)]))
    (dSeq (dAsg (dTup (dCons (dBin rAddD (dC (.int 1)) (dCall sp_law_pull (dCons (dVar 0) (dCons (dVar 1) dNil)))) (dCons (dCall sp_law_letters dNil) dNil))) (.tup [(.name 4), (.name 5)]))
    (dRet (dUn rSortD (dLc (iRange1 (dCons (dVar 4) dNil)) (.name 6) dYes (dBin rIxD (dVar 5) (dBin rModI (dBin rAddD (dVar 2) (dBin rMulI (dVar 3) (dVar 6))) (dC (.int 26)))) [6])))))
theorem r_law_signs (ds : List D) (M : Mp) (Q : DK) (E : DX) (hl : ds.length = 2) (h : sp_law_signs ds M Q E) : t_law_signs { nx := fun _ M' => Q .non M', rt := Q } (startD ["_law_bag_here", "_law_limit", "_law_start", "_law_step", "_law_many", "_law_letters_here", "_law_k"] ds) M := by
  obtain ⟨p, b, n, rfl, hM, hb, h0, h1, q⟩ := h
  walk_at "w"
  refine ⟨p, b, 26, rfl, hM, hb, by decide, by decide, fun r3 b1 hb1 r30 r31 => ?_⟩
  walk_at "w"
  refine ⟨p, b1, .lst [.int 1, .int 3, .int 5, .int 7], [.int 1, .int 3, .int 5, .int 7], rfl, mupd_same, hb1, by decide, by decide, .inl ⟨rfl, fun e => by cases e⟩, fun y b2 hb2 hy => ?_⟩
  rw [mupd_mupd]
  obtain ⟨st, rfl, hst⟩ : ∃ st : Int, y = .int st ∧ (st = 1 ∨ st = 3 ∨ st = 5 ∨ st = 7) := by
    simp only [List.mem_cons, List.not_mem_nil, or_false] at hy
    rcases hy with rfl | rfl | rfl | rfl <;> exact ⟨_, rfl, by omega⟩
  walk_at "w"
  refine ⟨p, b2, n, rfl, mupd_same, hb2, h0, by omega, fun r4 b3 hb3 r40 r41 => ?_⟩
  rw [mupd_mupd]
  walk_at "w"
  refine ⟨rfl, ?_⟩
  walk_at "w"
  refine ⟨⟨by omega, by omega⟩, ?_⟩
  walk_at "w"
  refine lc_inv (fun i acc M' => M' = mupd M p (.lst b3.l) ∧ acc = ((List.range i).map (stepL r3 st)).map sgn) ⟨rfl, rfl⟩ (fun i x acc M' K hx ⟨e1, e2⟩ hK => ?_) fun acc M' ⟨e1, e2⟩ => ?_
  · obtain ⟨hi, rfl⟩ := rng_at hx
    subst e1
    have hmod0 := Int.emod_nonneg (r3 + st * (0 + (i : Int))) (show (26 : Int) ≠ 0 by decide)
    have hmod1 := Int.emod_lt_of_pos (r3 + st * (0 + (i : Int))) (show (0 : Int) < 26 by decide)
    walk_at "w"
    refine ⟨.inr ?_, ?_⟩
    · rcases hst with rfl | rfl | rfl | rfl <;> omega
    walk_at "w"
    refine ⟨by show (0 : Int) < 26; decide, ?_⟩
    walk_at "w"
    rw [letter_at hmod0 hmod1]
    refine hK _ _ ⟨rfl, ?_⟩
    have eL : (97 + ((r3 + st * (0 + (i : Int))) % 26).toNat) = stepL r3 st i := by unfold stepL; rw [Int.zero_add]
    rw [e2, eL, List.range_succ, List.map_append, List.map_append]; rfl
  · subst e1 e2
    rw [rng_length]
    generalize hk : (1 + r4).toNat = k
    have hk1 : k ≤ 26 := by omega
    walk_at "w"
    refine ⟨⟨les_flat fun d hd => ?_, by rw [sgns_strs]; exact srt_strs _⟩, ?_⟩
    · obtain ⟨c, _, rfl⟩ := List.mem_map.mp hd; rfl
    obtain ⟨ys, e1, e2, e3⟩ := sortD_sgns ((List.range k).map (stepL r3 st))
    rw [e1]
    have hnd : ((List.range k).map (stepL r3 st)).Nodup := by
      rw [List.nodup_iff_pairwise_ne, List.pairwise_map]
      refine List.Pairwise.imp_of_mem ?_ List.nodup_range
      intro a b ha hb hne e
      exact hne (stepL_inj hst (by have := List.mem_range.mp ha; omega) (by have := List.mem_range.mp hb; omega) e)
    have hlen : ys.length = k := by rw [e2.length_eq]; simp
    refine q ys b3 hb3 ⟨fun c hc => ?_, le_nodup_lt e3 (e2.nodup_iff.mpr hnd) fun a b h1 h2 => by omega⟩ (by omega) (by omega)
    obtain ⟨i, hi, rfl⟩ := List.mem_map.mp (e2.mem_iff.mp hc)
    have hmod0 := Int.emod_nonneg (r3 + st * (i : Int)) (show (26 : Int) ≠ 0 by decide)
    have hmod1 := Int.emod_lt_of_pos (r3 + st * (i : Int)) (show (0 : Int) < 26 by decide)
    unfold stepL isLetter
    rw [decide_eq_true (show 97 ≤ 97 + ((r3 + st * (i : Int)) % 26).toNat by omega), decide_eq_true (show 97 + ((r3 + st * (i : Int)) % 26).toNat ≤ 122 by omega)]; rfl
/-- an arrow: place, sign, to -/
structure Ar where
  at_ : Int
  sg : Str
  to : Int
structure Wr where
  name : Str
  ar : List Ar
  pat : Int
  cap : Int
def arD (a : Ar) : D := .tup [.int a.at_, .str a.sg, .int a.to]
def wrD (w : Wr) : D := .tup [.str w.name, .tup (w.ar.map arD), .int w.pat, .int w.cap]
/-- arrows of a writer that is one: places and signs rise -/
def arLt (a b : Ar) : Prop := a.at_ < b.at_ ∨ (a.at_ = b.at_ ∧ a.sg.cps.toList < b.sg.cps.toList)
structure ArOk (a : Ar) : Prop where
  at0 : 0 ≤ a.at_
  at1 : a.at_ ≤ 2
  sg : ∃ c, a.sg = ⟨#[c]⟩ ∧ isLetter c = true
  to0 : 0 ≤ a.to
  to1 : a.to ≤ 2
structure WrOk (w : Wr) : Prop where
  name : isName w.name = true
  few : w.ar.length ≤ 9
  ar : ∀ a ∈ w.ar, ArOk a
  up : w.ar.Pairwise arLt
  pat0 : 0 ≤ w.pat
  pat1 : w.pat ≤ 3
  cap0 : 0 ≤ w.cap
  cap1 : w.cap ≤ 3
/-- what is drawn: the name is as it was handed -/
structure WrDr (name : Str) (places : Int) (cs : List Nat) (w : Wr) : Prop where
  name : w.name = name
  few : w.ar.length ≤ 9
  ar : ∀ a ∈ w.ar, 0 ≤ a.at_ ∧ a.at_ < places ∧ (∃ c ∈ cs, a.sg = ⟨#[c]⟩) ∧ 0 ≤ a.to ∧ a.to < places
  up : w.ar.Pairwise arLt
  pat0 : 0 ≤ w.pat
  pat1 : w.pat ≤ 3
  cap0 : 0 ≤ w.cap
  cap1 : w.cap ≤ 3
theorem WrDr.ok {name : Str} {places : Int} {cs : List Nat} {w : Wr} (h : WrDr name places cs w) (hn : isName name = true) (hp : places ≤ 3) (hc : SgOk cs) : WrOk w :=
  ⟨by rw [h.name]; exact hn, h.few, fun a ha => by
    obtain ⟨h1, h2, ⟨c, hcs, h3⟩, h4, h5⟩ := h.ar a ha
    exact ⟨h1, by omega, ⟨c, h3, hc.let_ c hcs⟩, h4, by omega⟩, h.up, h.pat0, h.pat1, h.cap0, h.cap1⟩
def sp_law_writer : SpD := fun ds M Q _ => ∃ p b name n cs thick, ds = [.ref p, .str name, .int n, .lst (cs.map sgn), .int thick] ∧ M p = some (.lst (Bag.l b)) ∧ b.Ok ∧ 0 < n ∧ n ≤ 3 ∧ SgOk cs ∧
  ∀ w b', Bag.Ok b' → WrDr name n cs w → Q (wrD w) (mupd M p (.lst b'.l))
def t_law_writer_1 : DS := (dSeq (dFrzN 5 (dSet 7 (dLst (dCons (dC (.int 0)) (dCons (dC (.int 0)) (dCons (dC (.int 0)) (dCons (dC (.int 1)) (dCons (dC (.int 2)) (dCons (dC (.int 3)) dNil)))))))))
    (dRet (dTup (dCons (dVar 1) (dCons (dUn rTupleD (dVar 5)) (dCons (dCall sp_law_of (dCons (dVar 0) (dCons (dVar 7) dNil))) (dCons (dCall sp_law_of (dCons (dVar 0) (dCons (dVar 7) dNil))) dNil)))))))
def t_law_writer : DS := (dSeq (dSet 5 (dLstM dNil))
    (dSeq (dFor (iRange1 (dCons (dVar 2) dNil)) (.name 6) (dFor (iLst (dVar 3)) (.name 8) (dIfS (dAnd (dTest (dBin rLtI (dUn rLenD (dVar 5)) (dC (.int 9)))) (dTest (dBin rLtI (dCall sp_law_pull (dCons (dVar 0) (dCons (dC (.int 8)) dNil))) (dVar 4)))) (dDrop (dAppend (dVar 5) (dTup (dCons (dVar 6) (dCons (dVar 8) (dCons (dCall sp_law_pull (dCons (dVar 0) (dCons (dVar 2) dNil))) dNil)))))) dNext)))
    t_law_writer_1))
/-- arrows made so far: at places before i, at place i of the first j signs -/
structure ArsAt (n : Int) (cs : List Nat) (i j : Nat) (as : List Ar) : Prop where
  few : as.length ≤ 9
  ar : ∀ a ∈ as, 0 ≤ a.at_ ∧ a.at_ < n ∧ (∃ c ∈ cs, a.sg = ⟨#[c]⟩) ∧ 0 ≤ a.to ∧ a.to < n
  up : as.Pairwise arLt
  low : ∀ a ∈ as, a.at_ < i ∨ (a.at_ = i ∧ ∃ k c, k < j ∧ cs[k]? = some c ∧ a.sg = ⟨#[c]⟩)
theorem sgn_lt {a b : Nat} (h : a < b) : (⟨#[a]⟩ : Str).cps.toList < (⟨#[b]⟩ : Str).cps.toList := List.Lex.rel h
theorem ArsAt.more {n : Int} {cs : List Nat} {i j c : Nat} {as : List Ar} (h : ArsAt n cs i j as) (hup : cs.Pairwise (· < ·)) (hi : (i : Int) < n) (hc : cs[j]? = some c) (h9 : as.length < 9) {t : Int} (t0 : 0 ≤ t) (t1 : t < n) : ArsAt n cs i (j + 1) (as ++ [⟨(i : Int), ⟨#[c]⟩, t⟩]) := by
  refine ⟨by simp; omega, fun a ha => ?_, ?_, fun a ha => ?_⟩
  · rcases List.mem_append.mp ha with ha | ha
    · exact h.ar a ha
    · rw [List.mem_singleton.mp ha]
      exact ⟨by show (0 : Int) ≤ i; omega, hi, ⟨c, List.mem_of_getElem? hc, rfl⟩, t0, t1⟩
  · rw [List.pairwise_append]
    refine ⟨h.up, by simp, fun a ha b hb => ?_⟩
    rw [List.mem_singleton.mp hb]
    rcases h.low a ha with q | ⟨q, k, c', hk, hck, e⟩
    · exact .inl q
    · refine .inr ⟨q, ?_⟩
      rw [e]
      have h1 := (List.getElem?_eq_some_iff.mp hck)
      have h2 := (List.getElem?_eq_some_iff.mp hc)
      have := List.pairwise_iff_getElem.mp hup k j h1.1 h2.1 hk
      rw [h1.2, h2.2] at this
      exact sgn_lt this
  · rcases List.mem_append.mp ha with ha | ha
    · rcases h.low a ha with q | ⟨q, k, c', hk, hck, e⟩
      · exact .inl q
      · exact .inr ⟨q, k, c', by omega, hck, e⟩
    · rw [List.mem_singleton.mp ha]
      exact .inr ⟨rfl, j, c, by omega, hc, rfl⟩
theorem ArsAt.skip {n : Int} {cs : List Nat} {i j : Nat} {as : List Ar} (h : ArsAt n cs i j as) : ArsAt n cs i (j + 1) as :=
  ⟨h.few, h.ar, h.up, fun a ha => (h.low a ha).imp id fun ⟨q, k, c, hk, r⟩ => ⟨q, k, c, by omega, r⟩⟩
theorem ArsAt.next {n : Int} {cs : List Nat} {i j : Nat} {as : List Ar} (h : ArsAt n cs i j as) : ArsAt n cs (i + 1) 0 as :=
  ⟨h.few, h.ar, h.up, fun a ha => .inl (by rcases h.low a ha with q | ⟨q, _⟩ <;> omega)⟩
theorem r_law_writer (ds : List D) (M : Mp) (Q : DK) (E : DX) (hl : ds.length = 5) (h : sp_law_writer ds M Q E) : t_law_writer { nx := fun _ M' => Q .non M', rt := Q } (startD ["_law_bag_here", "_law_name", "_law_places", "_law_signs_here", "_law_thick", "_law_lines", "_law_place", "_law_counts", "_law_sign"] ds) M := by
  obtain ⟨p, b, name, n, cs, thick, rfl, hM, hb, h0, h1, hcs, q⟩ := h
  walk_at "w"
  intro qa hqa
  have hpq : qa ≠ p := fun e => by rw [e, hM] at hqa; cases hqa
  walk_at "w"
  refine ⟨⟨by omega, by omega⟩, ?_⟩
  walk_at "w"
  have hcl := hcs.few
  refine for_inv (fun i env M' => ∃ s6 s8 b', ∃ as : List Ar, env = [some (.ref p), some (.str name), some (.int n), some (.lst (cs.map sgn)), some (.int thick), some (.ref qa), s6, none, s8] ∧ Bag.Ok b' ∧ M' = mupd (mupd M p (.lst b'.l)) qa (.lst (as.map arD)) ∧ ArsAt n cs i 0 as)
    ⟨none, none, b, [], rfl, hb, by rw [mupd_id hM]; rfl, ⟨by simp, by simp, by simp, by simp⟩⟩ (fun i x env M' K hx ⟨s6, s8, b1, as, e1, hb1, e2, e3⟩ hK => ?_) fun env M' ⟨s6, s8, b1, as, e1, hb1, e2, e3⟩ => ?_
  · obtain ⟨hi, rfl⟩ := rng_at hx
    subst e1 e2
    walk_at "w"
    refine for_inv (fun j env M' => ∃ s8 b', ∃ as : List Ar, env = [some (.ref p), some (.str name), some (.int n), some (.lst (cs.map sgn)), some (.int thick), some (.ref qa), some (.int (0 + (i : Int))), none, s8] ∧ Bag.Ok b' ∧ M' = mupd (mupd M p (.lst b'.l)) qa (.lst (as.map arD)) ∧ ArsAt n cs i j as)
      ⟨s8, b1, as, rfl, hb1, rfl, e3⟩ (fun j x env M' K2 hx2 ⟨s8, b2, as2, e1, hb2, e2, e4⟩ hK2 => ?_) fun env M' ⟨s8, b2, as2, e1, hb2, e2, e4⟩ => ?_
    · subst e1 e2
      rw [List.getElem?_map] at hx2
      obtain ⟨c, hc, rfl⟩ := Option.map_eq_some_iff.mp hx2
      have hpm : mupd (mupd M p (.lst b2.l)) qa (.lst (as2.map arD)) p = some (.lst b2.l) := by rw [mupd_ne (Ne.symm hpq), mupd_same]
      walk_at "w"
      rw [resD_new]
      walk_at "w"
      refine brn_by (fun hc1 => ?_) fun hc1 => ?_
      · have h9 : as2.length < 9 := by
          have := of_decide_eq_true hc1
          rw [List.length_map] at this
          omega
        walk_at "w"
        refine ⟨p, b2, 8, rfl, hpm, hb2, by decide, by decide, fun r b3 hb3 r0 r1 => ?_⟩
        rw [mupd_comm hpq, mupd_mupd]
        walk_at "w"
        refine brn_by (fun hc2 => ?_) fun hc2 => ?_
        · walk_at "w"
          refine ⟨?_, ?_⟩
          · walk_at "w"
            rw [mupd_same]
            trivial
          walk_at "w"
          refine ⟨p, b3, n, rfl, by rw [mupd_ne (Ne.symm hpq), mupd_same], hb3, h0, by omega, fun t b4 hb4 t0 t1 => ?_⟩
          rw [mupd_comm hpq, mupd_mupd]
          walk_at "w"
          rw [mupd_same]
          refine ⟨by rw [List.length_map, sizeLine_eq]; omega, ?_⟩
          refine hK2 _ _ ⟨_, b4, as2 ++ [⟨(i : Int), ⟨#[c]⟩, t⟩], rfl, hb4, ?_, e4.more hcs.up (by omega) hc h9 t0 t1⟩
          rw [mupd_mupd, List.map_append, Int.zero_add]; rfl
        · exact hK2 _ _ ⟨_, b3, as2, rfl, hb3, rfl, e4.skip⟩
      · exact hK2 _ _ ⟨_, b2, as2, rfl, hb2, rfl, e4.skip⟩
    · exact hK _ _ ⟨_, s8, b2, as2, e1, hb2, e2, e4.next⟩
  · subst e1 e2
    walk_at "w"
    rw [mupd_same]
    walk_at "w"
    rw [mdel_mupd (by rw [mupd_ne hpq]; exact hqa)]
    have cnt : ∀ y : D, y ∈ [D.int 0, .int 0, .int 0, .int 1, .int 2, .int 3] → ∃ k : Int, y = .int k ∧ 0 ≤ k ∧ k ≤ 3 := fun y hy => by
      simp only [List.mem_cons, List.not_mem_nil, or_false] at hy
      rcases hy with rfl | rfl | rfl | rfl | rfl | rfl <;> exact ⟨_, rfl, by decide, by decide⟩
    refine ⟨p, b1, .lst [.int 0, .int 0, .int 0, .int 1, .int 2, .int 3], [.int 0, .int 0, .int 0, .int 1, .int 2, .int 3], rfl, mupd_same, hb1, by decide, by decide, .inl ⟨rfl, fun e => by cases e⟩, fun y b2 hb2 hy => ?_⟩
    obtain ⟨pat, rfl, p0, p1⟩ := cnt y hy
    rw [mupd_mupd]
    walk_at "w"
    refine ⟨p, b2, .lst [.int 0, .int 0, .int 0, .int 1, .int 2, .int 3], [.int 0, .int 0, .int 0, .int 1, .int 2, .int 3], rfl, mupd_same, hb2, by decide, by decide, .inl ⟨rfl, fun e => by cases e⟩, fun z b3 hb3 hz => ?_⟩
    obtain ⟨cap, rfl, c0, c1⟩ := cnt z hz
    rw [mupd_mupd]
    exact q ⟨name, as, pat, cap⟩ b3 hb3 ⟨rfl, e3.few, e3.ar, e3.up, p0, p1, c0, c1⟩
theorem dc_go {t : Tg} {tt : DT} {tk tv : DE} {env : DEnv} {Q : List L2.Key → List D → Mp → Prop} {xs : List D} (Pv : Nat → List L2.Key → List D → Mp → Prop)
    (hs : ∀ i x ks ds M (K : List L2.Key → List D → Mp → Prop), xs[i]? = some x → Pv i ks ds M → (∀ ks' ds' M', Pv (i + 1) ks' ds' M' → K ks' ds' M') → t.bind x env fun env1 => tt env1 M fun b M1 => brn b (tk env1 M1 fun y M2 => tv env1 M2 fun z M3 => match keyD y with
      | some k => K (addK ks k) (setK ks ds k z) M3
      | none => False) (K ks ds M1))
    (hd : ∀ ks ds M, Pv xs.length ks ds M → Q ks ds M) : ∀ (r : List D) (k : Nat) (ks : List L2.Key) (ds : List D) (M : Mp), xs.drop k = r → k ≤ xs.length → Pv k ks ds M → dDcL0 t tt tk tv env r ks ds M Q
  | [], k, ks, ds, M, e, hk, p => by
    have : k = xs.length := by have := List.drop_eq_nil_iff.mp e; omega
    subst this
    exact hd ks ds M p
  | x :: r, k, ks, ds, M, e, hk, p => by
    have hx : xs[k]? = some x := by rw [← List.head?_drop, e]; rfl
    have hr : xs.drop (k + 1) = r := by rw [← List.drop_drop, e]; rfl
    have hlt : k < xs.length := (List.getElem?_eq_some_iff.mp hx).1
    exact hs k x ks ds M _ hx p fun ks' ds' M' p' => dc_go Pv hs hd r (k + 1) ks' ds' M' hr hlt p'
theorem keyD_dKey (k : L2.Key) : keyD (dKey k) = some k := by cases k <;> rfl
theorem addK_new {ks : List L2.Key} {k : L2.Key} (h : k ∉ ks) : addK ks k = ks ++ [k] := by
  unfold addK
  rw [if_neg]
  intro q
  obtain ⟨j, hj, e⟩ := List.any_eq_true.mp q
  exact h (of_decide_eq_true e ▸ hj)
theorem setK_new {ks : List L2.Key} {ds : List D} {k : L2.Key} {d : D} (h : k ∉ ks) : setK ks ds k d = ds ++ [d] := by
  unfold setK
  rw [if_neg]
  intro q
  obtain ⟨j, hj, e⟩ := List.any_eq_true.mp q
  exact h (of_decide_eq_true e ▸ hj)
theorem dc_filter {t : Tg} {tt : DT} {tk tv : DE} {env : DEnv} {M : Mp} {Q : List L2.Key → List D → Mp → Prop} {xs : List D} (p : D → Bool) (fk : D → L2.Key) (fv : D → D) (hn : ((xs.filter p).map fk).Nodup)
    (h : ∀ x ∈ xs, ∀ (K1 : D → D → Mp → Prop) (K2 : Mp → Prop), (p x = true → K1 (dKey (fk x)) (fv x) M) → (p x = false → K2 M) → t.bind x env fun env1 => tt env1 M fun b M1 => brn b (tk env1 M1 fun y M2 => tv env1 M2 fun z M3 => K1 y z M3) (K2 M1))
    (q : Q ((xs.filter p).map fk) ((xs.filter p).map fv) M) : dDcL t tt tk tv env xs [] [] M Q := by
  rw [dDcL_eq]
  refine dc_go (xs := xs) (fun i ks ds M' => M' = M ∧ ks = ((xs.take i).filter p).map fk ∧ ds = ((xs.take i).filter p).map fv) (fun i x ks ds M' K hx ⟨e1, e2, e3⟩ hK => ?_) (fun ks ds M' ⟨e1, e2, e3⟩ => ?_) xs 0 [] [] M rfl (Nat.zero_le _) ⟨rfl, by simp, by simp⟩
  · subst e1
    have ht : xs.take (i + 1) = xs.take i ++ [x] := by rw [List.take_add_one, hx]; rfl
    refine h x (List.mem_of_getElem? hx) (fun y z M3 => match keyD y with
      | some k => K (addK ks k) (setK ks ds k z) M3
      | none => False) _ (fun hp => ?_) fun hp => ?_
    · rw [keyD_dKey]
      have hnew : fk x ∉ ks := by
        have h1 : (((xs.take (i + 1)).filter p).map fk).Nodup := List.Nodup.sublist (((List.take_sublist _ _).filter p).map fk) hn
        rw [ht, List.filter_append, List.map_append, ← e2, List.nodup_append] at h1
        intro hm
        exact h1.2.2 _ hm (fk x) (by simp [hp]) rfl
      refine hK _ _ _ ⟨rfl, ?_, ?_⟩
      · rw [addK_new hnew, ht, List.filter_append, List.map_append, e2]; simp [hp]
      · rw [setK_new hnew, ht, List.filter_append, List.map_append, e3]; simp [hp]
    · refine hK _ _ _ ⟨rfl, ?_, ?_⟩
      · rw [ht, List.filter_append, List.map_append, e2]; simp [hp]
      · rw [ht, List.filter_append, List.map_append, e3]; simp [hp]
  · subst e1
    rw [e2, e3, List.take_length]; exact q
def arsAt (w : Wr) (p : Int) : List Ar := w.ar.filter fun a => decide (a.at_ = p)
theorem arLt_sg {w : Wr} (h : w.ar.Pairwise arLt) (p : Int) : (arsAt w p).Pairwise fun a b => a.sg.cps.toList < b.sg.cps.toList := by
  unfold arsAt
  refine (List.Pairwise.imp_of_mem ?_ (h.filter _))
  intro a b ha hb hab
  have h1 := of_decide_eq_true (List.mem_filter.mp ha).2
  have h2 := of_decide_eq_true (List.mem_filter.mp hb).2
  rcases hab with q | ⟨_, q⟩
  · omega
  · exact q
theorem sg_nodup {w : Wr} (h : w.ar.Pairwise arLt) (p : Int) : ((arsAt w p).map fun a => (Sum.inr a.sg : L2.Key)).Nodup := by
  rw [List.nodup_iff_pairwise_ne, List.pairwise_map]
  refine (arLt_sg h p).imp fun {a b} q e => ?_
  rw [Sum.inr.inj e] at q
  exact List.lt_irrefl _ q
def sp_law : SpD := fun ds M Q _ => ∃ ns : List Int, ds = [.lsk (ns.map D.int)] ∧ ∀ M', Q (.bl true) M'
theorem law_ok (ns : List Int) : sp_law [.lsk (ns.map D.int)] (fun _ => none) (fun d _ => d = .bl true) X0 := ⟨ns, rfl, fun _ => rfl⟩
theorem eqD_nil {ds : List D} : eqD (.lst ds) (.lst []) = ds.isEmpty := by cases ds <;> rfl
mutual
theorem same_self : ∀ {n : Nat} {d : D}, D.le n d = true → sameD d d = true
  | _, .non, _ => rfl
  | _, .bl b, _ => by simp [sameD]
  | _, .int i, _ => by simp [sameD]
  | _, .str x, _ => by simp [sameD]
  | n + 1, .tup ds, h => by simpa [sameD] using sames_self (show D.les n ds = true by simpa [D.le] using h)
  | n + 1, .lst ds, h => by simpa [sameD] using sames_self (show D.les n ds = true by simpa [D.le] using h)
  | 0, .tup ds, h => by simp [D.le] at h
  | 0, .lst ds, h => by simp [D.le] at h
  | _, .ref _, h => by simp [D.le] at h
  | _, .ty _, h => by simp [D.le] at h
  | _, .lsk _, h => by simp [D.le] at h
  | _, .dct _ _, h => by simp [D.le] at h
  | _, .obj _ _, h => by simp [D.le] at h
  | _, .dkd _ _ _, h => by simp [D.le] at h
  | _, .exc _ _ _ _, h => by simp [D.le] at h
  | _, .fn _ _ _, h => by simp [D.le] at h
theorem sames_self : ∀ {n : Nat} {ds : List D}, D.les n ds = true → sameDs ds ds = true
  | _, [], _ => rfl
  | n, d :: ds, h => by
    have h' : D.le n d = true ∧ D.les n ds = true := by simpa [D.les] using h
    simp only [sameDs, same_self h'.1, sames_self h'.2, Bool.and_true]
end
end L3
set_option Elab.async false
set_option linter.all false
set_option maxRecDepth 100000
set_option maxHeartbeats 1000000
namespace L3
open PySem PySem.Spec PyProof.Rows L2
local macro_rules | `(tactic| walk_at "w") => `(tactic| conv => whnf)
theorem isName_all {x : Str} : (signs x).map (fun z => D.bl (match z with | .str y => strIn y letters | _ => false)) = (x.cps.toList.map isLetter).map D.bl := by
  unfold signs
  rw [List.map_map, List.map_map]
  refine List.map_congr_left fun c _ => ?_
  show D.bl (strIn ⟨#[c]⟩ letters) = D.bl (isLetter c)
  rw [strIn_letters]
def sp_is_name : SpD := fun ds M Q _ => ∃ x, ds = [.str x] ∧ Q (.bl (isName x)) M
def t_is_name : DS := (dRet (dAndV (dChain rLtI rLeI (dC (.int 0)) (dUn rLenD (dVar 0)) (dC (.int 6))) (dUn rAllD (dLc (iTxt (dVar 0)) (.name 1) dYes (dBin (rInDD id) (dVar 1) (dC (.str "abcdefghijklmnopqrstuvwxyz"))) [1]))))
/-- all(sign in LETTERS for ..), behind its list -/
theorem r_all_letters {x : Str} {M : Mp} {Q : DK} {te : DE} {env : DEnv} (h : ∀ c (K : DK), K (.bl (strIn ⟨#[c]⟩ letters)) M → te (env.set 1 (some (sgn c))) M K) (q : Q (.bl (x.cps.toList.all isLetter)) M) :
    dLcL (.name 1) dYes te env (signs x) [] M (fun ds M2 => rAllD (.lst ds) M2 Q) := by
  refine lc_map (fun z => D.bl (match z with | .str y => strIn y letters | _ => false)) (fun z hz K1 K2 hK => ?_) ?_
  · obtain ⟨c, hc, rfl⟩ := List.mem_map.mp hz
    exact h c K1 hK
  · rw [isName_all]
    walk_at "w"
    rw [asBls_map]
    show Q (.bl ((x.cps.toList.map isLetter).all id)) M
    rw [List.all_map]
    exact q
theorem r_is_name (ds : List D) (M : Mp) (Q : DK) (E : DX) (hl : ds.length = 1) (h : sp_is_name ds M Q E) : t_is_name { nx := fun _ M' => Q .non M', rt := Q } (startD ["text", "sign"] ds) M := by
  obtain ⟨x, rfl, q⟩ := h
  unfold isName at q
  walk_at "w"
  have e0 : decide ((0 : Int) < (x.length : Int)) = decide (0 < x.length) := by simp
  have e1 : decide ((x.length : Int) ≤ 6) = decide (x.length ≤ 6) := by rw [decide_eq_decide]; omega
  refine brn_by (fun hc => ?_) fun hc => ?_
  · rw [← e0, show decide ((0 : Int) < (x.length : Int)) = true from hc, Bool.true_and] at q
    walk_at "w"
    refine brn_by (fun hd => ?_) fun hd => ?_
    · rw [← e1, show decide ((x.length : Int) ≤ 6) = true from hd, Bool.true_and] at q
      walk_at "w"
      refine r_all_letters (fun c K hK => ?_) q
      exact hK
    · rw [← e1, show decide ((x.length : Int) ≤ 6) = false from hd, Bool.false_and] at q
      walk_at "w"
      show Q (.bl (decide ((x.length : Int) ≤ 6))) M
      rw [show decide ((x.length : Int) ≤ 6) = false from hd]
      exact q
  · rw [← e0, show decide ((0 : Int) < (x.length : Int)) = false from hc, Bool.false_and] at q
    walk_at "w"
    exact q
def isSign (x : Str) : Bool := isName x && decide (x.length = 1)
theorem isSign_one {c : Nat} : isSign ⟨#[c]⟩ = isLetter c := by
  unfold isSign isName
  have h1 : (⟨#[c]⟩ : Str).length = 1 := rfl
  rw [h1]
  simp
theorem one_of {x : Str} (h : x.length = 1) : ∃ c, x = ⟨#[c]⟩ := by
  obtain ⟨⟨l⟩⟩ := x
  have h' : l.length = 1 := h
  match l, h' with
  | [c], _ => exact ⟨c, rfl⟩
def sp_is_sign : SpD := fun ds M Q _ => ∃ x, ds = [.str x] ∧ Q (.bl (isSign x)) M
def t_is_sign : DS := (dRet (dAndV (dBin (rEqDD id) (dUn rLenD (dVar 0)) (dC (.int 1))) (dBin (rInDD id) (dVar 0) (dC (.str "abcdefghijklmnopqrstuvwxyz")))))
theorem r_is_sign (ds : List D) (M : Mp) (Q : DK) (E : DX) (hl : ds.length = 1) (h : sp_is_sign ds M Q E) : t_is_sign { nx := fun _ M' => Q .non M', rt := Q } (startD ["text"] ds) M := by
  obtain ⟨x, rfl, q⟩ := h
  walk_at "w"
  refine ⟨⟨rfl, rfl⟩, ?_⟩
  walk_at "w"
  refine brn_by (fun hc => ?_) fun hc => ?_
  · have h1 : x.length = 1 := by
      have h1 : ((x.length : Int) == 1) = true := hc
      have := eq_of_beq h1
      omega
    obtain ⟨c, rfl⟩ := one_of h1
    walk_at "w"
    show Q (.bl (strIn ⟨#[c]⟩ letters)) M
    rw [strIn_letters, ← isSign_one]
    exact q
  · have h1 : ((x.length : Int) == 1) = false := hc
    show Q (.bl ((x.length : Int) == 1)) M
    have h2 : isSign x = false := by
      unfold isSign
      rw [decide_eq_false (fun e => by rw [e] at h1; exact absurd h1 (by decide)), Bool.and_false]
    rw [h2] at q
    rw [h1]
    exact q
mutual
theorem nk_eqv : ∀ {n : Nat} {d e : D}, D.nk n d = true → D.nk n e = true → PyData.eqv d.py e.py = true → d = e
  | n, .non, e, _, he, h => by cases e <;> first | rfl | (cases n <;> simp [D.nk] at he; done) | (simp [D.py, PyData.eqv] at h; done)
  | n, .int i, e, _, he, h => by
    cases e <;> first | (cases n <;> simp [D.nk] at he; done) | (simp [D.py, PyData.eqv] at h; done) | (simp [D.py, PyData.eqv] at h; rw [h])
  | n, .str i, e, _, he, h => by
    cases e <;> first | (cases n <;> simp [D.nk] at he; done) | (simp [D.py, PyData.eqv] at h; done) | (simp [D.py, PyData.eqv] at h; rw [h])
  | n + 1, .tup ds, e, hd, he, h => by
    cases e with
    | tup es =>
      simp only [D.py, PyData.eqv] at h
      rw [nks_eqv (show D.nks n ds = true by simpa [D.nk] using hd) (show D.nks n es = true by simpa [D.nk] using he) h]
    | _ => first | (simp [D.nk] at he; done) | (simp [D.py, PyData.eqv] at h; done)
  | 0, .tup _, _, hd, _, _ => by simp [D.nk] at hd
  | n, .bl _, _, hd, _, _ => by cases n <;> simp [D.nk] at hd
  | n, .ty _, _, hd, _, _ => by cases n <;> simp [D.nk] at hd
  | n, .ref _, _, hd, _, _ => by cases n <;> simp [D.nk] at hd
  | n, .lst _, _, hd, _, _ => by cases n <;> simp [D.nk] at hd
  | n, .lsk _, _, hd, _, _ => by cases n <;> simp [D.nk] at hd
  | n, .dct _ _, _, hd, _, _ => by cases n <;> simp [D.nk] at hd
  | n, .obj _ _, _, hd, _, _ => by cases n <;> simp [D.nk] at hd
  | n, .dkd _ _ _, _, hd, _, _ => by cases n <;> simp [D.nk] at hd
  | n, .exc _ _ _ _, _, hd, _, _ => by cases n <;> simp [D.nk] at hd
  | n, .fn _ _ _, _, hd, _, _ => by cases n <;> simp [D.nk] at hd
theorem nks_eqv : ∀ {n : Nat} {ds es : List D}, D.nks n ds = true → D.nks n es = true → PyData.eqvAll (D.pys ds) (D.pys es) = true → ds = es
  | _, [], [], _, _, _ => rfl
  | _, [], _ :: _, _, _, h => by simp [D.pys, PyData.eqvAll] at h
  | _, _ :: _, [], _, _, h => by simp [D.pys, PyData.eqvAll] at h
  | n, d :: ds, e :: es, hd, he, h => by
    simp only [D.nks, Bool.and_eq_true] at hd he
    simp only [D.pys, PyData.eqvAll, Bool.and_eq_true] at h
    rw [nk_eqv hd.1 he.1 h.1, nks_eqv hd.2 he.2 h.2]
end
mutual
theorem nk_self : ∀ {n : Nat} {d : D}, D.nk n d = true → PyData.eqv d.py d.py = true
  | _, .non, _ => by simp [D.py, PyData.eqv]
  | _, .int i, _ => by simp [D.py, PyData.eqv]
  | _, .str x, _ => by simp [D.py, PyData.eqv]
  | n + 1, .tup ds, h => by
    simp only [D.py, PyData.eqv]
    exact nks_self (show D.nks n ds = true by simpa [D.nk] using h)
  | 0, .tup _, hd => by simp [D.nk] at hd
  | n, .bl _, hd => by cases n <;> simp [D.nk] at hd
  | n, .ty _, hd => by cases n <;> simp [D.nk] at hd
  | n, .ref _, hd => by cases n <;> simp [D.nk] at hd
  | n, .lst _, hd => by cases n <;> simp [D.nk] at hd
  | n, .lsk _, hd => by cases n <;> simp [D.nk] at hd
  | n, .dct _ _, hd => by cases n <;> simp [D.nk] at hd
  | n, .obj _ _, hd => by cases n <;> simp [D.nk] at hd
  | n, .dkd _ _ _, hd => by cases n <;> simp [D.nk] at hd
  | n, .exc _ _ _ _, hd => by cases n <;> simp [D.nk] at hd
  | n, .fn _ _ _, hd => by cases n <;> simp [D.nk] at hd
theorem nks_self : ∀ {n : Nat} {ds : List D}, D.nks n ds = true → PyData.eqvAll (D.pys ds) (D.pys ds) = true
  | _, [], _ => rfl
  | n, d :: ds, h => by
    simp only [D.nks, Bool.and_eq_true] at h
    simp only [D.pys, PyData.eqvAll, Bool.and_eq_true]
    exact ⟨nk_self h.1, nks_self h.2⟩
end
theorem nks_of {n : Nat} : ∀ {ds : List D}, (∀ d ∈ ds, D.nk n d = true) → D.nks n ds = true
  | [], _ => rfl
  | d :: ds, h => by
    simp only [D.nks, Bool.and_eq_true]
    exact ⟨h d List.mem_cons_self, nks_of fun g hg => h g (List.mem_cons_of_mem _ hg)⟩
def kyD (a : Ar) : D := .tup [.int a.at_, .str a.sg]
instance : DecidableRel arLt := fun a b => by unfold arLt; infer_instance
theorem arLt_irr (a : Ar) : ¬ arLt a a := fun h => h.elim (fun q => by omega) fun q => List.lt_irrefl _ q.2
theorem arLt_trans {a b c : Ar} (h : arLt a b) (g : arLt b c) : arLt a c := by
  rcases h with h | ⟨h, h2⟩ <;> rcases g with g | ⟨g, g2⟩
  · exact .inl (by omega)
  · exact .inl (by omega)
  · exact .inl (by omega)
  · exact .inr ⟨by omega, List.lt_trans h2 g2⟩
theorem arLt_tri {a b : Ar} (h : kyD a ≠ kyD b) (g : ¬ arLt b a) : arLt a b := by
  by_cases e : a.at_ = b.at_
  · refine .inr ⟨e, ?_⟩
    have h1 : ¬ b.sg.cps.toList < a.sg.cps.toList := fun q => g (.inr ⟨e.symm, q⟩)
    rcases List.le_iff_lt_or_eq.mp (List.not_lt.mp h1) with q | q
    · exact q
    · refine absurd ?_ h
      unfold kyD
      rw [e, PySem.W.str_of_cps q]
  · by_cases l : a.at_ < b.at_
    · exact .inl l
    · exact absurd (.inl (by omega)) g
theorem leD_ky {a b : Ar} : leD (kyD a) (kyD b) = true ↔ ¬ arLt b a := by
  show (!PySem.W.dataLt (.tuple [.int b.at_, .str b.sg]) (.tuple [.int a.at_, .str a.sg])) = true ↔ _
  rw [PySem.W.dataLt_pair (by simp [PySem.W.alike]) (by simp [PySem.W.alike]), PySem.W.dataLt_int, PySem.W.dataLt_str]
  unfold arLt
  simp only [PyData.eqv]
  by_cases h1 : b.at_ = a.at_
  · by_cases h2 : b.sg = a.sg
    · simp [h1, h2, List.lt_irrefl]
    · simp [h1, h2]
  · simp [h1]
theorem ky_inj {a b : Ar} (h : kyD a = kyD b) : a.at_ = b.at_ ∧ a.sg = b.sg := by
  unfold kyD at h
  simpa using h
theorem perm_eq {α : Type} {R : α → α → Prop} (anti : ∀ a b, R a b → R b a → a = b) : ∀ {xs ys : List α}, xs.Perm ys → xs.Pairwise R → ys.Pairwise R → xs = ys
  | [], ys, p, _, _ => (List.Perm.nil_eq p)
  | x :: xs, [], p, _, _ => absurd p.length_eq (by simp)
  | x :: xs, y :: ys, p, hx, hy => by
    rw [List.pairwise_cons] at hx hy
    have e : x = y := by
      rcases List.mem_cons.mp (p.mem_iff.mp List.mem_cons_self) with e | e
      · exact e
      · rcases List.mem_cons.mp (p.mem_iff.mpr (List.mem_cons_self (a := y) (l := ys))) with e2 | e2
        · exact e2.symm
        · exact anti _ _ (hx.1 y e2) (hy.1 x e)
    subst e
    rw [perm_eq anti (List.Perm.cons_inv p) hx.2 hy.2]
theorem ky_nks (as : List Ar) : D.nks 8 (as.map kyD) = true := nks_of fun d hd => by
  obtain ⟨a, _, rfl⟩ := List.mem_map.mp hd; rfl
/-- keys == sorted(set(keys)) just where they rise -/
theorem keys_rise {as : List Ar} {ys : List D} (hn : ys.Nodup) (hm : ∀ g, g ∈ ys ↔ g ∈ as.map kyD) (hs : ys.Pairwise fun d e => leD d e = true) : eqD (.lst (as.map kyD)) (.lst ys) = decide (as.Pairwise arLt) := by
  have ynk : D.nks 8 ys = true := nks_of fun d hd => by
    obtain ⟨a, _, rfl⟩ := List.mem_map.mp ((hm d).mp hd); rfl
  have ev : eqD (.lst (as.map kyD)) (.lst ys) = PyData.eqvAll (D.pys (as.map kyD)) (D.pys ys) := by unfold eqD; simp only [D.py, PyData.eqv]
  rw [ev, Bool.eq_iff_iff, decide_eq_true_eq]
  constructor
  · intro h
    have e := nks_eqv (ky_nks as) ynk h
    rw [← e] at hn hs
    rw [List.nodup_iff_pairwise_ne, List.pairwise_map] at hn
    rw [List.pairwise_map] at hs
    exact (hn.and hs).imp fun {a b} ⟨h1, h2⟩ => arLt_tri h1 (leD_ky.mp h2)
  · intro h
    have nd : (as.map kyD).Nodup := by
      rw [List.nodup_iff_pairwise_ne, List.pairwise_map]
      refine h.imp fun {a b} q e => ?_
      obtain ⟨e1, e2⟩ := ky_inj e
      rcases q with q | ⟨_, q⟩
      · omega
      · rw [e2] at q; exact List.lt_irrefl _ q
    have pw : (as.map kyD).Pairwise fun d e => leD d e = true := by
      rw [List.pairwise_map]
      exact h.imp fun {a b} q => leD_ky.mpr fun g => arLt_irr _ (arLt_trans q g)
    have pm : (as.map kyD).Perm ys := (List.perm_ext_iff_of_nodup nd hn).mpr fun g => (hm g).symm
    have eq : as.map kyD = ys := by
      -- on keys the order has one answer
      have key : ∀ {xs zs : List D}, xs.Perm zs → (∀ d ∈ xs, ∃ a, d = kyD a) → xs.Pairwise (fun d e => leD d e = true) → zs.Pairwise (fun d e => leD d e = true) → xs = zs := fun p hk h1 h2 =>
        perm_eq (R := fun d e => leD d e = true ∧ (∃ a, d = kyD a) ∧ ∃ a, e = kyD a) (fun d e ⟨q1, ⟨a, ha⟩, b, hb⟩ ⟨q2, _⟩ => by
          subst ha hb
          apply Classical.byContradiction
          intro ne
          have g1 := leD_ky.mp q1
          have g2 := leD_ky.mp q2
          exact g2 (arLt_tri ne g1)) p (h1.imp_of_mem fun ha hb q => ⟨q, hk _ ha, hk _ hb⟩) (h2.imp_of_mem fun ha hb q => ⟨q, hk _ (p.mem_iff.mpr ha), hk _ (p.mem_iff.mpr hb)⟩)
      exact key pm (fun d hd => by obtain ⟨a, _, rfl⟩ := List.mem_map.mp hd; exact ⟨a, rfl⟩) pw hs
    rw [← eq]
    exact nks_self (ky_nks as)
def Ev (t : DE) (env : DEnv) (M : Mp) (d : D) : Prop := ∀ K : DK, K d M → t env M K
theorem Ev.chain {ta tb tc : DE} {env : DEnv} {M : Mp} {i j k : Int} (ha : Ev ta env M (.int i)) (hb : Ev tb env M (.int j)) (hc : Ev tc env M (.int k)) : Ev (dChain rLeI rLeI ta tb tc) env M (.bl (decide (i ≤ j) && decide (j ≤ k))) := fun K q => by
  refine ha _ (hb _ ?_)
  walk_at "w"
  refine brn_by (fun h => ?_) fun h => ?_
  · have h' : decide (i ≤ j) = true := h
    rw [h', Bool.true_and] at q
    exact hc _ q
  · have h' : decide (i ≤ j) = false := h
    rw [h', Bool.false_and] at q
    exact q
theorem Ev.and {ta tb : DE} {env : DEnv} {M : Mp} {b c : Bool} (ha : Ev ta env M (.bl b)) (hb : b = true → Ev tb env M (.bl c)) : Ev (dAndV ta tb) env M (.bl (b && c)) := fun K q => by
  refine ha _ ?_
  walk_at "w"
  refine brn_by (fun h => ?_) fun h => ?_
  · have h' : b = true := h
    rw [h', Bool.true_and] at q
    exact hb h' _ q
  · have h' : b = false := h
    rw [h', Bool.false_and] at q
    show K (.bl b) M
    rw [h']; exact q
theorem Ev.c {d : D} {env : DEnv} {M : Mp} : Ev (dC d) env M d := fun K q => q
def arB (a : Ar) : Bool := (decide (0 ≤ a.at_) && decide (a.at_ ≤ 2)) && (isSign a.sg && (decide (0 ≤ a.to) && decide (a.to ≤ 2)))
def sp_is_arrow : SpD := fun ds M Q _ => ∃ a, ds = [arD a] ∧ Q (.bl (arB a)) M
def t_is_arrow : DS := (dSeq (dAsg (dVar 0) (.tup [(.name 1), (.name 2), (.name 3)]))
    (dRet (dAndV (dChain rLeI rLeI (dC (.int 0)) (dVar 1) (dC (.int 2))) (dAndV (dCall sp_is_sign (dCons (dVar 2) dNil)) (dChain rLeI rLeI (dC (.int 0)) (dVar 3) (dC (.int 2)))))))
theorem r_is_arrow (ds : List D) (M : Mp) (Q : DK) (E : DX) (hl : ds.length = 1) (h : sp_is_arrow ds M Q E) : t_is_arrow { nx := fun _ M' => Q .non M', rt := Q } (startD ["arrow", "place", "sign", "to"] ds) M := by
  obtain ⟨a, rfl, q⟩ := h
  show dAndV (dChain rLeI rLeI (dC (.int 0)) (dVar 1) (dC (.int 2))) (dAndV (dCall sp_is_sign (dCons (dVar 2) dNil)) (dChain rLeI rLeI (dC (.int 0)) (dVar 3) (dC (.int 2)))) [some (arD a), some (.int a.at_), some (.str a.sg), some (.int a.to)] M Q
  refine Ev.and (b := decide (0 ≤ a.at_) && decide (a.at_ ≤ 2)) (Ev.chain .c (fun K q => q) .c) (fun _ => Ev.and (b := isSign a.sg) (c := decide (0 ≤ a.to) && decide (a.to ≤ 2)) (fun K q => ?_) fun _ => by exact Ev.chain .c (fun K q => q) .c) _ q
  exact ⟨a.sg, rfl, q⟩
/-- a writer's parts, of whatever kind -/
def isWr (nm : Str) (as : List Ar) (p c : Int) : Bool := isName nm && (decide (as.length ≤ 9) && (as.all arB && (decide (as.Pairwise arLt) && ((decide (0 ≤ p) && decide (p ≤ 3)) && (decide (0 ≤ c) && decide (c ≤ 3))))))
def thD (nm : Str) (as : List Ar) (is : List Int) : List D := .str nm :: .tup (as.map arD) :: is.map D.int
def sp_is_writer : SpD := fun ds M Q _ => ∃ ts : List D, ds = [.tup ts] ∧ ((ts.length ≠ 4 ∧ Q (.bl false) M) ∨ ∃ nm as p c, ts = thD nm as [p, c] ∧ as.length ≤ 1000 ∧ Q (.bl (isWr nm as p c)) M)
def t_is_writer_1 : DS := (dSeq (dSet 1 (dLc (iTpl (dVar 3)) (.name 6) dYes (dSl (dVar 6) dNoPart (dPart (dC (.int 2)))) [6]))
    (dRet (dAndV (dBin (rEqDD id) (dVar 1) (dUn rSortSet (dVar 1))) (dAndV (dChain rLeI rLeI (dC (.int 0)) (dVar 4) (dC (.int 3))) (dChain rLeI rLeI (dC (.int 0)) (dVar 5) (dC (.int 3)))))))
def t_is_writer_2 : DS := (dSeq (dAsg (dVar 0) (.tup [(.name 2), (.name 3), (.name 4), (.name 5)]))
    (dSeq (dIfS (dOr (dNot (dTru (dCall sp_is_name (dCons (dVar 2) dNil)))) (dOr (dTest (dBin rGtI (dUn rLenD (dVar 3)) (dC (.int 9)))) (dNot (dTru (dUn rAllD (dLc (iTpl (dVar 3)) (.name 6) dYes (dCall sp_is_arrow (dCons (dVar 6) dNil)) [6])))))) (dRet (dC (.bl false))) dNext)
    t_is_writer_1))
def t_is_writer : DS := (dSeq (dIfS (dTest (dBin (rEqDD not) (dUn rLenD (dVar 0)) (dC (.int 4)))) (dRet (dC (.bl false))) dNext)
    t_is_writer_2)
theorem r_is_writer_1 (nm : Str) (as : List Ar) (p c : Int) (M : Mp) (Q : DK) (nx : DEnv → Mp → Prop) (e0 e1 e6 : Option D) (h9 : as.length ≤ 9)
    (q : Q (.bl (decide (as.Pairwise arLt) && ((decide (0 ≤ p) && decide (p ≤ 3)) && (decide (0 ≤ c) && decide (c ≤ 3))))) M) :
    t_is_writer_1 { nx := nx, rt := Q } [e0, e1, some (.str nm), some (.tup (as.map arD)), some (.int p), some (.int c), e6] M := by
  walk_at "w"
  refine lc_map (fun d => match d with
    | .tup (x :: y :: _) => .tup [x, y]
    | _ => .non) (fun x hx K1 K2 h1 => ?_) ?_
  · obtain ⟨a, _, rfl⟩ := List.mem_map.mp hx
    exact h1
  · have e : (as.map arD).map (fun d => match d with
        | .tup (x :: y :: _) => D.tup [x, y]
        | _ => .non) = as.map kyD := by rw [List.map_map]; rfl
    rw [e]
    show dAndV (dBin (rEqDD id) (dVar 1) (dUn rSortSet (dVar 1))) (dAndV (dChain rLeI rLeI (dC (.int 0)) (dVar 4) (dC (.int 3))) (dChain rLeI rLeI (dC (.int 0)) (dVar 5) (dC (.int 3)))) [e0, some (.lst (as.map kyD)), some (.str nm), some (.tup (as.map arD)), some (.int p), some (.int c), e6] M Q
    refine Ev.and (b := decide (as.Pairwise arLt)) (fun K qk => ?_) (fun _ => by exact Ev.and (Ev.chain .c (fun K q => q) .c) fun _ => by exact Ev.chain .c (fun K q => q) .c) _ q
    walk_at "w"
    refine ⟨⟨fun g hg => ?_, by rw [List.length_map]; omega, ?_⟩, fun ys h1 h2 h3 => ?_⟩
    · obtain ⟨a, _, rfl⟩ := List.mem_map.mp hg; rfl
    · refine ⟨?_, ?_⟩
      · rw [List.map_map]; exact PySem.W.AllAlike.of fun b b' => by simp [kyD, D.py, D.pys, PySem.W.alike, PySem.W.alikeAll]
      · rw [List.map_map]; exact PySem.W.Sortable.tuples fun b => ⟨_, _, rfl⟩
    · walk_at "w"
      refine ⟨⟨?_, ?_⟩, ?_⟩
      · show D.les 59 (as.map kyD) = true
        exact les_of fun d hd => by obtain ⟨a, _, rfl⟩ := List.mem_map.mp hd; rfl
      · show D.les 59 ys = true
        exact les_of fun d hd => by obtain ⟨a, _, rfl⟩ := List.mem_map.mp ((h2 d).mp hd); rfl
      · show K (.bl (eqD (.lst (as.map kyD)) (.lst ys))) M
        rw [keys_rise h1 h2 h3]
        exact qk
theorem all_arB (as : List Ar) : ((as.map arD).map fun d => match d with
    | .tup [.int a, .str s, .int t] => D.bl (arB ⟨a, s, t⟩)
    | _ => .non) = (as.map arB).map D.bl := by
  rw [List.map_map, List.map_map]
  rfl
theorem r_is_writer_2 (nm : Str) (as : List Ar) (p c : Int) (M : Mp) (Q : DK) (nx : DEnv → Mp → Prop) (e1 e2 e3 e4 e5 e6 : Option D) (h1000 : as.length ≤ 1000) (q : Q (.bl (isWr nm as p c)) M) :
    t_is_writer_2 { nx := nx, rt := Q } [some (.tup (thD nm as [p, c])), e1, e2, e3, e4, e5, e6] M := by
  unfold isWr at q
  walk_at "w"
  refine ⟨nm, rfl, ?_⟩
  walk_at "w"
  refine brn_by (fun h => ?_) fun h => ?_
  · have h' : isName nm = false := by
      have : (!isName nm) = true := h
      simpa using this
    rw [h', Bool.false_and] at q
    exact q
  · have h' : isName nm = true := by
      have : (!isName nm) = false := h
      simpa using this
    rw [h', Bool.true_and] at q
    walk_at "w"
    refine brn_by (fun g => ?_) fun g => ?_
    · have g' : decide (as.length ≤ 9) = false := by
        have := of_decide_eq_true g
        rw [List.length_map] at this
        exact decide_eq_false (by omega)
      rw [g', Bool.false_and] at q
      exact q
    · have g9 : as.length ≤ 9 := by
        have := of_decide_eq_false g
        rw [List.length_map] at this
        omega
      rw [decide_eq_true g9, Bool.true_and] at q
      walk_at "w"
      refine lc_map (fun d => match d with
        | .tup [.int a, .str s, .int t] => D.bl (arB ⟨a, s, t⟩)
        | _ => .non) (fun x hx K1 K2 h1 => ?_) ?_
      · obtain ⟨a, _, rfl⟩ := List.mem_map.mp hx
        exact ⟨a, rfl, h1⟩
      · rw [all_arB]
        walk_at "w"
        rw [asBls_map]
        walk_at "w"
        have ea : (as.map arB).all id = as.all arB := by rw [List.all_map]; rfl
        refine brn_by (fun k => ?_) fun k => ?_
        · have k' : as.all arB = false := by
            have : (!((as.map arB).all id)) = true := k
            rw [ea] at this
            simpa using this
          rw [k', Bool.false_and] at q
          exact q
        · have k' : as.all arB = true := by
            have : (!((as.map arB).all id)) = false := k
            rw [ea] at this
            simpa using this
          rw [k', Bool.true_and] at q
          exact r_is_writer_1 nm as p c M Q _ _ _ _ g9 q
theorem r_is_writer (ds : List D) (M : Mp) (Q : DK) (E : DX) (hl : ds.length = 1) (h : sp_is_writer ds M Q E) : t_is_writer { nx := fun _ M' => Q .non M', rt := Q } (startD ["thing", "keys", "name", "arrows", "patience", "cap", "arrow"] ds) M := by
  obtain ⟨ts, rfl, h⟩ := h
  walk_at "w"
  refine ⟨⟨rfl, rfl⟩, ?_⟩
  walk_at "w"
  refine brn_by (fun g => ?_) fun g => ?_
  · rcases h with ⟨_, q⟩ | ⟨nm, as, p, c, rfl, _, _⟩
    · exact q
    · cases g
  · rcases h with ⟨hn, q⟩ | ⟨nm, as, p, c, rfl, h9, q⟩
    · have g' : (!((ts.length : Int) == 4)) = false := g
      have : (ts.length : Int) = 4 := by simpa using g'
      omega
    · exact r_is_writer_2 nm as p c M Q _ _ _ _ _ _ _ h9 q
end L3
set_option Elab.async false
set_option linter.all false
set_option maxRecDepth 100000
set_option maxHeartbeats 1000000
namespace L3
open PySem PySem.Spec PyProof.Rows L2
local macro_rules | `(tactic| walk_at "w") => `(tactic| conv => whnf)
theorem isWr_ok {w : Wr} (h : WrOk w) : isWr w.name w.ar w.pat w.cap = true := by
  have h1 : w.ar.all arB = true := by
    rw [List.all_eq_true]
    intro a ha
    have := h.ar a ha
    obtain ⟨c, hc, hl⟩ := this.sg
    unfold arB
    have hs : isSign a.sg = true := by rw [hc, isSign_one]; exact hl
    simp [this.at0, this.at1, hs, this.to0, this.to1]
  unfold isWr
  simp only [h.name, h.few, h1, h.up, h.pat0, h.pat1, h.cap0, h.cap1, decide_true, Bool.and_self]
structure CrewOk (ws : List Wr) : Prop where
  ok : ∀ w ∈ ws, WrOk w
  nd : (ws.map (·.name)).Nodup
  few : ws.length ≤ 3
def sp_law_company : SpD := fun ds M Q _ => ∃ p b n cs, ds = [.ref p, .int n, .lst (cs.map sgn)] ∧ M p = some (.lst (Bag.l b)) ∧ b.Ok ∧ 0 < n ∧ n ≤ 3 ∧ SgOk cs ∧
  ∀ ws b', Bag.Ok b' → CrewOk ws → 0 < ws.length → (ws.length : Int) ≤ n → Q (.lst (ws.map wrD)) (mupd M p (.lst b'.l))
def t_law_company_1 : DS := (dFrzN 5 (dRet (dVar 5)))
def t_law_company : DS := (dSeq (dPar 4 5 (dCons (dCall sp_law_of (dCons (dVar 0) (dCons (dLst (dCons (dC (.int 3)) (dCons (dC (.int 5)) (dCons (dC (.int 7)) (dCons (dC (.int 8)) dNil))))) dNil))) (dCons (dLstM dNil) dNil)))
    (dSeq (dFor (iLst (dCall sp_law_names (dCons (dVar 0) (dCons (dBin rAddD (dC (.int 1)) (dCall sp_law_pull (dCons (dVar 0) (dCons (dVar 1) dNil)))) dNil)))) (.name 3) (dDrop (dAppend (dVar 5) (dCall sp_law_writer (dCons (dVar 0) (dCons (dVar 3) (dCons (dBin rAddD (dC (.int 1)) (dCall sp_law_pull (dCons (dVar 0) (dCons (dC (.int 3)) dNil)))) (dCons (dVar 2) (dCons (dVar 4) dNil)))))))))
    t_law_company_1))
theorem r_law_company (ds : List D) (M : Mp) (Q : DK) (E : DX) (hl : ds.length = 3) (h : sp_law_company ds M Q E) : t_law_company { nx := fun _ M' => Q .non M', rt := Q } (startD ["_law_bag_here", "_law_limit", "_law_signs_here", "_law_name", "_law_thick", "_law_found"] ds) M := by
  obtain ⟨p, b, n, cs, rfl, hM, hb, h0, h1, hcs, q⟩ := h
  walk_at "w"
  refine ⟨p, b, .lst [.int 3, .int 5, .int 7, .int 8], [.int 3, .int 5, .int 7, .int 8], rfl, hM, hb, by decide, by decide, .inl ⟨rfl, fun e => by cases e⟩, fun y b1 hb1 hy => ?_⟩
  obtain ⟨th, rfl⟩ : ∃ th : Int, y = .int th := by
    simp only [List.mem_cons, List.not_mem_nil, or_false] at hy
    rcases hy with rfl | rfl | rfl | rfl <;> exact ⟨_, rfl⟩
  walk_at "w"
  intro qa hqa
  have hpq : qa ≠ p := fun e => by rw [e, mupd_same] at hqa; cases hqa
  rw [mupd_ne hpq] at hqa
  walk_at "w"
  refine ⟨p, b1, n, rfl, by rw [mupd_ne (Ne.symm hpq), mupd_same], hb1, h0, by omega, fun r b2 hb2 r0 r1 => ?_⟩
  rw [mupd_comm hpq, mupd_mupd]
  walk_at "w"
  refine ⟨p, b2, 1 + r, rfl, by rw [mupd_ne (Ne.symm hpq), mupd_same], hb2, by omega, by omega, fun xs b3 hb3 hxl hxn hxd => ?_⟩
  rw [mupd_comm hpq, mupd_mupd]
  walk_at "w"
  refine for_inv (fun i env M' => ∃ s3 b', ∃ ws : List Wr, env = [some (.ref p), some (.int n), some (.lst (cs.map sgn)), s3, some (.int th), some (.ref qa)] ∧ Bag.Ok b' ∧ M' = mupd (mupd M p (.lst b'.l)) qa (.lst (ws.map wrD)) ∧ ws.map (·.name) = xs.take i ∧ ∀ w ∈ ws, WrOk w)
    ⟨none, b3, [], rfl, hb3, rfl, by simp, by simp⟩ (fun i x env M' K hx ⟨s3, b4, ws, e1, hb4, e2, e3, e4⟩ hK => ?_) fun env M' ⟨s3, b4, ws, e1, hb4, e2, e3, e4⟩ => ?_
  · subst e1 e2
    rw [List.getElem?_map] at hx
    obtain ⟨nm, hnm, rfl⟩ := Option.map_eq_some_iff.mp hx
    have hi : i < xs.length := (List.getElem?_eq_some_iff.mp hnm).1
    have hwl : ws.length = i := by have := congrArg List.length e3; rw [List.length_map, List.length_take] at this; omega
    walk_at "w"
    refine ⟨?_, ?_⟩
    · walk_at "w"
      rw [mupd_same]
      trivial
    walk_at "w"
    refine ⟨p, b4, 3, rfl, by rw [mupd_ne (Ne.symm hpq), mupd_same], hb4, by decide, by decide, fun r3 b5 hb5 r30 r31 => ?_⟩
    rw [mupd_comm hpq, mupd_mupd]
    walk_at "w"
    refine ⟨p, b5, nm, 1 + r3, cs, th, rfl, by rw [mupd_ne (Ne.symm hpq), mupd_same], hb5, by omega, by omega, hcs, fun w b6 hb6 hw => ?_⟩
    rw [mupd_comm hpq, mupd_mupd]
    walk_at "w"
    rw [mupd_same]
    refine ⟨by rw [List.length_map, sizeLine_eq]; omega, ?_⟩
    refine hK _ _ ⟨_, b6, ws ++ [w], rfl, hb6, by rw [mupd_mupd, List.map_append]; rfl, ?_, fun z hz => ?_⟩
    · rw [List.map_append, e3, List.take_add_one, hnm, List.map_cons, List.map_nil, hw.name]; rfl
    · rcases List.mem_append.mp hz with hz | hz
      · exact e4 z hz
      · rw [List.mem_singleton.mp hz]
        exact hw.ok (hxn nm (List.mem_of_getElem? hnm)) (by omega) hcs
  · subst e1 e2
    rw [List.length_map, List.take_length] at e3
    walk_at "w"
    rw [mupd_same]
    walk_at "w"
    rw [mdel_mupd (by rw [mupd_ne hpq]; exact hqa)]
    have hlen : ws.length = xs.length := by rw [← e3, List.length_map]
    exact q ws b4 hb4 ⟨e4, by rw [e3]; exact hxd, by omega⟩ (by omega) (by omega)
abbrev CCompany : Cl := ⟨"Company", ["crew"]⟩
def coD (ws : List Wr) : D := .obj CCompany [.tup (ws.map wrD)]
def IsRow (d : D) (xs : List D) : Prop := d = .lst xs ∨ d = .tup xs
theorem IsRow.seq {d : D} {xs : List D} (h : IsRow d xs) : seqOf d = some xs := by rcases h with rfl | rfl <;> rfl
def sp_need_writers : SpD := fun ds M Q _ => ∃ d ws, ds = [d] ∧ IsRow d (ws.map wrD) ∧ CrewOk ws ∧ Q .non M
def t_need_writers_1 : DS := (dIfS (dTest (dBin rGtI (dUn rLenD (dVar 1)) (dC (.int 3)))) dNever dNext)
def t_need_writers_2 : DS := (dSeq (dSet 1 (dLc (iSeq (dVar 0)) (.name 3) dYes (dBin rIxD (dVar 3) (dC (.int 0))) [3]))
    (dSeq (dFor (iEnumA (dCons (dVar 1) dNil)) (.tup [(.name 2), (.name 4)]) (dIfS (dTest (dBin (rInDD id) (dVar 4) (dSl (dVar 1) dNoPart (dPart (dVar 2))))) dNever dNext))
    t_need_writers_1))
def t_need_writers : DS := (dSeq (dFor (iEnumA (dCons (dVar 0) dNil)) (.tup [(.name 2), (.name 3)]) (dIfS (dNot (dTru (dCall sp_is_writer (dCons (dVar 3) dNil)))) dNever dNext))
    t_need_writers_2)
theorem r_need_writers_2 (d : D) (ws : List Wr) (hd : IsRow d (ws.map wrD)) (hw : CrewOk ws) (M : Mp) (Q : DK) (e2 e3 : Option D) (q : Q .non M) :
    t_need_writers_2 { nx := fun _ M' => Q .non M', rt := Q } [some d, none, e2, e3, none] M := by
  walk_at "w"
  rw [show seqOf d = some (ws.map wrD) from hd.seq]
  walk_at "w"
  refine lc_map (fun x => match x with
    | .tup (z :: _) => z
    | _ => .non) (fun x hx K1 K2 h1 => ?_) ?_
  · obtain ⟨w, _, rfl⟩ := List.mem_map.mp hx
    exact h1
  · have e : (ws.map wrD).map (fun x => match x with
        | .tup (z :: _) => z
        | _ => D.non) = (ws.map (·.name)).map D.str := by rw [List.map_map, List.map_map]; rfl
    rw [e]
    walk_at "w"
    refine for_inv (fun i env M' => M' = M ∧ ∃ s2 s4, env = [some d, some (.lst ((ws.map (·.name)).map D.str)), s2, e3, s4]) ⟨rfl, _, _, rfl⟩ (fun i x env M' K hx ⟨eM, s2, s4, e1⟩ hK => ?_) fun env M' ⟨eM, s2, s4, e1⟩ => ?_
    · subst eM e1
      obtain ⟨g, hg, rfl⟩ := pairs_at hx
      rw [List.getElem?_map] at hg
      obtain ⟨nm, hnm, rfl⟩ := Option.map_eq_some_iff.mp hg
      have hi : i < (ws.map (·.name)).length := (List.getElem?_eq_some_iff.mp hnm).1
      walk_at "w"
      rw [show cut ((ws.map (·.name)).map D.str) none (some (i : Int)) = ((ws.map (·.name)).take i).map D.str by
        rw [cut_map]; unfold cut; rw [HT.sIx_none, HT.sIx_nat, List.drop_zero, Nat.sub_zero, Nat.min_eq_left (by omega)]]
      refine ⟨⟨rfl, les_flat fun g hg => by obtain ⟨x, _, rfl⟩ := List.mem_map.mp hg; rfl⟩, ?_⟩
      have hno : (((ws.map (·.name)).take i).map D.str).any (fun z => eqD z (.str nm)) = false := by
        rw [List.any_eq_false]
        intro z hz
        obtain ⟨y, hy, rfl⟩ := List.mem_map.mp hz
        rw [eqD_str]
        intro e
        have e := eq_of_beq e
        subst e
        obtain ⟨j, hj⟩ := List.getElem?_of_mem hy
        have hji : j < i := by have := (List.getElem?_eq_some_iff.mp hj).1; rw [List.length_take] at this; omega
        rw [List.getElem?_take, if_pos hji] at hj
        have := (List.nodup_iff_pairwise_ne.mp hw.nd)
        rw [List.pairwise_iff_getElem] at this
        obtain ⟨hj1, hj2⟩ := List.getElem?_eq_some_iff.mp hj
        obtain ⟨hi1, hi2⟩ := List.getElem?_eq_some_iff.mp hnm
        exact this j i hj1 hi1 hji (hj2.trans hi2.symm)
      rw [hno]
      exact hK _ _ ⟨rfl, _, _, rfl⟩
    · subst eM e1
      walk_at "w"
      refine brn_by (fun hc => ?_) fun hc => q
      have := of_decide_eq_true hc
      rw [List.length_map, List.length_map] at this
      have := hw.few
      omega
theorem r_need_writers (ds : List D) (M : Mp) (Q : DK) (E : DX) (hl : ds.length = 1) (h : sp_need_writers ds M Q E) : t_need_writers { nx := fun _ M' => Q .non M', rt := Q } (startD ["writers", "names", "at", "writer", "name"] ds) M := by
  obtain ⟨d, ws, rfl, hd, hw, q⟩ := h
  walk_at "w"
  rw [show seqOf d = some (ws.map wrD) from hd.seq]
  walk_at "w"
  refine for_inv (fun i env M' => M' = M ∧ ∃ s2 s3, env = [some d, none, s2, s3, none]) ⟨rfl, _, _, rfl⟩ (fun i x env M' K hx ⟨eM, s2, s3, e1⟩ hK => ?_) fun env M' ⟨eM, s2, s3, e1⟩ => ?_
  · subst eM e1
    obtain ⟨g, hg, rfl⟩ := pairs_at hx
    rw [List.getElem?_map] at hg
    obtain ⟨w, hw', rfl⟩ := Option.map_eq_some_iff.mp hg
    have hok := hw.ok w (List.mem_of_getElem? hw')
    walk_at "w"
    refine ⟨_, rfl, .inr ⟨w.name, w.ar, w.pat, w.cap, rfl, Nat.le_trans hok.few (by decide), ?_⟩⟩
    rw [isWr_ok hok]
    exact hK _ _ ⟨rfl, _, _, rfl⟩
  · subst eM e1
    exact r_need_writers_2 d ws hd hw _ Q _ _ q
def sp_Company___init__ : SpD := fun ds M Q _ => ∃ p d ws, ds = [.ref p, d] ∧ IsRow d (ws.map wrD) ∧ CrewOk ws ∧ M p = some (.ins CCompany []) ∧ Q .non (mupd M p (.ins CCompany [.tup (ws.map wrD)]))
def t_Company___init__ : DS := (dSeq (dDrop (dCall sp_need_writers (dCons (dVar 1) dNil)))
    (dSetFld CCompany 0 (dUn rTupleD (dVar 1)) (dVar 0)))
theorem r_Company___init__ (ds : List D) (M : Mp) (Q : DK) (E : DX) (hl : ds.length = 2) (h : sp_Company___init__ ds M Q E) : t_Company___init__ { nx := fun _ M' => Q .non M', rt := Q } (startD ["self", "writers"] ds) M := by
  obtain ⟨p, d, ws, rfl, hd, hw, hM, q⟩ := h
  walk_at "w"
  refine ⟨d, ws, rfl, hd, hw, ?_⟩
  rcases hd with rfl | rfl
  all_goals
    walk_at "w"
    rw [hM]
    exact ⟨⟨rfl, Nat.le_refl _⟩, q⟩
end L3
set_option Elab.async false
set_option linter.all false
set_option maxRecDepth 100000
set_option maxHeartbeats 1000000
namespace L3
open PySem PySem.Spec PyProof.Rows L2
local macro_rules | `(tactic| walk_at "w") => `(tactic| conv => whnf)
def arTo (w : Wr) (p : Int) : List Int := (arsAt w p).map Ar.to
def sp_arrows_at : SpD := fun ds M Q _ => ∃ w p, ds = [wrD w, .int p] ∧ w.ar.Pairwise arLt ∧ Q (.dct ((arsAt w p).map fun a => Sum.inr a.sg) ((arTo w p).map D.int)) M
def t_arrows_at : DS := (dRet (dDc (iTpl (dBin rIxD (dVar 0) (dC (.int 1)))) (.tup [(.name 2), (.name 3), (.name 4)]) (dTest (dBin (rEqDD id) (dVar 2) (dVar 1))) (dVar 3) (dVar 4) [2, 3, 4]))
def arP (p : Int) (x : D) : Bool := match x with
  | .tup [.int a, _, _] => a == p
  | _ => false
def arK (x : D) : L2.Key := match x with
  | .tup [_, .str s, _] => .inr s
  | _ => .inl 0
def arV (x : D) : D := match x with
  | .tup [_, _, z] => z
  | _ => .non
theorem ar_filter (w : Wr) (p : Int) : (w.ar.map arD).filter (arP p) = (arsAt w p).map arD := by
  unfold arsAt
  rw [List.filter_map]
  congr 1
theorem r_arrows_at (ds : List D) (M : Mp) (Q : DK) (E : DX) (hl : ds.length = 2) (h : sp_arrows_at ds M Q E) : t_arrows_at { nx := fun _ M' => Q .non M', rt := Q } (startD ["writer", "place", "at", "sign", "to"] ds) M := by
  obtain ⟨w, p, rfl, hw, q⟩ := h
  walk_at "w"
  refine dc_filter (arP p) arK arV ?_ (fun x hx K1 K2 h1 h2 => ?_) ?_
  · rw [ar_filter, List.map_map]
    exact sg_nodup hw p
  · obtain ⟨a, _, rfl⟩ := List.mem_map.mp hx
    walk_at "w"
    refine ⟨⟨rfl, rfl⟩, ?_⟩
    walk_at "w"
    refine brn_by (fun hc => ?_) fun hc => ?_
    · exact h1 hc
    · exact h2 hc
  · rw [ar_filter, List.map_map, List.map_map]
    have e : (arTo w p).map D.int = (arsAt w p).map (arV ∘ arD) := by unfold arTo; rw [List.map_map]; rfl
    rw [e] at q
    exact q
def doneAt (w : Wr) (p : Int) : Bool := (arsAt w p).isEmpty
def sp_is_done : SpD := fun ds M Q _ => ∃ w p, ds = [wrD w, .int p] ∧ w.ar.Pairwise arLt ∧ Q (.bl (doneAt w p)) M
def t_is_done : DS := (dRet (dBin (rEqKD id) (dCall sp_arrows_at (dCons (dVar 0) (dCons (dVar 1) dNil))) dDctF0))
theorem r_is_done (ds : List D) (M : Mp) (Q : DK) (E : DX) (hl : ds.length = 2) (h : sp_is_done ds M Q E) : t_is_done { nx := fun _ M' => Q .non M', rt := Q } (startD ["writer", "place"] ds) M := by
  obtain ⟨w, p, rfl, hw, q⟩ := h
  walk_at "w"
  refine ⟨w, p, rfl, hw, ?_⟩
  walk_at "w"
  refine ⟨⟨les_flat fun d hd => ?_, rfl⟩, ?_⟩
  · obtain ⟨c, _, rfl⟩ := List.mem_map.mp hd; rfl
  have e : eqTab ((arsAt w p).map fun a => (Sum.inr a.sg : L2.Key)) ((arTo w p).map D.int) [] [] = doneAt w p := by
    unfold eqTab doneAt arTo
    cases arsAt w p <;> rfl
  show Q (.bl (eqTab _ _ [] [])) M
  rw [e]; exact q
def atD (a : Ar) : D := .tup [.str a.sg, .int a.to]
def sp_law_arrows : SpD := fun ds M Q _ => ∃ w p, ds = [wrD w, .int p] ∧ Q (.lst ((arsAt w p).map atD)) M
def t_law_arrows : DS := (dRet (dLc (iTpl (dBin rIxD (dVar 0) (dC (.int 1)))) (.tup [(.name 2), (.name 3), (.name 4)]) (dTest (dBin (rEqDD id) (dVar 2) (dVar 1))) (dTup (dCons (dVar 3) (dCons (dVar 4) dNil))) [2, 3, 4]))
theorem r_law_arrows (ds : List D) (M : Mp) (Q : DK) (E : DX) (hl : ds.length = 2) (h : sp_law_arrows ds M Q E) : t_law_arrows { nx := fun _ M' => Q .non M', rt := Q } (startD ["_law_writer_here", "_law_place", "_law_at", "_law_sign", "_law_to"] ds) M := by
  obtain ⟨w, p, rfl, q⟩ := h
  walk_at "w"
  refine lc_filter (arP p) (fun x => match x with
    | .tup [_, s, z] => .tup [s, z]
    | _ => .non) (fun x hx K1 K2 h1 h2 => ?_) ?_
  · obtain ⟨a, _, rfl⟩ := List.mem_map.mp hx
    walk_at "w"
    refine ⟨⟨rfl, rfl⟩, ?_⟩
    walk_at "w"
    refine brn_by (fun hc => ?_) fun hc => ?_
    · exact h1 hc
    · exact h2 hc
  · rw [ar_filter, List.map_map]
    exact q
structure St where
  pl : List Int
  wt : List Int
  la : Int
  mn : Int
def stD (s : St) : D := .tup [.tup (s.pl.map D.int), .tup (s.wt.map D.int), .tup [.int s.la, .int s.mn]]
def cnt (w : Wr) (p : Int) : Bool := decide (0 < w.pat) && !doneAt w p
def cntAt (ws : List Wr) (pl : List Int) (k : Nat) : Bool := match ws[k]?, pl[k]? with
  | some w, some p => cnt w p
  | _, _ => false
/-- a stand of a company, as far as its counts go; where none is counted the wait is nought -/
structure StOk (ws : List Wr) (s : St) : Prop where
  pl : s.pl.length = ws.length
  wt : s.wt.length = ws.length
  no : ∀ k x, s.wt[k]? = some x → cntAt ws s.pl k = false → x = 0
def st0 (n : Nat) : St := ⟨List.replicate n 0, List.replicate n 0, -1, 0⟩
theorem st0_ok (ws : List Wr) : StOk ws (st0 ws.length) := ⟨by simp [st0], by simp [st0], fun k x hx _ => by
  have := List.mem_of_getElem? hx
  exact (List.mem_replicate.mp this).2⟩
theorem rep_zero (n : Nat) : (List.replicate n [D.int 0]).flatten = (List.replicate n (0 : Int)).map D.int := by
  induction n with
  | zero => rfl
  | succ n ih => rw [List.replicate_succ, List.flatten_cons, ih]; rfl
def sp_Company_begin : SpD := fun ds M Q _ => ∃ ws : List Wr, ds = [coD ws] ∧ ws.length ≤ 3 ∧ Q (stD (st0 ws.length)) M
def t_Company_begin : DS := (dRet (dTup (dCons (dBin rMulD (dTup (dCons (dC (.int 0)) dNil)) (dUn rLenD (dFld CCompany 0 (dVar 0)))) (dCons (dBin rMulD (dTup (dCons (dC (.int 0)) dNil)) (dUn rLenD (dFld CCompany 0 (dVar 0)))) (dCons (dC (.tup [(.int (-1)), (.int 0)])) dNil)))))
theorem r_Company_begin (ds : List D) (M : Mp) (Q : DK) (E : DX) (hl : ds.length = 1) (h : sp_Company_begin ds M Q E) : t_Company_begin { nx := fun _ M' => Q .non M', rt := Q } (startD ["self"] ds) M := by
  obtain ⟨ws, rfl, hw, q⟩ := h
  walk_at "w"
  refine ⟨rfl, ?_⟩
  walk_at "w"
  refine ⟨⟨by simp, by omega, by rw [List.length_map]; omega, by decide⟩, ?_⟩
  walk_at "w"
  refine ⟨rfl, ?_⟩
  walk_at "w"
  refine ⟨⟨by simp, by omega, by rw [List.length_map]; omega, by decide⟩, ?_⟩
  rw [List.length_map, Int.toNat_natCast, rep_zero]
  exact q
def sp_law_begin : SpD := fun ds M Q _ => ∃ ws : List Wr, ds = [.lst (ws.map wrD)] ∧ ws.length ≤ 3 ∧ Q (stD (st0 ws.length)) M
def t_law_begin : DS := (dRet (dTup (dCons (dBin rMulD (dTup (dCons (dC (.int 0)) dNil)) (dUn rLenD (dVar 0))) (dCons (dBin rMulD (dTup (dCons (dC (.int 0)) dNil)) (dUn rLenD (dVar 0))) (dCons (dTup (dCons (dUn rNegI (dC (.int 1))) (dCons (dC (.int 0)) dNil))) dNil)))))
theorem r_law_begin (ds : List D) (M : Mp) (Q : DK) (E : DX) (hl : ds.length = 1) (h : sp_law_begin ds M Q E) : t_law_begin { nx := fun _ M' => Q .non M', rt := Q } (startD ["_law_m"] ds) M := by
  obtain ⟨ws, rfl, hw, q⟩ := h
  walk_at "w"
  refine ⟨⟨by simp, by omega, by rw [List.length_map]; omega, by decide⟩, ?_⟩
  walk_at "w"
  refine ⟨⟨by simp, by omega, by rw [List.length_map]; omega, by decide⟩, ?_⟩
  rw [List.length_map, Int.toNat_natCast, rep_zero]
  exact q
theorem atI_map {α β : Type} {f : α → β} {xs : List α} {i : Nat} {x : α} (h : xs[i]? = some x) : atI (xs.map f) (i : Int) = some (f x) := atI_of (by rw [List.getElem?_map, h]; rfl)
def sp_Company_counts : SpD := fun ds M Q _ => ∃ ws w, ∃ i : Nat, ∃ p : Int, ds = [coD ws, .int i, .int p] ∧ ws[i]? = some w ∧ WrOk w ∧ Q (.bl (cnt w p)) M
def t_Company_counts : DS := (dRet (dAndV (dBin rGtI (dBin rIxD (dBin rIxD (dFld CCompany 0 (dVar 0)) (dVar 1)) (dC (.int 2))) (dC (.int 0))) (dNotV (dCall sp_is_done (dCons (dBin rIxD (dFld CCompany 0 (dVar 0)) (dVar 1)) (dCons (dVar 2) dNil))))))
theorem r_Company_counts (ds : List D) (M : Mp) (Q : DK) (E : DX) (hl : ds.length = 3) (h : sp_Company_counts ds M Q E) : t_Company_counts { nx := fun _ M' => Q .non M', rt := Q } (startD ["self", "spot", "place"] ds) M := by
  obtain ⟨ws, w, i, p, rfl, hw, ok, q⟩ := h
  unfold cnt at q
  walk_at "w"
  refine ⟨rfl, ?_⟩
  walk_at "w"
  rw [atI_map hw]
  walk_at "w"
  refine brn_by (fun hc => ?_) fun hc => ?_
  · rw [show decide (0 < w.pat) = true from hc, Bool.true_and] at q
    walk_at "w"
    refine ⟨rfl, ?_⟩
    walk_at "w"
    rw [atI_map hw]
    walk_at "w"
    refine ⟨w, p, rfl, ok.up, ?_⟩
    exact q
  · rw [show decide (0 < w.pat) = false from hc, Bool.false_and] at q
    show Q (.bl (decide (0 < w.pat))) M
    rw [show decide (0 < w.pat) = false from hc]
    exact q
def sp_law_waits_count : SpD := fun ds M Q _ => ∃ ws : List Wr, ∃ w, ∃ pl : List Int, ∃ i : Nat, ∃ p, ds = [.lst (ws.map wrD), .tup (pl.map D.int), .int i] ∧ ws[i]? = some w ∧ pl[i]? = some p ∧ Q (.bl (cnt w p)) M
def t_law_waits_count : DS := (dRet (dAndV (dBin rGtI (dBin rIxD (dBin rIxD (dVar 0) (dVar 2)) (dC (.int 2))) (dC (.int 0))) (dBin (rEqDD not) (dCall sp_law_arrows (dCons (dBin rIxD (dVar 0) (dVar 2)) (dCons (dBin rIxD (dVar 1) (dVar 2)) dNil))) (dLst dNil))))
theorem les_at2 (as : List Ar) : D.les 59 (as.map atD) = true := les_of fun d hd => by
  obtain ⟨a, _, rfl⟩ := List.mem_map.mp hd; rfl
theorem r_law_waits_count (ds : List D) (M : Mp) (Q : DK) (E : DX) (hl : ds.length = 3) (h : sp_law_waits_count ds M Q E) : t_law_waits_count { nx := fun _ M' => Q .non M', rt := Q } (startD ["_law_m", "_law_places", "_law_at"] ds) M := by
  obtain ⟨ws, w, pl, i, p, rfl, hw, hp, q⟩ := h
  unfold cnt at q
  walk_at "w"
  rw [atI_map hw]
  walk_at "w"
  refine brn_by (fun hc => ?_) fun hc => ?_
  · rw [show decide (0 < w.pat) = true from hc, Bool.true_and] at q
    walk_at "w"
    rw [atI_map hw]
    walk_at "w"
    rw [atI_map hp]
    walk_at "w"
    refine ⟨w, p, rfl, ?_⟩
    walk_at "w"
    refine ⟨⟨les_at2 _, rfl⟩, ?_⟩
    have ee : eqD (.lst ((arsAt w p).map atD)) (.lst []) = doneAt w p := by
      rw [eqD_nil]; unfold doneAt; cases arsAt w p <;> rfl
    show Q (.bl (!eqD (.lst ((arsAt w p).map atD)) (.lst []))) M
    rw [ee]
    exact q
  · rw [show decide (0 < w.pat) = false from hc, Bool.false_and] at q
    show Q (.bl (decide (0 < w.pat))) M
    rw [show decide (0 < w.pat) = false from hc]
    exact q
end L3
set_option Elab.async false
set_option linter.all false
set_option maxRecDepth 100000
set_option maxHeartbeats 1000000
namespace L3
open PySem PySem.Spec PyProof.Rows L2
local macro_rules | `(tactic| walk_at "w") => `(tactic| conv => whnf)
def natI (k : Nat) : D := .int (k : Int)
theorem rng0 (n : Nat) : rng 0 n = (List.range n).map natI := by
  unfold rng natI
  refine List.map_congr_left fun k _ => ?_
  rw [Int.zero_add]
theorem eqD_nat {i j : Nat} : eqD (.int (i : Int)) (.int (j : Int)) = decide (i = j) := by
  rw [eqD_int, Bool.eq_iff_iff, beq_iff_eq, decide_eq_true_eq]
  omega
theorem eqD_pair {a b c d : Int} : eqD (.tup [.int a, .int b]) (.tup [.int c, .int d]) = (a == c && b == d) := by
  simp [eqD, D.py, D.pys, PyData.eqv, PyData.eqvAll]
def oth (ws : List Wr) (s : St) (i : Nat) : List Nat := (List.range ws.length).filter fun k => !decide (k = i) && cntAt ws s.pl k
def wtOk (ws : List Wr) (s : St) (k : Nat) : Bool := match s.wt[k]?, ws[k]? with
  | some x, some w => decide (x < w.pat)
  | _, _ => false
def capped (w : Wr) (s : St) (i : Nat) : Bool := decide (0 < w.cap) && (s.la == (i : Int) && s.mn == w.cap)
def mayW (ws : List Wr) (s : St) (i : Nat) : Bool := match ws[i]? with
  | some w => !capped w s i && (oth ws s i).all (wtOk ws s)
  | none => false
theorem mayW_at {ws : List Wr} {s : St} {i : Nat} {w : Wr} (h : ws[i]? = some w) : mayW ws s i = (!capped w s i && (oth ws s i).all (wtOk ws s)) := by
  unfold mayW; rw [h]
theorem oth_mem {ws : List Wr} {s : St} {i k : Nat} (h : k ∈ oth ws s i) : k < ws.length := List.mem_range.mp (List.mem_filter.mp h).1
def othP (ws : List Wr) (s : St) (i : Nat) (x : D) : Bool := match x with
  | .int k => !decide (k.toNat = i) && cntAt ws s.pl k.toNat
  | _ => false
theorem oth_list (ws : List Wr) (s : St) (i : Nat) : (((List.range ws.length).map natI).filter (othP ws s i)).map id = (oth ws s i).map natI := by
  rw [List.map_id, List.filter_map]; rfl
def wtP (ws : List Wr) (s : St) (x : D) : D := match x with
  | .int k => .bl (wtOk ws s k.toNat)
  | _ => .non
theorem wt_list (ws : List Wr) (s : St) (ks : List Nat) : (ks.map natI).map (wtP ws s) = (ks.map (wtOk ws s)).map D.bl := by
  rw [List.map_map, List.map_map]; rfl
def sp_Company_may_write : SpD := fun ds M Q _ => ∃ ws s, ∃ i : Nat, ∃ w, ds = [coD ws, stD s, .int i] ∧ CrewOk ws ∧ ws[i]? = some w ∧ s.pl.length = ws.length ∧ s.wt.length = ws.length ∧ Q (.bl (mayW ws s i)) M
def t_Company_may_write_1 : DS := (dSeq (dSet 4 (dLc (iRange1 (dCons (dUn rLenD (dFld CCompany 0 (dVar 0))) dNil)) (.name 8) (dAnd (dTest (dBin (rEqDD not) (dVar 8) (dVar 2))) (dTru (dMeth CCompany sp_Company_counts (dVar 0) (dCons (dVar 8) (dCons (dBin rIxD (dVar 5) (dVar 8)) dNil))))) (dVar 8) [8]))
    (dRet (dUn rAllD (dLc (iLst (dVar 4)) (.name 8) dYes (dBin rLtI (dBin rIxD (dVar 6) (dVar 8)) (dBin rIxD (dBin rIxD (dFld CCompany 0 (dVar 0)) (dVar 8)) (dC (.int 2)))) [8]))))
def t_Company_may_write : DS := (dSeq (dAsg (dVar 1) (.tup [(.name 5), (.name 6), (.name 7)]))
    (dSeq (dSet 3 (dBin rIxD (dBin rIxD (dFld CCompany 0 (dVar 0)) (dVar 2)) (dC (.int 3))))
    (dSeq (dIfS (dAnd (dTest (dBin rGtI (dVar 3) (dC (.int 0)))) (dTest (dBin (rEqDD id) (dVar 7) (dTup (dCons (dVar 2) (dCons (dVar 3) dNil)))))) (dRet (dC (.bl false))) dNext)
    t_Company_may_write_1)))
theorem r_Company_may_write_1 (ws : List Wr) (s : St) (i : Nat) (hw : CrewOk ws) (hp : s.pl.length = ws.length) (hwt : s.wt.length = ws.length) (M : Mp) (Q : DK) (nx : DEnv → Mp → Prop) (e1 e3 e7 e8 : Option D) (q : Q (.bl ((oth ws s i).all (wtOk ws s))) M) :
    t_Company_may_write_1 { nx := nx, rt := Q } [some (coD ws), e1, some (.int (i : Int)), e3, none, some (.tup (s.pl.map D.int)), some (.tup (s.wt.map D.int)), e7, e8] M := by
  have hfew := hw.few
  walk_at "w"
  refine ⟨rfl, ?_⟩
  walk_at "w"
  rw [List.length_map]
  refine ⟨⟨by omega, by omega⟩, ?_⟩
  rw [Int.toNat_natCast, rng0]
  walk_at "w"
  refine lc_filter (othP ws s i) id (fun x hx K1 K2 h1 h2 => ?_) ?_
  · obtain ⟨k, hk, rfl⟩ := List.mem_map.mp hx
    have hkl : k < ws.length := List.mem_range.mp hk
    have hkw := List.getElem?_eq_getElem hkl
    have hkp : s.pl[k]? = some (s.pl[k]'(by omega)) := List.getElem?_eq_getElem (by omega)
    have hP : othP ws s i (natI k) = (!decide (k = i) && cnt ws[k] (s.pl[k]'(by omega))) := by
      show (!decide ((k : Int).toNat = i) && cntAt ws s.pl (k : Int).toNat) = _
      rw [Int.toNat_natCast]
      unfold cntAt
      rw [hkw, hkp]
    walk_at "w"
    refine ⟨⟨rfl, rfl⟩, ?_⟩
    walk_at "w"
    refine brn_by (fun hc => ?_) fun hc => ?_
    · have hc' : (!eqD (.int (k : Int)) (.int (i : Int))) = true := hc
      rw [eqD_nat] at hc'
      rw [hc', Bool.true_and] at hP
      walk_at "w"
      refine ⟨rfl, ?_⟩
      walk_at "w"
      rw [atI_map hkp]
      walk_at "w"
      refine ⟨ws, ws[k], k, _, rfl, hkw, hw.ok _ (List.getElem_mem hkl), ?_⟩
      walk_at "w"
      refine brn_by (fun hd => ?_) fun hd => ?_
      · exact h1 (hP.trans hd)
      · exact h2 (hP.trans hd)
    · have hc' : (!eqD (.int (k : Int)) (.int (i : Int))) = false := hc
      rw [eqD_nat] at hc'
      rw [hc', Bool.false_and] at hP
      exact h2 hP
  · rw [oth_list]
    walk_at "w"
    refine lc_map (wtP ws s) (fun x hx K1 K2 h1 => ?_) ?_
    · obtain ⟨k, hk, rfl⟩ := List.mem_map.mp hx
      have hkl := oth_mem hk
      have hkw := List.getElem?_eq_getElem hkl
      have hkt : s.wt[k]? = some (s.wt[k]'(by omega)) := List.getElem?_eq_getElem (by omega)
      have hP : wtP ws s (natI k) = .bl (decide (s.wt[k]'(by omega) < ws[k].pat)) := by
        show D.bl (wtOk ws s (k : Int).toNat) = _
        rw [Int.toNat_natCast]
        unfold wtOk
        rw [hkw, hkt]
      rw [hP] at h1
      walk_at "w"
      rw [atI_map hkt]
      walk_at "w"
      refine ⟨rfl, ?_⟩
      walk_at "w"
      rw [atI_map hkw]
      exact h1
    · rw [wt_list]
      walk_at "w"
      rw [asBls_map]
      show Q (.bl (((oth ws s i).map (wtOk ws s)).all id)) M
      rw [List.all_map]
      exact q
theorem r_Company_may_write (ds : List D) (M : Mp) (Q : DK) (E : DX) (hl : ds.length = 3) (h : sp_Company_may_write ds M Q E) : t_Company_may_write { nx := fun _ M' => Q .non M', rt := Q } (startD ["self", "stand", "spot", "cap", "others", "places", "waits", "run", "at"] ds) M := by
  obtain ⟨ws, s, i, w, rfl, hok, hw, hp, hwt, q⟩ := h
  rw [mayW_at hw] at q
  walk_at "w"
  refine ⟨rfl, ?_⟩
  walk_at "w"
  rw [atI_map hw]
  walk_at "w"
  have fin : capped w s i = false → t_Company_may_write_1 { nx := fun _ M' => Q .non M', rt := Q } [some (coD ws), some (stD s), some (.int (i : Int)), some (.int w.cap), none, some (.tup (s.pl.map D.int)), some (.tup (s.wt.map D.int)), some (.tup [.int s.la, .int s.mn]), none] M := fun hc => by
    rw [hc] at q
    exact r_Company_may_write_1 ws s i hok hp hwt M Q _ _ _ _ _ q
  refine brn_by (fun hc => ?_) fun hc => ?_
  · walk_at "w"
    refine ⟨⟨rfl, rfl⟩, ?_⟩
    walk_at "w"
    refine brn_by (fun hd => ?_) fun hd => ?_
    · have hd' : eqD (.tup [.int s.la, .int s.mn]) (.tup [.int (i : Int), .int w.cap]) = true := hd
      rw [eqD_pair] at hd'
      have : capped w s i = true := by unfold capped; rw [hd', show decide (0 < w.cap) = true from hc]; rfl
      rw [this] at q
      exact q
    · have hd' : eqD (.tup [.int s.la, .int s.mn]) (.tup [.int (i : Int), .int w.cap]) = false := hd
      rw [eqD_pair] at hd'
      exact fin (by unfold capped; rw [hd', Bool.and_false])
  · exact fin (by unfold capped; rw [show decide (0 < w.cap) = false from hc, Bool.false_and])
def sp_law_can : SpD := fun ds M Q _ => ∃ ws s, ∃ i : Nat, ∃ w, ds = [.lst (ws.map wrD), stD s, .int i] ∧ CrewOk ws ∧ ws[i]? = some w ∧ s.pl.length = ws.length ∧ s.wt.length = ws.length ∧ Q (.bl (mayW ws s i)) M
def t_law_can_1 : DS := (dSeq (dSet 3 (dLc (iRange1 (dCons (dUn rLenD (dVar 0)) dNil)) (.name 7) (dAnd (dTest (dBin (rEqDD not) (dVar 7) (dVar 2))) (dTru (dCall sp_law_waits_count (dCons (dVar 0) (dCons (dVar 4) (dCons (dVar 7) dNil)))))) (dVar 7) [7]))
    (dRet (dUn rAllD (dLc (iLst (dVar 3)) (.name 7) dYes (dBin rLtI (dBin rIxD (dVar 5) (dVar 7)) (dBin rIxD (dBin rIxD (dVar 0) (dVar 7)) (dC (.int 2)))) [7]))))
def t_law_can : DS := (dSeq (dAsg (dVar 1) (.tup [(.name 4), (.name 5), (.name 6)]))
    (dSeq (dIfS (dAnd (dTest (dBin rGtI (dBin rIxD (dBin rIxD (dVar 0) (dVar 2)) (dC (.int 3))) (dC (.int 0)))) (dTest (dBin (rEqDD id) (dVar 6) (dTup (dCons (dVar 2) (dCons (dBin rIxD (dBin rIxD (dVar 0) (dVar 2)) (dC (.int 3))) dNil)))))) (dRet (dC (.bl false))) dNext)
    t_law_can_1))
theorem r_law_can_1 (ws : List Wr) (s : St) (i : Nat) (hw : CrewOk ws) (hp : s.pl.length = ws.length) (hwt : s.wt.length = ws.length) (M : Mp) (Q : DK) (nx : DEnv → Mp → Prop) (e1 e6 e7 : Option D) (q : Q (.bl ((oth ws s i).all (wtOk ws s))) M) :
    t_law_can_1 { nx := nx, rt := Q } [some (.lst (ws.map wrD)), e1, some (.int (i : Int)), none, some (.tup (s.pl.map D.int)), some (.tup (s.wt.map D.int)), e6, e7] M := by
  have hfew := hw.few
  walk_at "w"
  rw [List.length_map]
  refine ⟨⟨by omega, by omega⟩, ?_⟩
  rw [Int.toNat_natCast, rng0]
  walk_at "w"
  refine lc_filter (othP ws s i) id (fun x hx K1 K2 h1 h2 => ?_) ?_
  · obtain ⟨k, hk, rfl⟩ := List.mem_map.mp hx
    have hkl : k < ws.length := List.mem_range.mp hk
    have hkw := List.getElem?_eq_getElem hkl
    have hkp : s.pl[k]? = some (s.pl[k]'(by omega)) := List.getElem?_eq_getElem (by omega)
    have hP : othP ws s i (natI k) = (!decide (k = i) && cnt ws[k] (s.pl[k]'(by omega))) := by
      show (!decide ((k : Int).toNat = i) && cntAt ws s.pl (k : Int).toNat) = _
      rw [Int.toNat_natCast]
      unfold cntAt
      rw [hkw, hkp]
    walk_at "w"
    refine ⟨⟨rfl, rfl⟩, ?_⟩
    walk_at "w"
    refine brn_by (fun hc => ?_) fun hc => ?_
    · have hc' : (!eqD (.int (k : Int)) (.int (i : Int))) = true := hc
      rw [eqD_nat] at hc'
      rw [hc', Bool.true_and] at hP
      walk_at "w"
      refine ⟨ws, ws[k], s.pl, k, _, rfl, hkw, hkp, ?_⟩
      walk_at "w"
      refine brn_by (fun hd => ?_) fun hd => ?_
      · exact h1 (hP.trans hd)
      · exact h2 (hP.trans hd)
    · have hc' : (!eqD (.int (k : Int)) (.int (i : Int))) = false := hc
      rw [eqD_nat] at hc'
      rw [hc', Bool.false_and] at hP
      exact h2 hP
  · rw [oth_list]
    walk_at "w"
    refine lc_map (wtP ws s) (fun x hx K1 K2 h1 => ?_) ?_
    · obtain ⟨k, hk, rfl⟩ := List.mem_map.mp hx
      have hkl := oth_mem hk
      have hkw := List.getElem?_eq_getElem hkl
      have hkt : s.wt[k]? = some (s.wt[k]'(by omega)) := List.getElem?_eq_getElem (by omega)
      have hP : wtP ws s (natI k) = .bl (decide (s.wt[k]'(by omega) < ws[k].pat)) := by
        show D.bl (wtOk ws s (k : Int).toNat) = _
        rw [Int.toNat_natCast]
        unfold wtOk
        rw [hkw, hkt]
      rw [hP] at h1
      walk_at "w"
      rw [atI_map hkt]
      walk_at "w"
      rw [atI_map hkw]
      exact h1
    · rw [wt_list]
      walk_at "w"
      rw [asBls_map]
      show Q (.bl (((oth ws s i).map (wtOk ws s)).all id)) M
      rw [List.all_map]
      exact q
theorem r_law_can (ds : List D) (M : Mp) (Q : DK) (E : DX) (hl : ds.length = 3) (h : sp_law_can ds M Q E) : t_law_can { nx := fun _ M' => Q .non M', rt := Q } (startD ["_law_m", "_law_stand", "_law_spot", "_law_others", "_law_places", "_law_waits", "_law_run", "_law_at"] ds) M := by
  obtain ⟨ws, s, i, w, rfl, hok, hw, hp, hwt, q⟩ := h
  rw [mayW_at hw] at q
  walk_at "w"
  rw [atI_map hw]
  walk_at "w"
  have fin : capped w s i = false → t_law_can_1 { nx := fun _ M' => Q .non M', rt := Q } [some (.lst (ws.map wrD)), some (stD s), some (.int (i : Int)), none, some (.tup (s.pl.map D.int)), some (.tup (s.wt.map D.int)), some (.tup [.int s.la, .int s.mn]), none] M := fun hc => by
    rw [hc] at q
    exact r_law_can_1 ws s i hok hp hwt M Q _ _ _ _ q
  refine brn_by (fun hc => ?_) fun hc => ?_
  · walk_at "w"
    rw [atI_map hw]
    walk_at "w"
    refine ⟨⟨rfl, rfl⟩, ?_⟩
    walk_at "w"
    refine brn_by (fun hd => ?_) fun hd => ?_
    · have hd' : eqD (.tup [.int s.la, .int s.mn]) (.tup [.int (i : Int), .int w.cap]) = true := hd
      rw [eqD_pair] at hd'
      have : capped w s i = true := by unfold capped; rw [hd', show decide (0 < w.cap) = true from hc]; rfl
      rw [this] at q
      exact q
    · have hd' : eqD (.tup [.int s.la, .int s.mn]) (.tup [.int (i : Int), .int w.cap]) = false := hd
      rw [eqD_pair] at hd'
      exact fin (by unfold capped; rw [hd', Bool.and_false])
  · exact fin (by unfold capped; rw [show decide (0 < w.cap) = false from hc, Bool.false_and])
end L3
set_option Elab.async false
set_option linter.all false
set_option maxRecDepth 100000
set_option maxHeartbeats 1000000
namespace L3
open PySem PySem.Spec PyProof.Rows L2
local macro_rules | `(tactic| walk_at "w") => `(tactic| conv => whnf)
theorem cut_to {α : Type} (xs : List α) (k : Nat) : cut xs none (some (k : Int)) = xs.take k := by
  unfold cut
  rw [HT.sIx_none, HT.sIx_nat, List.drop_zero, Nat.sub_zero]
  by_cases h : k ≤ xs.length
  · rw [Nat.min_eq_left h]
  · rw [Nat.min_eq_right (by omega), List.take_length, List.take_of_length_le (by omega)]
theorem cut_from {α : Type} (xs : List α) (k : Nat) : cut xs (some (k : Int)) none = xs.drop k := by
  unfold cut
  rw [HT.sIx_none, HT.sIx_nat]
  by_cases h : k ≤ xs.length
  · rw [Nat.min_eq_left h, List.take_of_length_le (by rw [List.length_drop]; omega)]
  · rw [Nat.min_eq_right (by omega), List.drop_length, List.drop_eq_nil_of_le (by omega)]; simp
theorem cut_from1 {α : Type} (xs : List α) (k : Nat) : cut xs (some ((k : Int) + 1)) none = xs.drop (k + 1) := cut_from xs (k + 1)
def runOf (w : Wr) (s : St) (i : Nat) : Int × Int := if 0 < w.cap then ((i : Int), if s.la = (i : Int) then s.mn + 1 else 1) else (-1, 0)
def wtOf (ws : List Wr) (s : St) (i k : Nat) (x : Int) : Int := if (!decide (k = i) && cntAt ws s.pl k) = true then x + 1 else 0
def aft (ws : List Wr) (w : Wr) (s : St) (i : Nat) (to : Int) : St :=
  ⟨s.pl.take i ++ [to] ++ s.pl.drop (i + 1), s.wt.mapIdx (wtOf ws s i), (runOf w s i).1, (runOf w s i).2⟩
def wtF (ws : List Wr) (s : St) (i : Nat) (d : D) : D := match d with
  | .tup [.int k, .int x] => .int (wtOf ws s i k.toNat x)
  | _ => .non
theorem wtF_list (ws : List Wr) (s : St) (i : Nat) (xs : List Int) : (pairs (xs.map D.int)).map (wtF ws s i) = (xs.mapIdx (wtOf ws s i)).map D.int := by
  apply List.ext_getElem?
  intro k
  unfold pairs
  rw [List.getElem?_map, List.getElem?_mapIdx, List.getElem?_map, List.getElem?_map, List.getElem?_mapIdx]
  cases xs[k]? <;> rfl
def sp_Company_behind : SpD := fun ds M Q _ => ∃ ws s, ∃ i : Nat, ∃ w, ∃ to : Int, ds = [coD ws, stD s, .int i, .int to] ∧ CrewOk ws ∧ ws[i]? = some w ∧ s.pl.length = ws.length ∧ s.wt.length = ws.length ∧ Q (stD (aft ws w s i to)) M
def t_Company_behind_1 : DS := (dRet (dTup (dCons (dVar 4) (dCons (dUn rTupleD (dVar 5)) (dCons (dVar 6) dNil)))))
def t_Company_behind : DS := (dSeq (dAsg (dVar 1) (.tup [(.name 7), (.name 8), (.tup [(.name 9), (.name 10)])]))
    (dSeq (dSet 4 (dBin rAddD (dBin rAddD (dSl (dVar 7) dNoPart (dPart (dVar 2))) (dTup (dCons (dVar 3) dNil))) (dSl (dVar 7) (dPart (dBin rAddD (dVar 2) (dC (.int 1)))) dNoPart)))
    (dSeq (dSet 5 (dLc (iEnumA (dCons (dVar 8) dNil)) (.tup [(.name 11), (.name 12)]) dYes (dIf (dAnd (dTest (dBin (rEqDD not) (dVar 11) (dVar 2))) (dTru (dMeth CCompany sp_Company_counts (dVar 0) (dCons (dVar 11) (dCons (dBin rIxD (dVar 7) (dVar 11)) dNil))))) (dBin rAddD (dVar 12) (dC (.int 1))) (dC (.int 0))) [11, 12]))
    (dSeq (dSet 6 (dC (.tup [(.int (-1)), (.int 0)])))
    (dSeq (dIfS (dTest (dBin rGtI (dBin rIxD (dBin rIxD (dFld CCompany 0 (dVar 0)) (dVar 2)) (dC (.int 3))) (dC (.int 0)))) (dSet 6 (dTup (dCons (dVar 2) (dCons (dIf (dTest (dBin (rEqDD id) (dVar 9) (dVar 2))) (dBin rAddD (dVar 10) (dC (.int 1))) (dC (.int 1))) dNil)))) dNext)
    t_Company_behind_1)))))
theorem ixN_at {n j : Nat} (hj : j < n) : ixN n (j : Int) = some j := by
  unfold ixN
  rw [if_pos (by omega), if_pos (by omega)]
  simp
theorem small_len {α β : Type} {xs : List α} {k : Nat} (f : α → β) (h : xs.length ≤ 3) : ((xs.map f).take k).length ≤ 3 := by
  rw [List.length_take, List.length_map]; omega
theorem r_Company_behind (ds : List D) (M : Mp) (Q : DK) (E : DX) (hl : ds.length = 4) (h : sp_Company_behind ds M Q E) : t_Company_behind { nx := fun _ M' => Q .non M', rt := Q } (startD ["self", "stand", "spot", "to", "later", "counted", "run", "places", "waits", "last", "many", "at", "wait"] ds) M := by
  obtain ⟨ws, s, i, w, to, rfl, hok, hw, hp, hwt, q⟩ := h
  have hfew := hok.few
  have hil : i < ws.length := (List.getElem?_eq_some_iff.mp hw).1
  walk_at "w"
  rw [cut_to]
  refine ⟨by have := small_len (k := i) D.int (xs := s.pl) (by omega); show _ + 1 ≤ _; rw [sizeLine_eq]; omega, ?_⟩
  walk_at "w"
  rw [cut_from1]
  refine ⟨by rw [sizeLine_eq, List.length_append, List.length_take, List.length_drop, List.length_map]; show min _ _ + 1 + _ ≤ _; omega, ?_⟩
  walk_at "w"
  refine lc_map (wtF ws s i) (fun x hx K1 K2 h1 => ?_) ?_
  · obtain ⟨k, hk⟩ := List.getElem?_of_mem hx
    obtain ⟨g, hg, rfl⟩ := pairs_at hk
    rw [List.getElem?_map] at hg
    obtain ⟨x, hx', rfl⟩ := Option.map_eq_some_iff.mp hg
    have hkl : k < ws.length := by have := (List.getElem?_eq_some_iff.mp hx').1; omega
    have hkw := List.getElem?_eq_getElem hkl
    have hkp : s.pl[k]? = some (s.pl[k]'(by omega)) := List.getElem?_eq_getElem (by omega)
    have hc0 : cntAt ws s.pl k = cnt ws[k] (s.pl[k]'(by omega)) := by unfold cntAt; rw [hkw, hkp]
    have h1' : K1 (.int (if (!decide (k = i) && cnt ws[k] (s.pl[k]'(by omega))) = true then x + 1 else 0)) M := by
      rw [← hc0]; exact h1
    walk_at "w"
    refine ⟨⟨rfl, rfl⟩, ?_⟩
    walk_at "w"
    refine brn_by (fun hc => ?_) fun hc => ?_
    · have hc' : (!eqD (.int (k : Int)) (.int (i : Int))) = true := hc
      rw [eqD_nat] at hc'
      rw [hc', Bool.true_and] at h1'
      walk_at "w"
      refine ⟨rfl, ?_⟩
      walk_at "w"
      rw [atI_map hkp]
      walk_at "w"
      refine ⟨ws, ws[k], k, _, rfl, hkw, hok.ok _ (List.getElem_mem hkl), ?_⟩
      walk_at "w"
      refine brn_by (fun hd => ?_) fun hd => ?_
      · rw [if_pos (show cnt ws[k] (s.pl[k]'(by omega)) = true from hd)] at h1'
        exact h1'
      · rw [if_neg (by rw [show cnt ws[k] (s.pl[k]'(by omega)) = false from hd]; exact Bool.false_ne_true)] at h1'
        exact h1'
    · have hc' : (!eqD (.int (k : Int)) (.int (i : Int))) = false := hc
      rw [eqD_nat] at hc'
      rw [hc', Bool.false_and, if_neg Bool.false_ne_true] at h1'
      exact h1'
  · rw [wtF_list]
    walk_at "w"
    refine ⟨rfl, ?_⟩
    walk_at "w"
    rw [atI_map hw]
    walk_at "w"
    have e1 : (s.pl.map D.int).take i ++ [D.int to] ++ (s.pl.map D.int).drop (i + 1) = (s.pl.take i ++ [to] ++ s.pl.drop (i + 1)).map D.int := by
      rw [List.map_append, List.map_append, List.map_take, List.map_drop]; rfl
    refine brn_by (fun hc => ?_) fun hc => ?_
    · have hcap : 0 < w.cap := of_decide_eq_true hc
      walk_at "w"
      refine ⟨⟨rfl, rfl⟩, ?_⟩
      walk_at "w"
      have fin : ∀ m : Int, (if s.la = (i : Int) then s.mn + 1 else 1) = m → Q (.tup [.tup ((s.pl.map D.int).take i ++ [D.int to] ++ (s.pl.map D.int).drop (i + 1)), .tup ((s.wt.mapIdx (wtOf ws s i)).map D.int), .tup [.int (i : Int), .int m]]) M := fun m hm => by
        rw [e1]
        have : stD (aft ws w s i to) = .tup [.tup ((s.pl.take i ++ [to] ++ s.pl.drop (i + 1)).map D.int), .tup ((s.wt.mapIdx (wtOf ws s i)).map D.int), .tup [.int (i : Int), .int m]] := by
          unfold aft stD runOf
          rw [if_pos hcap, hm]
        rw [this] at q
        exact q
      refine brn_by (fun hd => ?_) fun hd => ?_
      · have hd' : (s.la == (i : Int)) = true := hd
        exact fin _ (if_pos (eq_of_beq hd'))
      · have hd' : (s.la == (i : Int)) = false := hd
        exact fin _ (if_neg (fun e => by rw [e] at hd'; simp at hd'))
    · have hcap : ¬ 0 < w.cap := of_decide_eq_false hc
      walk_at "w"
      rw [e1]
      have : stD (aft ws w s i to) = .tup [.tup ((s.pl.take i ++ [to] ++ s.pl.drop (i + 1)).map D.int), .tup ((s.wt.mapIdx (wtOf ws s i)).map D.int), .tup [.int (-1), .int 0]] := by
        unfold aft stD runOf
        rw [if_neg hcap]
      rw [this] at q
      exact q
def sp_law_after : SpD := fun ds M Q _ => ∃ ws s, ∃ i : Nat, ∃ w, ∃ to : Int, ds = [.lst (ws.map wrD), stD s, .int i, .int to] ∧ CrewOk ws ∧ ws[i]? = some w ∧ StOk ws s ∧ Q (stD (aft ws w s i to)) M
def t_law_after : DS := (dSeq (dAsg (dVar 1) (.tup [(.name 7), (.name 8), (.name 9)]))
    (dSeq (dSet 4 (dLcM (iEnumA (dCons (dVar 8) dNil)) (.tup [(.name 10), (.name 11)]) dYes (dBin rAddD (dVar 11) (dUn rIntB (dCall sp_law_waits_count (dCons (dVar 0) (dCons (dVar 7) (dCons (dVar 10) dNil)))))) [10, 11]))
    (dSeq (dSetIx (dC (.int 0)) (dVar 4) (dVar 2))
    (dSeq (dSet 5 (dIf (dTest (dBin (rEqDD id) (dBin rIxD (dVar 9) (dC (.int 0))) (dVar 2))) (dBin rAddD (dBin rIxD (dVar 9) (dC (.int 1))) (dC (.int 1))) (dC (.int 1))))
    (dSeq (dSet 6 (dIf (dTest (dBin rGtI (dBin rIxD (dBin rIxD (dVar 0) (dVar 2)) (dC (.int 3))) (dC (.int 0)))) (dTup (dCons (dVar 2) (dCons (dVar 5) dNil))) (dTup (dCons (dUn rNegI (dC (.int 1))) (dCons (dC (.int 0)) dNil)))))
    (dFrzN 4 (dRet (dTup (dCons (dBin rAddD (dBin rAddD (dSl (dVar 7) dNoPart (dPart (dVar 2))) (dTup (dCons (dVar 3) dNil))) (dSl (dVar 7) (dPart (dBin rAddD (dVar 2) (dC (.int 1)))) dNoPart)) (dCons (dUn rTupleD (dVar 4)) (dCons (dVar 6) dNil)))))))))))
def wtG (ws : List Wr) (s : St) (k : Nat) (x : Int) : Int := x + (if cntAt ws s.pl k then 1 else 0)
def wtH (ws : List Wr) (s : St) (d : D) : D := match d with
  | .tup [.int k, .int x] => .int (wtG ws s k.toNat x)
  | _ => .non
theorem wtH_list (ws : List Wr) (s : St) (xs : List Int) : (pairs (xs.map D.int)).map (wtH ws s) = (xs.mapIdx (wtG ws s)).map D.int := by
  apply List.ext_getElem?
  intro k
  unfold pairs
  rw [List.getElem?_map, List.getElem?_mapIdx, List.getElem?_map, List.getElem?_map, List.getElem?_mapIdx]
  cases xs[k]? <;> rfl
theorem wt_same {ws : List Wr} {s : St} (h : StOk ws s) {i : Nat} (hi : i < ws.length) : ((s.wt.mapIdx (wtG ws s)).map D.int).set i (.int 0) = (s.wt.mapIdx (wtOf ws s i)).map D.int := by
  rw [← List.map_set]
  congr 1
  apply List.ext_getElem?
  intro k
  rw [List.getElem?_set]
  by_cases hk : i = k
  · subst hk
    rw [if_pos rfl, if_pos (by rw [List.length_mapIdx, h.wt]; exact hi), List.getElem?_mapIdx, List.getElem?_eq_getElem (by rw [h.wt]; exact hi)]
    show some 0 = some (wtOf ws s i i _)
    unfold wtOf
    rw [if_neg (by simp)]
  · rw [if_neg hk, List.getElem?_mapIdx, List.getElem?_mapIdx]
    cases hx : s.wt[k]? with
    | none => rfl
    | some x =>
      show some (wtG ws s k x) = some (wtOf ws s i k x)
      unfold wtG wtOf
      rw [decide_eq_false (fun e => hk e.symm), Bool.not_false, Bool.true_and]
      cases hc : cntAt ws s.pl k with
      | true => rfl
      | false => rw [h.no k x hx hc]; rfl
theorem r_law_after (ds : List D) (M : Mp) (Q : DK) (E : DX) (hl : ds.length = 4) (h : sp_law_after ds M Q E) : t_law_after { nx := fun _ M' => Q .non M', rt := Q } (startD ["_law_m", "_law_stand", "_law_spot", "_law_to", "_law_later", "_law_many", "_law_fresh", "_law_places", "_law_waits", "_law_run", "_law_at", "_law_wait"] ds) M := by
  obtain ⟨ws, s, i, w, to, rfl, hok, hw, hs, q⟩ := h
  have hfew := hok.few
  have hp := hs.pl
  have hwt := hs.wt
  have hil : i < ws.length := (List.getElem?_eq_some_iff.mp hw).1
  walk_at "w"
  refine lc_map (wtH ws s) (fun x hx K1 K2 h1 => ?_) ?_
  · obtain ⟨k, hk⟩ := List.getElem?_of_mem hx
    obtain ⟨g, hg, rfl⟩ := pairs_at hk
    rw [List.getElem?_map] at hg
    obtain ⟨x, hx', rfl⟩ := Option.map_eq_some_iff.mp hg
    have hkl : k < ws.length := by have := (List.getElem?_eq_some_iff.mp hx').1; omega
    have hkw := List.getElem?_eq_getElem hkl
    have hkp : s.pl[k]? = some (s.pl[k]'(by omega)) := List.getElem?_eq_getElem (by omega)
    have hc0 : cntAt ws s.pl k = cnt ws[k] (s.pl[k]'(by omega)) := by unfold cntAt; rw [hkw, hkp]
    have h1' : K1 (.int (x + (if cnt ws[k] (s.pl[k]'(by omega)) then 1 else 0))) M := by
      rw [← hc0]; exact h1
    walk_at "w"
    refine ⟨ws, ws[k], s.pl, k, _, rfl, hkw, hkp, ?_⟩
    exact h1'
  · rw [wtH_list]
    intro p hpn
    walk_at "w"
    rw [mupd_same]
    walk_at "w"
    rw [ixN_at (by rw [List.length_map, List.length_mapIdx, hwt]; exact hil)]
    walk_at "w"
    rw [wt_same hs hil, mupd_mupd]
    refine ⟨⟨rfl, rfl⟩, ?_⟩
    walk_at "w"
    have e1 : (s.pl.map D.int).take i ++ [D.int to] ++ (s.pl.map D.int).drop (i + 1) = (s.pl.take i ++ [to] ++ s.pl.drop (i + 1)).map D.int := by
      rw [List.map_append, List.map_append, List.map_take, List.map_drop]; rfl
    have fin : ∀ (m : Int) (r : D), (if 0 < w.cap then D.tup [.int (i : Int), .int m] else .tup [.int (-1), .int 0]) = r → (if s.la = (i : Int) then s.mn + 1 else 1) = m →
        (dFrzN 4 (dRet (dTup (dCons (dBin rAddD (dBin rAddD (dSl (dVar 7) dNoPart (dPart (dVar 2))) (dTup (dCons (dVar 3) dNil))) (dSl (dVar 7) (dPart (dBin rAddD (dVar 2) (dC (.int 1)))) dNoPart)) (dCons (dUn rTupleD (dVar 4)) (dCons (dVar 6) dNil)))))) { nx := fun _ M' => Q .non M', rt := Q }
          [some (.lst (ws.map wrD)), some (stD s), some (.int (i : Int)), some (.int to), some (.ref p), some (.int m), some r, some (.tup (s.pl.map D.int)), some (.tup (s.wt.map D.int)), some (.tup [.int s.la, .int s.mn]), none, none] (mupd M p (.lst ((s.wt.mapIdx (wtOf ws s i)).map D.int))) := fun m r hr hm => by
      walk_at "w"
      rw [mupd_same]
      walk_at "w"
      rw [mdel_mupd hpn, cut_to]
      refine ⟨by have := small_len (k := i) D.int (xs := s.pl) (by omega); show _ + 1 ≤ _; rw [sizeLine_eq]; omega, ?_⟩
      walk_at "w"
      rw [cut_from1]
      refine ⟨by rw [sizeLine_eq, List.length_append, List.length_take, List.length_drop, List.length_map]; show min _ _ + 1 + _ ≤ _; omega, ?_⟩
      rw [e1]
      have : stD (aft ws w s i to) = .tup [.tup ((s.pl.take i ++ [to] ++ s.pl.drop (i + 1)).map D.int), .tup ((s.wt.mapIdx (wtOf ws s i)).map D.int), r] := by
        unfold aft stD runOf
        rw [← hr, hm]
        by_cases hc : 0 < w.cap
        · rw [if_pos hc, if_pos hc]
        · rw [if_neg hc, if_neg hc]
      rw [this] at q
      exact q
    have nxt : ∀ m : Int, (if s.la = (i : Int) then s.mn + 1 else 1) = m →
        (dSeq (dSet 6 (dIf (dTest (dBin rGtI (dBin rIxD (dBin rIxD (dVar 0) (dVar 2)) (dC (.int 3))) (dC (.int 0)))) (dTup (dCons (dVar 2) (dCons (dVar 5) dNil))) (dTup (dCons (dUn rNegI (dC (.int 1))) (dCons (dC (.int 0)) dNil)))))
          (dFrzN 4 (dRet (dTup (dCons (dBin rAddD (dBin rAddD (dSl (dVar 7) dNoPart (dPart (dVar 2))) (dTup (dCons (dVar 3) dNil))) (dSl (dVar 7) (dPart (dBin rAddD (dVar 2) (dC (.int 1)))) dNoPart)) (dCons (dUn rTupleD (dVar 4)) (dCons (dVar 6) dNil))))))) { nx := fun _ M' => Q .non M', rt := Q }
          [some (.lst (ws.map wrD)), some (stD s), some (.int (i : Int)), some (.int to), some (.ref p), some (.int m), none, some (.tup (s.pl.map D.int)), some (.tup (s.wt.map D.int)), some (.tup [.int s.la, .int s.mn]), none, none] (mupd M p (.lst ((s.wt.mapIdx (wtOf ws s i)).map D.int))) := fun m hm => by
      walk_at "w"
      rw [atI_map hw]
      walk_at "w"
      refine brn_by (fun hc => ?_) fun hc => ?_
      · exact fin m _ (if_pos (of_decide_eq_true hc)) hm
      · exact fin m _ (if_neg (of_decide_eq_false hc)) hm
    refine brn_by (fun hd => ?_) fun hd => ?_
    · have hd' : (s.la == (i : Int)) = true := hd
      exact nxt _ (if_pos (eq_of_beq hd'))
    · have hd' : (s.la == (i : Int)) = false := hd
      exact nxt _ (if_neg (fun e => by rw [e] at hd'; simp at hd'))
theorem aft_ok {ws : List Wr} {w : Wr} {s : St} {i : Nat} (hs : StOk ws s) (hi : i < ws.length) (to : Int) : StOk ws (aft ws w s i to) := by
  have hp := hs.pl
  have hwt := hs.wt
  have hl : (s.pl.take i ++ [to] ++ s.pl.drop (i + 1)).length = ws.length := by
    rw [List.length_append, List.length_append, List.length_take, List.length_drop]
    show min _ _ + 1 + _ = _
    omega
  have hne : ∀ k, k ≠ i → (s.pl.take i ++ [to] ++ s.pl.drop (i + 1))[k]? = s.pl[k]? := fun k hk => by
    rw [List.append_assoc]
    by_cases h : k < i
    · rw [List.getElem?_append_left (by rw [List.length_take]; omega), List.getElem?_take, if_pos h]
    · rw [List.getElem?_append_right (by rw [List.length_take]; omega), List.length_take, Nat.min_eq_left (by omega)]
      obtain ⟨j, hj⟩ : ∃ j, k = i + 1 + j := ⟨k - i - 1, by omega⟩
      subst hj
      rw [show i + 1 + j - i = j + 1 by omega, List.singleton_append, List.getElem?_cons_succ, List.getElem?_drop]
  refine ⟨hl, by show (s.wt.mapIdx _).length = _; rw [List.length_mapIdx]; exact hwt, fun k x hx hc => ?_⟩
  have hx' : (s.wt.mapIdx (wtOf ws s i))[k]? = some x := hx
  rw [List.getElem?_mapIdx] at hx'
  obtain ⟨y, hy, rfl⟩ := Option.map_eq_some_iff.mp hx'
  unfold wtOf
  by_cases hk : k = i
  · rw [if_neg (by rw [decide_eq_true hk]; simp)]
  · have : cntAt ws s.pl k = false := by
      have hc' : cntAt ws (s.pl.take i ++ [to] ++ s.pl.drop (i + 1)) k = false := hc
      unfold cntAt at hc' ⊢
      rw [hne k hk] at hc'
      exact hc'
    rw [if_neg (by rw [this]; simp)]
end L3
set_option Elab.async false
set_option linter.all false
set_option maxRecDepth 100000
set_option maxHeartbeats 1000000
namespace L3
open PySem PySem.Spec PyProof.Rows L2
local macro_rules | `(tactic| walk_at "w") => `(tactic| conv => whnf)
theorem pairs_length (xs : List D) : (pairs xs).length = xs.length := by simp [pairs]
def stepD (ws : List Wr) (s : St) (i : Nat) (w : Wr) (a : Ar) : D := .tup [.str a.sg, natI i, stD (aft ws w s i a.to)]
def rawAt (ws : List Wr) (s : St) (i : Nat) : List D := match ws[i]?, s.pl[i]? with
  | some w, some p => if mayW ws s i then (arsAt w p).map (stepD ws s i w) else []
  | _, _ => []
def raw (ws : List Wr) (s : St) (n : Nat) : List D := (List.range n).flatMap (rawAt ws s)
theorem raw_succ (ws : List Wr) (s : St) (n : Nat) : raw ws s (n + 1) = raw ws s n ++ rawAt ws s n := by
  unfold raw
  rw [List.range_succ, List.flatMap_append]
  simp
/-- what a step is -/
structure IsStep (ws : List Wr) (s : St) (i : Nat) (w : Wr) (a : Ar) : Prop where
  wr : ws[i]? = some w
  ar : a ∈ w.ar
theorem rawAt_mem {ws : List Wr} {s : St} {i : Nat} {x : D} (h : x ∈ rawAt ws s i) : ∃ w a, IsStep ws s i w a ∧ x = stepD ws s i w a := by
  unfold rawAt at h
  split at h
  · rename_i w p hw hp
    split at h
    · obtain ⟨a, ha, rfl⟩ := List.mem_map.mp h
      exact ⟨w, a, ⟨hw, (List.mem_filter.mp ha).1⟩, rfl⟩
    · cases h
  · cases h
theorem raw_mem {ws : List Wr} {s : St} {n : Nat} {x : D} (h : x ∈ raw ws s n) : ∃ i w a, IsStep ws s i w a ∧ x = stepD ws s i w a := by
  obtain ⟨i, _, hi⟩ := List.mem_flatMap.mp h
  obtain ⟨w, a, h1, h2⟩ := rawAt_mem hi
  exact ⟨i, w, a, h1, h2⟩
theorem rawAt_len {ws : List Wr} (hok : CrewOk ws) (s : St) (i : Nat) : (rawAt ws s i).length ≤ 9 := by
  unfold rawAt
  split
  · rename_i w p hw hp
    split
    · rw [List.length_map]
      exact Nat.le_trans (List.length_filter_le _ _) (hok.ok w (List.mem_of_getElem? hw)).few
    · exact Nat.zero_le _
  · exact Nat.zero_le _
theorem raw_len {ws : List Wr} (hok : CrewOk ws) (s : St) (n : Nat) : (raw ws s n).length ≤ 9 * n := by
  induction n with
  | zero => exact Nat.le_refl _
  | succ n ih =>
    rw [raw_succ, List.length_append]
    have := rawAt_len hok s n
    omega
theorem pys_ints (xs : List Int) : D.pys (xs.map D.int) = xs.map PyData.int := by
  induction xs with
  | nil => rfl
  | cons x xs ih => simp [D.pys, D.py, ih]
theorem st_le (s : St) : D.le 3 (stD s) = true := by
  unfold stD
  have h1 : D.les 1 (s.pl.map D.int) = true := les_of fun d hd => by obtain ⟨x, _, rfl⟩ := List.mem_map.mp hd; rfl
  have h2 : D.les 1 (s.wt.map D.int) = true := les_of fun d hd => by obtain ⟨x, _, rfl⟩ := List.mem_map.mp hd; rfl
  simp only [D.le, D.les, h1, h2, Bool.and_true]
theorem step_le (ws : List Wr) (s : St) (i : Nat) (w : Wr) (a : Ar) : D.le 4 (stepD ws s i w a) = true := by
  unfold stepD natI
  simp only [D.le, D.les, st_le, Bool.and_true]
theorem st_alike (s t : St) : PySem.W.alike (stD s).py (stD t).py = true := by
  simp only [stD, D.py, D.pys, pys_ints, PySem.W.alike, PySem.W.alikeAll, PySem.W.alike_ints, Bool.and_true]
theorem step_alike (ws : List Wr) (s : St) (i : Nat) (w : Wr) (a : Ar) (j : Nat) (v : Wr) (b : Ar) : PySem.W.alike (stepD ws s i w a).py (stepD ws s j v b).py = true := by
  simp only [stepD, natI, D.py, D.pys, PySem.W.alike, PySem.W.alikeAll, st_alike, Bool.and_true]
theorem raw_srt (ws : List Wr) (s : St) (n : Nat) : D.les 50 (raw ws s n) = true ∧ SrtOk (raw ws s n) := by
  refine ⟨les_of fun d hd => ?_, fun d hd d' hd' => ?_, .inl fun d hd => ?_⟩
  · obtain ⟨i, w, a, _, rfl⟩ := raw_mem hd
    exact le_mono (by omega) (step_le ws s i w a)
  · obtain ⟨x, hx, rfl⟩ := List.mem_map.mp hd
    obtain ⟨y, hy, rfl⟩ := List.mem_map.mp hd'
    obtain ⟨i, w, a, _, rfl⟩ := raw_mem hx
    obtain ⟨j, v, b, _, rfl⟩ := raw_mem hy
    exact step_alike ws s i w a j v b
  · obtain ⟨x, hx, rfl⟩ := List.mem_map.mp hd
    obtain ⟨i, w, a, _, rfl⟩ := raw_mem hx
    exact ⟨_, _, rfl⟩
def nameAt (ws : List Wr) (k : Nat) : Str := match ws[k]? with
  | some w => w.name
  | none => Str.empty
def nmD (ws : List Wr) (d : D) : D := match d with
  | .tup [x, .int k, z] => .tup [x, .str (nameAt ws k.toNat), z]
  | _ => .non
/-- the steps, by sign, by the writers' order -/
def stepsD (ws : List Wr) (s : St) : List D := (sortD (raw ws s ws.length)).map (nmD ws)
theorem steps_mem {ws : List Wr} {s : St} {x : D} (h : x ∈ stepsD ws s) : ∃ i w a, IsStep ws s i w a ∧ x = .tup [.str a.sg, .str w.name, stD (aft ws w s i a.to)] := by
  obtain ⟨y, hy, rfl⟩ := List.mem_map.mp h
  obtain ⟨i, w, a, hs, rfl⟩ := raw_mem ((sortD_perm _).mem_iff.mp hy)
  refine ⟨i, w, a, hs, ?_⟩
  show D.tup [.str a.sg, .str (nameAt ws (i : Int).toNat), stD (aft ws w s i a.to)] = _
  rw [Int.toNat_natCast]
  unfold nameAt
  rw [hs.wr]
theorem steps_len {ws : List Wr} (hok : CrewOk ws) (s : St) : (stepsD ws s).length ≤ 27 := by
  unfold stepsD
  rw [List.length_map, (sortD_perm _).length_eq]
  have := raw_len hok s ws.length
  have := hok.few
  omega
def sp_Company_steps : SpD := fun ds M Q _ => ∃ ws s, ds = [coD ws, stD s] ∧ CrewOk ws ∧ s.pl.length = ws.length ∧ s.wt.length = ws.length ∧ ∀ p, M p = none → Q (.ref p) (mupd M p (.lst (stepsD ws s)))
def t_Company_steps_1 : DS := (dFrzN 2 (dRet (dLcM (iLst (dUn rSortD (dVar 2))) (.tup [(.name 5), (.name 3), (.name 7)]) dYes (dTup (dCons (dVar 5) (dCons (dBin rIxD (dBin rIxD (dFld CCompany 0 (dVar 0)) (dVar 3)) (dC (.int 0))) (dCons (dVar 7) dNil)))) [5, 3, 7])))
def t_Company_steps : DS := (dSeq (dSet 2 (dLstM dNil))
    (dSeq (dFor (iEnumA (dCons (dFld CCompany 0 (dVar 0)) dNil)) (.tup [(.name 3), (.name 4)]) (dIfS (dTru (dMeth CCompany sp_Company_may_write (dVar 0) (dCons (dVar 1) (dCons (dVar 3) dNil)))) (dFor (iItemsD (dCall sp_arrows_at (dCons (dVar 4) (dCons (dBin rIxD (dBin rIxD (dVar 1) (dC (.int 0))) (dVar 3)) dNil)))) (.tup [(.name 5), (.name 6)]) (dDrop (dAppend (dVar 2) (dTup (dCons (dVar 5) (dCons (dVar 3) (dCons (dMeth CCompany sp_Company_behind (dVar 0) (dCons (dVar 1) (dCons (dVar 3) (dCons (dVar 6) dNil)))) dNil))))))) dNext))
    t_Company_steps_1))
theorem items_at (as : List Ar) : List.zipWith (fun k d => D.tup [dKey k, d]) (as.map fun a => Sum.inr a.sg) ((as.map Ar.to).map D.int) = as.map atD := by
  induction as with
  | nil => rfl
  | cons a as ih => simp only [List.map_cons, List.zipWith_cons_cons, ih]; rfl
theorem r_Company_steps_1 (ws : List Wr) (s : St) (M : Mp) (Q : DK) (nx : DEnv → Mp → Prop) (e1 e3 e4 e5 e6 e7 : Option D) (p : Addr) (hp : M p = none) (q : ∀ p, M p = none → Q (.ref p) (mupd M p (.lst (stepsD ws s)))) :
    t_Company_steps_1 { nx := nx, rt := Q } [some (coD ws), e1, some (.ref p), e3, e4, e5, e6, e7] (mupd M p (.lst (raw ws s ws.length))) := by
  walk_at "w"
  rw [mupd_same]
  walk_at "w"
  rw [mdel_mupd hp]
  refine ⟨raw_srt ws s _, ?_⟩
  walk_at "w"
  refine lc_map (nmD ws) (fun x hx K1 K2 h1 => ?_) ?_
  · obtain ⟨i, w, a, hs, rfl⟩ := raw_mem ((sortD_perm _).mem_iff.mp hx)
    have h1' : K1 (.tup [.str a.sg, .str (nameAt ws (i : Int).toNat), stD (aft ws w s i a.to)]) M := h1
    rw [Int.toNat_natCast] at h1'
    unfold nameAt at h1'
    rw [hs.wr] at h1'
    walk_at "w"
    refine ⟨rfl, ?_⟩
    walk_at "w"
    rw [atI_map hs.wr]
    exact h1'
  · exact q
theorem r_Company_steps (ds : List D) (M : Mp) (Q : DK) (E : DX) (hl : ds.length = 2) (h : sp_Company_steps ds M Q E) : t_Company_steps { nx := fun _ M' => Q .non M', rt := Q } (startD ["self", "stand", "found", "spot", "writer", "sign", "to", "later"] ds) M := by
  obtain ⟨ws, s, rfl, hok, hp, hwt, q⟩ := h
  have hfew := hok.few
  walk_at "w"
  intro pa hpa
  walk_at "w"
  refine ⟨rfl, ?_⟩
  walk_at "w"
  refine for_inv (fun i env M' => M' = mupd M pa (.lst (raw ws s i)) ∧ ∃ e3 e4 e5 e6 e7, env = [some (coD ws), some (stD s), some (.ref pa), e3, e4, e5, e6, e7]) ⟨rfl, _, _, _, _, _, rfl⟩ (fun i x env M' K hx ⟨eM, e3, e4, e5, e6, e7, e1⟩ hK => ?_) fun env M' ⟨eM, e3, e4, e5, e6, e7, e1⟩ => ?_
  · subst eM e1
    obtain ⟨g, hg, rfl⟩ := pairs_at hx
    rw [List.getElem?_map] at hg
    obtain ⟨w, hw, rfl⟩ := Option.map_eq_some_iff.mp hg
    have hil : i < ws.length := (List.getElem?_eq_some_iff.mp hw).1
    have hip : s.pl[i]? = some (s.pl[i]'(by omega)) := List.getElem?_eq_getElem (by omega)
    have hwk := hok.ok w (List.mem_of_getElem? hw)
    have hra : rawAt ws s i = if mayW ws s i then (arsAt w (s.pl[i]'(by omega))).map (stepD ws s i w) else [] := by
      unfold rawAt; rw [hw, hip]
    have hlen := raw_len hok s i
    walk_at "w"
    refine ⟨rfl, ws, s, i, w, rfl, hok, hw, hp, hwt, ?_⟩
    walk_at "w"
    refine brn_by (fun hc => ?_) fun hc => ?_
    · rw [show mayW ws s i = true from hc, if_pos rfl] at hra
      walk_at "w"
      rw [atI_map hip]
      walk_at "w"
      refine ⟨w, _, rfl, hwk.up, ?_⟩
      walk_at "w"
      rw [show (fun (ks : List L2.Key) (ds : List D) => List.zipWith (fun k d => D.tup [dKey k, d]) ks ds) ((arsAt w (s.pl[i]'(by omega))).map fun a => Sum.inr a.sg) ((arTo w (s.pl[i]'(by omega))).map D.int) = (arsAt w (s.pl[i]'(by omega))).map atD from items_at _]
      have hal : (arsAt w (s.pl[i]'(by omega))).length ≤ 9 := Nat.le_trans (List.length_filter_le _ _) hwk.few
      refine for_inv (fun j env M' => M' = mupd M pa (.lst (raw ws s i ++ ((arsAt w (s.pl[i]'(by omega))).take j).map (stepD ws s i w))) ∧ ∃ e5 e6 e7, env = [some (coD ws), some (stD s), some (.ref pa), some (.int (i : Int)), some (wrD w), e5, e6, e7]) ⟨by simp, _, _, _, rfl⟩ (fun j y env M' K2 hy ⟨eM, e5, e6, e7, e1⟩ hK2 => ?_) fun env M' ⟨eM, e5, e6, e7, e1⟩ => ?_
      · subst eM e1
        rw [List.getElem?_map] at hy
        obtain ⟨a, ha, rfl⟩ := Option.map_eq_some_iff.mp hy
        walk_at "w"
        refine ⟨?_, ?_⟩
        · walk_at "w"
          rw [mupd_same]
          trivial
        walk_at "w"
        refine ⟨rfl, ws, s, i, w, a.to, rfl, hok, hw, hp, hwt, ?_⟩
        walk_at "w"
        rw [mupd_same]
        refine ⟨?_, ?_⟩
        · rw [sizeLine_eq, List.length_append, List.length_map, List.length_take]; omega
        refine hK2 _ _ ⟨?_, _, _, _, rfl⟩
        rw [mupd_mupd, List.take_add_one, ha, List.map_append, ← List.append_assoc]; rfl
      · subst eM e1
        rw [List.length_map, List.take_length]
        refine hK _ _ ⟨?_, _, _, _, _, _, rfl⟩
        rw [raw_succ, hra]
    · rw [show mayW ws s i = false from hc, if_neg Bool.false_ne_true] at hra
      refine hK _ _ ⟨?_, _, _, _, _, _, rfl⟩
      rw [raw_succ, hra, List.append_nil]
  · subst eM e1
    rw [pairs_length, List.length_map]
    exact r_Company_steps_1 ws s M Q _ _ _ _ _ _ _ pa hpa q
def sp_law_steps : SpD := fun ds M Q _ => ∃ ws s, ds = [.lst (ws.map wrD), stD s] ∧ CrewOk ws ∧ StOk ws s ∧ Q (.lst (stepsD ws s)) M
def t_law_steps_1 : DS := (dRet (dLc (iLst (dUn rSortD (dVar 2))) (.tup [(.name 5), (.name 3), (.name 6)]) dYes (dTup (dCons (dVar 5) (dCons (dBin rIxD (dBin rIxD (dVar 0) (dVar 3)) (dC (.int 0))) (dCons (dVar 6) dNil)))) [5, 3, 6]))
def t_law_steps : DS := (dSeq (dSet 2 (dLst dNil))
    (dSeq (dFor (iRange1 (dCons (dUn rLenD (dVar 0)) dNil)) (.name 3) (dIfS (dTru (dCall sp_law_can (dCons (dVar 0) (dCons (dVar 1) (dCons (dVar 3) dNil))))) (dSeq (dSet 4 (dCall sp_law_arrows (dCons (dBin rIxD (dVar 0) (dVar 3)) (dCons (dBin rIxD (dBin rIxD (dVar 1) (dC (.int 0))) (dVar 3)) dNil))))
    (dSet 2 (dBin rAddD (dVar 2) (dLc (iLst (dVar 4)) (.tup [(.name 5), (.name 7)]) dYes (dTup (dCons (dVar 5) (dCons (dVar 3) (dCons (dCall sp_law_after (dCons (dVar 0) (dCons (dVar 1) (dCons (dVar 3) (dCons (dVar 7) dNil))))) dNil)))) [5, 7])))) dNext))
    t_law_steps_1))
theorem r_law_steps_1 (ws : List Wr) (s : St) (M : Mp) (Q : DK) (nx : DEnv → Mp → Prop) (e1 e3 e4 e5 e6 e7 : Option D) (q : Q (.lst (stepsD ws s)) M) :
    t_law_steps_1 { nx := nx, rt := Q } [some (.lst (ws.map wrD)), e1, some (.lst (raw ws s ws.length)), e3, e4, e5, e6, e7] M := by
  walk_at "w"
  refine ⟨raw_srt ws s _, ?_⟩
  walk_at "w"
  refine lc_map (nmD ws) (fun x hx K1 K2 h1 => ?_) ?_
  · obtain ⟨i, w, a, hs, rfl⟩ := raw_mem ((sortD_perm _).mem_iff.mp hx)
    have h1' : K1 (.tup [.str a.sg, .str (nameAt ws (i : Int).toNat), stD (aft ws w s i a.to)]) M := h1
    rw [Int.toNat_natCast] at h1'
    unfold nameAt at h1'
    rw [hs.wr] at h1'
    walk_at "w"
    rw [atI_map hs.wr]
    exact h1'
  · exact q
def lawF (ws : List Wr) (s : St) (i : Nat) (w : Wr) (d : D) : D := match d with
  | .tup [x, .int to] => .tup [x, natI i, stD (aft ws w s i to)]
  | _ => .non
theorem r_law_steps (ds : List D) (M : Mp) (Q : DK) (E : DX) (hl : ds.length = 2) (h : sp_law_steps ds M Q E) : t_law_steps { nx := fun _ M' => Q .non M', rt := Q } (startD ["_law_m", "_law_stand", "_law_found", "_law_spot", "_law_some", "_law_sign", "_law_later", "_law_to"] ds) M := by
  obtain ⟨ws, s, rfl, hok, hs, q⟩ := h
  have hfew := hok.few
  have hp := hs.pl
  walk_at "w"
  rw [List.length_map]
  refine ⟨⟨by omega, by omega⟩, ?_⟩
  rw [Int.toNat_natCast, rng0]
  walk_at "w"
  refine for_inv (fun i env M' => M' = M ∧ ∃ e3 e4 e5 e6 e7, env = [some (.lst (ws.map wrD)), some (stD s), some (.lst (raw ws s i)), e3, e4, e5, e6, e7]) ⟨rfl, _, _, _, _, _, rfl⟩ (fun i x env M' K hx ⟨eM, e3, e4, e5, e6, e7, e1⟩ hK => ?_) fun env M' ⟨eM, e3, e4, e5, e6, e7, e1⟩ => ?_
  · subst eM e1
    rw [List.getElem?_map] at hx
    obtain ⟨k, hk, rfl⟩ := Option.map_eq_some_iff.mp hx
    obtain ⟨hkl, rfl⟩ : i < ws.length ∧ k = i := by
      obtain ⟨h1, h2⟩ := List.getElem?_eq_some_iff.mp hk
      rw [List.length_range] at h1
      rw [List.getElem_range] at h2
      exact ⟨h1, h2.symm⟩
    have hw : ws[k]? = some ws[k] := List.getElem?_eq_getElem hkl
    have hip : s.pl[k]? = some (s.pl[k]'(by omega)) := List.getElem?_eq_getElem (by omega)
    have hwk := hok.ok _ (List.getElem_mem hkl)
    have hra : rawAt ws s k = if mayW ws s k then (arsAt ws[k] (s.pl[k]'(by omega))).map (stepD ws s k ws[k]) else [] := by
      unfold rawAt; rw [hw, hip]
    have hlen := raw_len hok s k
    walk_at "w"
    refine ⟨ws, s, k, ws[k], rfl, hok, hw, hp, hs.wt, ?_⟩
    walk_at "w"
    refine brn_by (fun hc => ?_) fun hc => ?_
    · rw [show mayW ws s k = true from hc, if_pos rfl] at hra
      walk_at "w"
      rw [atI_map hw]
      walk_at "w"
      rw [atI_map hip]
      walk_at "w"
      refine ⟨ws[k], _, rfl, ?_⟩
      walk_at "w"
      refine lc_map (lawF ws s k ws[k]) (fun x hx K1 K2 h1 => ?_) ?_
      · obtain ⟨a, ha, rfl⟩ := List.mem_map.mp hx
        walk_at "w"
        refine ⟨ws, s, k, ws[k], a.to, rfl, hok, hw, hs, ?_⟩
        exact h1
      · have e : ((arsAt ws[k] (s.pl[k]'(by omega))).map atD).map (lawF ws s k ws[k]) = rawAt ws s k := by
          rw [hra, List.map_map]; rfl
        rw [e]
        have hr9 := rawAt_len hok s k
        walk_at "w"
        refine ⟨by rw [sizeLine_eq]; omega, ?_⟩
        have e2 := raw_succ ws s k
        refine hK _ _ ⟨rfl, some (natI k), some (.lst ((arsAt ws[k] (s.pl[k]'(by omega))).map atD)), e5, e6, e7, ?_⟩
        rw [e2]
        rfl
    · rw [show mayW ws s k = false from hc, if_neg Bool.false_ne_true] at hra
      refine hK _ _ ⟨rfl, some (natI k), e4, e5, e6, e7, ?_⟩
      rw [raw_succ, hra, List.append_nil]
      rfl
  · subst eM e1
    rw [List.length_map, List.length_range]
    exact r_law_steps_1 ws s _ Q _ _ _ _ _ _ _ q
end L3
set_option Elab.async false
set_option linter.all false
set_option maxRecDepth 100000
set_option maxHeartbeats 1000000
namespace L3
open PySem PySem.Spec PyProof.Rows L2
local macro_rules | `(tactic| walk_at "w") => `(tactic| conv => whnf)
def RunOk (n : Nat) (s : St) : Prop := (s.la = -1 ∧ s.mn = 0) ∨ ∃ i : Nat, i < n ∧ s.la = i
theorem run0 (n m : Nat) : RunOk n (st0 m) := .inl ⟨rfl, rfl⟩
theorem run_aft {ws : List Wr} {w : Wr} {s : St} {i n : Nat} (hi : i < n) (to : Int) : RunOk n (aft ws w s i to) := by
  by_cases hc : 0 < w.cap
  · refine .inr ⟨i, hi, ?_⟩
    show (runOf w s i).1 = _
    unfold runOf
    rw [if_pos hc]
  · refine .inl ⟨?_, ?_⟩
    · show (runOf w s i).1 = _
      unfold runOf
      rw [if_neg hc]
    · show (runOf w s i).2 = _
      unfold runOf
      rw [if_neg hc]
def spotOf (xs : List D) (d : D) : Int := match xs.findIdx? fun z => eqD z d with
  | some j => (j : Int)
  | none => -1
def spotsOf (one other : List Wr) : List Int := other.map fun w => spotOf (one.map wrD) (wrD w)
/-- what a row of numbers becomes -/
def keepAt (xs : List Int) (k : Int) : Int := if 0 ≤ k then (xs[k.toNat]?).getD 0 else 0
def carry (one other : List Wr) (s : St) : St :=
  let sp := spotsOf one other
  let r : Int × Int := if 0 ≤ s.la then (match (sp.map D.int).findIdx? fun z => eqD z (.int s.la) with
    | some j => ((j : Int), s.mn)
    | none => (-1, 0)) else (-1, 0)
  ⟨sp.map (keepAt s.pl), sp.map (keepAt s.wt), r.1, r.2⟩
end L3
set_option Elab.async false
set_option linter.all false
set_option maxRecDepth 100000
set_option maxHeartbeats 1000000
namespace L3
open PySem PySem.Spec PyProof.Rows L2 NS
/-- what a turn of a clause does behind its tests -/
abbrev Part := Value → Env → Sem Unit
/-- what stands behind the tests, from which Nx is reached -/
abbrev TB := L2.St → Hp → (Hp → Prop) → Prop
section
variable {Y : Cx} {D : Addr} {e : Expr} {k : Nat} {c : Comprehension} {part : Part} {g : TG} {tt : TT} {tb : TB} {vs vb : List Nat}
theorem FpOk.of {pins : List (Addr × Obj)} {H H' : Hp} {b : Addr} (f : FpOk Y pins H b) (h : H' b = none) : FpOk Y pins H' b := ⟨h, f.2⟩
end
end L3
set_option Elab.async false
set_option linter.all false
set_option maxRecDepth 100000
set_option maxHeartbeats 1000000
namespace L3
open PySem PySem.Spec PyProof.Rows L2 NS
/-- what stands behind a clause's tests: the things gathered so far, and what follows -/
abbrev DC := DEnv → List D → Mp → (List D → Mp → Prop) → Prop
/-- what the new thing shows for what was gathered -/
abbrev RA := Hp → List D → HO → Prop
section
variable {Y : Cx} {A : Addr} {e elt : Expr} {k : Nat} {c : Comprehension} {part : Part} {t : Tg} {tt : DT} {b : DC} {vs vb : List Nat} {w : DI} {ra : RA} {te : DE}
open Classical in
/-- one gathered more, if it is new -/
@[irreducible] noncomputable def insD (acc : List D) (y : D) : List D := if y ∈ acc then acc else acc ++ [y]
theorem insD_mem {acc : List D} {y z : D} : z ∈ insD acc y ↔ z ∈ acc ∨ z = y := by
  unfold insD
  split
  · exact ⟨.inl, fun h => h.elim id fun e => e ▸ (by assumption)⟩
  · simp
theorem insD_nodup {acc : List D} {y : D} (h : acc.Nodup) : (insD acc y).Nodup := by
  unfold insD
  split
  · exact h
  · rename_i hn
    rw [List.nodup_append]
    exact ⟨h, by simp, fun a ha b hb e => hn (by rw [List.mem_singleton.mp hb] at e; exact e ▸ ha)⟩
end
end L3
set_option Elab.async false
set_option linter.all false
set_option maxRecDepth 100000
set_option maxHeartbeats 1000000
namespace L3
open PySem PySem.Spec PyProof.Rows L2 NS
theorem isKeyB_nk {d : D} (h : isKeyB d = true) : D.nkb 8 d = true := by
  cases d <;> first | exact h | cases h
theorem key_refB {K : PySem.W.Frag} {F : Hp} {y : D} {v : V} (r : Rep K F y v) (h : isKeyB y = true) : ∃ a, v = .ref a := by
  cases y with
  | tup ds => obtain ⟨a, xs, e, _⟩ := r; exact ⟨a, e⟩
  | _ => cases h
mutual
theorem nk_nkb : ∀ {n : Nat} {d : D}, D.nk n d = true → D.nkb n d = true
  | n, .tup ds, h => by
    cases n with
    | zero => simp [D.nk] at h
    | succ n => simpa [D.nkb] using nks_nkbs (show D.nks n ds = true by simpa [D.nk] using h)
  | n, .non, _ => by cases n <;> simp [D.nkb]
  | n, .int _, _ => by cases n <;> simp [D.nkb]
  | n, .str _, _ => by cases n <;> simp [D.nkb]
  | n, .bl _, _ => by cases n <;> simp [D.nkb]
  | n, .ty _, h => by cases n <;> simp [D.nk] at h
  | n, .ref _, h => by cases n <;> simp [D.nk] at h
  | n, .lst _, h => by cases n <;> simp [D.nk] at h
  | n, .lsk _, h => by cases n <;> simp [D.nk] at h
  | n, .dct _ _, h => by cases n <;> simp [D.nk] at h
  | n, .obj _ _, h => by cases n <;> simp [D.nk] at h
  | n, .dkd _ _ _, h => by cases n <;> simp [D.nk] at h
  | n, .exc _ _ _ _, h => by cases n <;> simp [D.nk] at h
  | n, .fn _ _ _, h => by cases n <;> simp [D.nk] at h
theorem nks_nkbs : ∀ {n : Nat} {ds : List D}, D.nks n ds = true → D.nkbs n ds = true
  | _, [], _ => rfl
  | n, d :: ds, h => by
    simp only [D.nks, Bool.and_eq_true] at h
    simp only [D.nkbs, Bool.and_eq_true]
    exact ⟨nk_nkb h.1, nks_nkbs h.2⟩
end
theorem isKeyB_of {d : D} (h : isKey d = true) : isKeyB d = true := by
  cases d with
  | tup ds => exact nk_nkb (show D.nk 8 (.tup ds) = true from h)
  | _ => cases h
abbrev XRow := NestedKey × Addr × Value
def RowX (r : DRow) (x : XRow) : Prop := x.1 = keyN r.2.1 ∧ x.2.1 = r.1 ∧ RelV r.2.2 x.2.2
theorem rows_x {w : World} : ∀ {Ls : List DRow} {es : List DictEntry}, Paired (RowIs w) Ls es → ∃ xs : List XRow, Paired RowX Ls xs ∧ es = xs.map fun x => ⟨x.1.hash w, .ref x.2.1, x.2.2⟩
  | _, _, .nil => ⟨[], .nil, rfl⟩
  | r :: Ls, e :: es, .cons ⟨h1, h2, h3⟩ t => by
    obtain ⟨xs, p, q⟩ := rows_x t
    obtain ⟨a, b, c⟩ := e
    simp only at h1 h2 h3
    subst h1 h2
    exact ⟨(keyN r.2.1, r.1, c) :: xs, .cons ⟨rfl, rfl, h3⟩ p, by rw [List.map_cons, ← q]⟩
theorem x_rows {w : World} : ∀ {Ls : List DRow} {xs : List XRow}, Paired RowX Ls xs → Paired (RowIs w) Ls (xs.map fun x => (⟨x.1.hash w, .ref x.2.1, x.2.2⟩ : DictEntry))
  | _, _, .nil => .nil
  | _, _, .cons ⟨h1, h2, h3⟩ t => .cons ⟨congrArg (NestedKey.hash w) h1, congrArg Value.ref h2, h3⟩ (x_rows t)
theorem x_keys : ∀ {Ls : List DRow} {xs : List XRow}, Paired RowX Ls xs → xs.map (·.1) = Ls.map fun r => keyN r.2.1
  | _, _, .nil => rfl
  | _, _, .cons ⟨h1, _, _⟩ t => by rw [List.map_cons, List.map_cons, h1, x_keys t]
theorem x_mem : ∀ {Ls : List DRow} {xs : List XRow}, Paired RowX Ls xs → ∀ x ∈ xs, ∃ r ∈ Ls, RowX r x
  | _, _, .nil, _, h => nomatch h
  | _, _, .cons (a := r) h t, x, hx => by
    rcases List.mem_cons.mp hx with rfl | hx
    · exact ⟨r, List.mem_cons_self, h⟩
    · obtain ⟨q, hq, z⟩ := x_mem t x hx
      exact ⟨q, List.mem_cons_of_mem _ hq, z⟩
def sameK (a b : D) : Bool := decide (keyN a = keyN b)
/-- a row put -/
def putRow (Ls : List DRow) (p : Addr) (y : D) (v : V) : List DRow := if (Ls.any fun r => sameK r.2.1 y) = true then Ls.map fun r => if sameK r.2.1 y = true then (r.1, r.2.1, v) else r else Ls ++ [(p, y, v)]
theorem x_find {y : D} : ∀ {Ls : List DRow} {xs : List XRow}, Paired RowX Ls xs → (atKey xs (keyN y)).isSome = Ls.any fun r => sameK r.2.1 y
  | _, _, .nil => rfl
  | _, _, .cons (a := r) (b := x) (l₂ := xs) ⟨h1, _, _⟩ t => by
    have ih := x_find (y := y) t
    unfold atKey sameK at *
    rw [List.find?_cons, List.any_cons, h1]
    by_cases c : keyN r.2.1 = keyN y
    · simp [c]
    · simpa [c] using ih
theorem x_put {p : Addr} {y : D} {v : V} {u : Value} (hv : RelV v u) {Ls : List DRow} {xs : List XRow} (P : Paired RowX Ls xs) : Paired RowX (putRow Ls p y v) (storedH xs (keyN y) p u) := by
  unfold putRow storedH
  rw [x_find P]
  by_cases c : (Ls.any fun r => sameK r.2.1 y) = true
  · rw [if_pos c, if_pos c]
    clear c
    induction P with
    | nil => exact .nil
    | @cons r x l1 l2 h t ih =>
      obtain ⟨h1, h2, h3⟩ := h
      refine .cons ?_ ih
      show RowX (if sameK r.2.1 y = true then (r.1, r.2.1, v) else r) (putAt (keyN y) u x)
      unfold putAt sameK
      by_cases c : keyN r.2.1 = keyN y
      · rw [if_pos (by simpa using c), if_pos (h1.trans c)]; exact ⟨h1, h2, hv⟩
      · rw [if_neg (by simpa using c), if_neg (by rw [h1]; exact c)]; exact ⟨h1, h2, h3⟩
  · rw [if_neg c, if_neg c]
    exact P.snoc ⟨rfl, rfl, hv⟩
theorem putRow_keys {Ls : List DRow} {p : Addr} {y : D} {v : V} : (putRow Ls p y v).map (·.2.1) = if (Ls.any fun r => sameK r.2.1 y) = true then Ls.map (·.2.1) else Ls.map (·.2.1) ++ [y] := by
  unfold putRow
  split
  · rw [List.map_map]; refine List.map_congr_left fun r _ => ?_; show (if _ then _ else _ : DRow).2.1 = _; split <;> rfl
  · simp
theorem putRow_len {Ls : List DRow} {p : Addr} {y : D} {v : V} : (putRow Ls p y v).length ≤ Ls.length + 1 := by
  unfold putRow; split <;> simp
theorem putRow_mem {Ls : List DRow} {p : Addr} {y : D} {v : V} : ∀ r ∈ putRow Ls p y v, (∃ q ∈ Ls, q.1 = r.1 ∧ q.2.1 = r.2.1) ∨ (r.1 = p ∧ r.2.1 = y) := by
  intro r hr
  unfold putRow at hr
  split at hr
  · obtain ⟨q, hq, e⟩ := List.mem_map.mp hr
    refine .inl ⟨q, hq, ?_⟩
    split at e <;> subst e <;> exact ⟨rfl, rfl⟩
  · rcases List.mem_append.mp hr with h | h
    · exact .inl ⟨r, h, rfl, rfl⟩
    · rw [List.mem_singleton.mp h]; exact .inr ⟨rfl, rfl⟩
/-- the dict as the kit tells it -/
theorem dk_kit {P : Program} {w : World} {h : Heap} {a : Addr} {Ls : List DRow} (D : DkAt w a Ls h) (keys : ∀ r ∈ Ls, Kat h (keyN r.2.1) r.1) : ∃ xs : List XRow, Paired RowX Ls xs ∧ h.DictOfH (nestedKind P w) a xs := by
  obtain ⟨⟨_, _, _, nd⟩, o, es, ep, ho, hc, hd, rows⟩ := D
  obtain ⟨xs, px, ex⟩ := rows_x rows
  refine ⟨xs, px, o, es, ep, ho, hc, hd, ex, fun x hx => ?_, by rw [x_keys px]; exact nd⟩
  obtain ⟨r, hr, e1, e2, _⟩ := x_mem px x hx
  have k := keys r hr
  exact ⟨by rw [e1, e2]; exact k.is, by rw [e1]; exact k.dp⟩
theorem kit_dk {P : Program} {w : World} {h : Heap} {a : Addr} {Ls : List DRow} {xs : List XRow} (D : h.DictOfH (nestedKind P w) a xs) (px : Paired RowX Ls xs) (hs : (a == sysModules) = false) (len : Ls.length ≤ sizeLine) (hk : ∀ r ∈ Ls, isKeyB r.2.1 = true) : DkAt w a Ls h := by
  obtain ⟨o, es, ep, ho, hc, hd, ex, _, nd⟩ := D
  refine ⟨⟨hs, len, hk, by rw [← x_keys px]; exact nd⟩, o, es, ep, ho, hc, hd, ?_⟩
  have e : es.toList = xs.map fun x => (⟨x.1.hash w, .ref x.2.1, x.2.2⟩ : DictEntry) := ex
  rw [e]; exact x_rows px
theorem dk_new {P : Program} {w : World} {H : Hp} {h : Heap} {a : Addr} {Ls : List DRow} (D : DkAt w a Ls h) : ObjOk P w H h a (DkO w a Ls) := by
  obtain ⟨_, o, _, _, ho, _⟩ := id D
  exact ⟨D, ⟨o, ho⟩, fun h1 h2 ⟨z, o, es, ep, ho, q⟩ k => ⟨z, o, es, ep, k o ho, q⟩⟩
section
variable {X : Cx} {pins : List (Addr × Obj)} {σ : L2.St} {H : Hp} {s : Shared} {F : Hp}
theorem keys_at (I : Inv X pins σ H s) (sm : Same F H) {Ls : List DRow} (hk : ∀ r ∈ Ls, Rep X.K F r.2.1 (.ref r.1) ∧ isKeyB r.2.1 = true) : ∀ r ∈ Ls, Kat s.heap (keyN r.2.1) r.1 := fun r hr => by
  obtain ⟨n1, _, n2, _⟩ := nkb_at I sm (hk r hr).1 (u := .ref r.1) rfl (isKeyB_nk (hk r hr).2)
  exact ⟨n1, n2⟩
end
section
variable {X : Cx} {e : Expr} {te to ti : DE} {pos tpos p : Pos} {o i : Expr}
def rSetDk (K : PySem.W.Frag) (w : World) : V → V → V → Hp → (Hp → Prop) → Prop := fun o i v H Q => ∃ a Ls p y F, o = .ref a ∧ i = .ref p ∧ H a = some (DkO w a Ls) ∧ Same F H ∧ Rep K F y (.ref p) ∧ isKeyB y = true ∧ (∀ r ∈ Ls, Rep K F r.2.1 (.ref r.1)) ∧ Ls.length < sizeLine ∧ Q (upd H a (DkO w a (putRow Ls p y v)))
theorem set_dk (hu : X.A.units + 65 < cLine) : PSet X (rSetDk X.K X.w) := by
  intro pins s σ H o i v ov iv u Q I ro ri rv ⟨a, Ls, p, y, F, eo, ei, ha, sm, ry, ky, rk, few, q⟩
  subst eo ei
  cases (show ov = Value.ref a from ro)
  cases (show iv = Value.ref p from ri)
  have D := (I.hok a _ ha).1
  have D0 : DkAt X.w a Ls s.heap := D
  obtain ⟨⟨hs, _, hk, _⟩, _⟩ := id D0
  obtain ⟨xs, px, kd⟩ := dk_kit (P := X.prog) D0 (keys_at I sm fun r hr => ⟨rk r hr, hk r hr⟩)
  obtain ⟨n1, _, n2, _⟩ := nkb_at I sm ry (u := .ref p) rfl (isKeyB_nk ky)
  refine wpAny_setItem_heap (knd := nestedKind X.prog X.w) (k := keyN y) (hsz := by rw [← px.length]; exact Nat.le_of_lt few) (show X.A.in1.units + 8 < cLine from by show X.A.units + 1 + 8 < cLine; omega) ⟨n1, n2⟩ kd fun h' kd' sb => ?_
  have new : DkAt X.w a (putRow Ls p y v) h' := kit_dk kd' (x_put rv px) hs (by have := putRow_len (Ls := Ls) (p := p) (y := y) (v := v); omega) fun r hr => by
    rcases putRow_mem r hr with ⟨q, hq, _, e⟩ | ⟨_, e⟩
    · rw [← e]; exact hk q hq
    · rw [e]; exact ky
  have ex : ∃ u, h'.get? a = some u := let ⟨_, o, _, _, ho, _⟩ := new; ⟨o, ho⟩
  exact ⟨_, I.write (x := a) (e := a) (by rw [ha]; trivial) (.inl rfl) (fun b u hb hu => (sb.2 b hb).trans hu) ex (dk_new new), q⟩
def addD (ks : List D) (j : D) : List D := if (ks.any fun k => sameK k j) = true then ks else ks ++ [j]
def setD (ks ds : List D) (j e : D) : List D := if (ks.any fun k => sameK k j) = true then List.zipWith (fun k d => if sameK k j = true then e else d) ks ds else ds ++ [e]
theorem rows_put {K : PySem.W.Frag} {F : Hp} {Ls : List DRow} {ks ds : List D} {p : Addr} {y d : D} {v : V} (hk : ks = Ls.map (·.2.1)) (r1 : Reps K F ks (Ls.map fun r => .ref r.1)) (r2 : Reps K F ds (Ls.map (·.2.2))) (ry : Rep K F y (.ref p)) (rd : Rep K F d v) :
    addD ks y = (putRow Ls p y v).map (·.2.1) ∧ Reps K F (addD ks y) ((putRow Ls p y v).map fun r => .ref r.1) ∧ Reps K F (setD ks ds y d) ((putRow Ls p y v).map (·.2.2)) := by
  subst hk
  have any_eq : ((Ls.map (·.2.1)).any fun k => sameK k y) = Ls.any fun r => sameK r.2.1 y := by rw [List.any_map]; rfl
  refine ⟨by unfold addD; rw [any_eq, putRow_keys], ?_, ?_⟩
  · unfold addD putRow
    rw [any_eq]
    split
    · have : (List.map (fun r => if sameK r.2.1 y = true then (r.1, r.2.1, v) else r) Ls).map (fun r => V.ref r.1) = Ls.map fun r => .ref r.1 := by
        rw [List.map_map]; refine List.map_congr_left fun r _ => ?_; show V.ref (if _ then _ else _ : DRow).1 = _; split <;> rfl
      rw [this]; exact r1
    · rw [List.map_append]; exact r1.append (Reps.one ry)
  · unfold setD putRow
    rw [any_eq]
    split
    · clear any_eq r1
      rename_i c
      clear c
      induction Ls generalizing ds with
      | nil => cases ds with
        | nil => exact rfl
        | cons _ _ => obtain ⟨_, _, z, _⟩ := r2; cases z
      | cons r Ls ih =>
        cases ds with
        | nil => cases r2
        | cons d' ds =>
          obtain ⟨x, rr, z, h1, h2⟩ := r2
          rw [List.map_cons, List.cons.injEq] at z
          obtain ⟨rfl, rfl⟩ := z
          refine ⟨_, _, rfl, ?_, ih h2⟩
          show Rep K F (if sameK r.2.1 y = true then d else d') (if sameK r.2.1 y = true then (r.1, r.2.1, v) else r : DRow).2.2
          by_cases c : sameK r.2.1 y = true
          · rw [if_pos c, if_pos c]; exact rd
          · rw [if_neg c, if_neg c]; exact h1
    · rw [List.map_append]; exact r2.append (Reps.one rd)
def mDk (w : World) (M : Mp) (o i v : D) (k : Mp → Prop) : Prop := match o with
  | .ref q => match M q with
    | some (.dkd w' ks ds) => (w' = w ∧ isKeyB i = true ∧ ks.length < sizeLine) ∧ k (mupd M q (.dkd w' (addD ks i) (setD ks ds i v)))
    | _ => False
  | _ => False
def dSetDk (w : World) (te to ti : DE) : DS := fun D env M => te env M fun v M1 => to env M1 fun o M2 => ti env M2 fun i M3 => mDk w M3 o i v fun M4 => D.nx env M4
theorem reps_all {K : PySem.W.Frag} {F : Hp} : ∀ {Ls : List DRow}, Reps K F (Ls.map (·.2.1)) (Ls.map fun r => .ref r.1) → ∀ r ∈ Ls, Rep K F r.2.1 (.ref r.1)
  | [], _, r, hr => nomatch hr
  | q :: Ls, ⟨x, rr, z, h1, h2⟩, r, hr => by
    rw [List.map_cons, List.cons.injEq] at z
    obtain ⟨rfl, rfl⟩ := z
    rcases List.mem_cons.mp hr with rfl | hr
    · exact h1
    · exact reps_all h2 r hr
theorem pds_setDk {kk : Nat} (hr : Room kk X.A) (he : PDE X e te) (ho : PDE X o to) (hi : PDE X i ti)
    (ha : ∀ v, assign (.Subscript o i tpos) X.env v = (do
      let ov ← holding [v] (eval o X.env)
      let iv ← holding [v, ov] (eval i X.env)
      standAt tpos
      holding [v, ov, iv] (setItem ov iv v)
      release [v, ov, iv] []) := by intro _; rfl)
    (hs : swapsWithSole [.Subscript o i tpos] e pos.line X.env = pure false := by rfl) (hw : swappedStores [.Subscript o i tpos] e X.env = pure none := by rfl)
    (h1 : (assignEach [.Subscript o i tpos] X.env).map (·.2) = [assign (.Subscript o i tpos) X.env] := by rfl) : PDS X (.Assign [.Subscript o i tpos] e pos) (dSetDk X.w te to ti) :=
  ps_imp (ps_asg he (pg_sub ho hi (set_dk (by have := hr.un; omega)) ha) hs hw h1) fun D σ H ⟨R, F, env, M, Dd, a, e, h, k⟩ => ⟨R, F, env, M, _, a, e, h, fun F1 H1 M1 d v s1 a1 r1 q1 =>
    ⟨R, F1, env, M1, _, a1, e.mono s1, q1, fun F2 H2 M2 d2 v2 s2 a2 r2 q2 => ⟨R, F2, env, M2, _, a2, (e.mono s1).mono s2, q2, fun F3 H3 M3 d3 v3 s3 a3 r3 q3 => by
      unfold mDk at q3
      split at q3
      · rename_i q
        cases (show v2 = V.ref q from r2)
        split at q3
        · rename_i w' ks ds hm
          obtain ⟨⟨rfl, ky, few⟩, q3⟩ := q3
          obtain ⟨_, u, hu, Ls, rfl, hk, rk, rx⟩ := a3.mu _ _ hm
          obtain ⟨pp, rfl⟩ := key_refB r3 ky
          obtain ⟨z1, z2, z3⟩ := rows_put (p := pp) hk rk rx r3 (r1.mono (s2.trans s3))
          refine ⟨q, Ls, pp, d3, F3, rfl, rfl, hu, a3.fz, r3, ky, reps_all (by rw [← hk]; exact rk), by rw [hk, List.length_map] at few; exact few, ?_⟩
          exact k.nx F3 _ _ env σ ((s1.trans s2).trans s3) (a3.wrote hm (o := .dkd X.w (addD ks d3) (setD ks ds d3 d)) ⟨_, rfl, z1, z2, z3⟩) (((e.mono s1).mono s2).mono s3) q3
        · exact q3.elim
      · exact q3.elim⟩⟩⟩
def DkRd (w : World) (H : Hp) (a : Addr) (Ls : List DRow) : Prop := H a = some (DkO w a Ls) ∨ ∃ o, H a = some (.frz o (DkO w a Ls))
theorem DkRd.at {pins : List (Addr × Obj)} {σ : L2.St} {H : Hp} {s : Shared} {a : Addr} {Ls : List DRow} (I : Inv X pins σ H s) (h : DkRd X.w H a Ls) : DkAt X.w a Ls s.heap := by
  rcases h with h | ⟨o, h⟩
  · exact (I.hok a _ h).1
  · exact (I.hok a _ h).2.1
def mDkd (w : World) (M : Mp) (d : D) (k : List D → List D → Prop) : Prop := match d with
  | .dkd w' ks ds => w' = w ∧ k ks ds
  | .ref q => match M q with
    | some (.dkd w' ks ds) => w' = w ∧ k ks ds
    | _ => False
  | _ => False
theorem mDkd_at {K : PySem.W.Frag} {R F : Hp} {M : Mp} {H : Hp} {d : D} {v : V} {w : World} {k : List D → List D → Prop} (a : At K R F M H) (r : Rep K F d v) (h : mDkd w M d k) :
    ∃ p Ls ds, v = .ref p ∧ DkRd w H p Ls ∧ Reps K F (Ls.map (·.2.1)) (Ls.map fun r => .ref r.1) ∧ Reps K F ds (Ls.map (·.2.2)) ∧ k (Ls.map (·.2.1)) ds := by
  unfold mDkd at h
  split at h
  · obtain ⟨rfl, h⟩ := h
    obtain ⟨p, o, Ls, rfl, hq, rfl, r1, r2⟩ := r
    exact ⟨p, Ls, _, rfl, .inr ⟨o, a.fz _ _ hq⟩, r1, r2, h⟩
  · rename_i q
    cases (show v = V.ref q from r)
    split at h
    · rename_i hm
      obtain ⟨rfl, h⟩ := h
      obtain ⟨_, u, hu, Ls, rfl, rfl, r1, r2⟩ := a.mu _ _ hm
      exact ⟨q, Ls, _, rfl, .inl hu, r1, r2, h⟩
    · exact h.elim
  · exact h.elim
end
end L3
set_option Elab.async false
set_option linter.all false
set_option maxRecDepth 100000
set_option maxHeartbeats 1000000
namespace L3
open PySem PySem.Spec PyProof.Rows L2
local macro_rules | `(tactic| walk_at "w") => `(tactic| conv => whnf)
theorem _root_.L2.Room.set {k : Nat} {A : Around} (hr : L2.Room k A) : A.units + 65 < cLine := by have := hr.un; omega
noncomputable def gath (acc xs : List D) : List D := xs.foldl insD acc
theorem nodup_len {α : Type} : ∀ (l D : List α), l.Nodup → (∀ x ∈ l, x ∈ D) → l.length ≤ D.length
  | [], _, _, _ => Nat.zero_le _
  | x :: l, D, hn, hs => by
    obtain ⟨h1, h2⟩ := List.nodup_cons.mp hn
    obtain ⟨s, t, e⟩ := List.append_of_mem (hs x List.mem_cons_self)
    subst e
    have := nodup_len l (s ++ t) h2 fun y hy => by
      have := hs y (List.mem_cons_of_mem _ hy)
      simp only [List.mem_append, List.mem_cons] at this ⊢
      rcases this with h | h | h
      · exact .inl h
      · exact absurd (h ▸ hy) h1
      · exact .inr h
    simp only [List.length_append, List.length_cons] at this ⊢
    omega
theorem isKey_st (s : St) : isKey (stD s) = true := by
  have h : ∀ xs : List Int, D.nks 7 (xs.map D.int) = true := fun xs => nks_of fun d hd => by obtain ⟨x, _, rfl⟩ := List.mem_map.mp hd; rfl
  show D.nk 8 (stD s) = true
  simp only [stD, D.nk, D.nks, Bool.and_true, Bool.and_eq_true]
  have h6 : ∀ xs : List Int, D.nks 6 (xs.map D.int) = true := fun xs => nks_of fun d hd => by obtain ⟨x, _, rfl⟩ := List.mem_map.mp hd; rfl
  exact ⟨h6 _, h6 _⟩
theorem isKeyB_st (s : St) : isKeyB (stD s) = true := isKeyB_of (isKey_st s)
def toI : D → Int
  | .int i => i
  | _ => 0
def deSt : D → St
  | .tup [.tup p, .tup w, .tup [a, b]] => ⟨p.map toI, w.map toI, toI a, toI b⟩
  | _ => ⟨[], [], 0, 0⟩
theorem toI_ints (xs : List Int) : (xs.map D.int).map toI = xs := by
  rw [List.map_map]; exact List.map_id' xs
theorem deSt_st (s : St) : deSt (stD s) = s := by
  show (⟨(s.pl.map D.int).map toI, (s.wt.map D.int).map toI, s.la, s.mn⟩ : St) = s
  rw [toI_ints, toI_ints]
def ins (xs : List Int) (lo hi : Int) : Prop := ∀ x ∈ xs, lo ≤ x ∧ x ≤ hi
structure Good (ws : List Wr) (s : St) : Prop where
  ok : StOk ws s
  pl : ins s.pl 0 2
  wt : ins s.wt 0 3
  run : ∀ (i : Nat) (w : Wr), ws[i]? = some w → s.la = (i : Int) → 0 ≤ s.mn ∧ s.mn ≤ w.cap
  la : RunOk ws.length s
theorem good0 (ws : List Wr) : Good ws (st0 ws.length) where
  ok := st0_ok ws
  pl := fun x hx => by rw [(List.mem_replicate.mp hx).2]; decide
  wt := fun x hx => by rw [(List.mem_replicate.mp hx).2]; decide
  run := fun i w _ h => by have : (-1 : Int) = (i : Int) := h; omega
  la := run0 _ _
def vecs (xs : List Int) : Nat → List (List Int)
  | 0 => [[]]
  | n + 1 => (vecs xs n).flatMap fun v => xs.map fun x => x :: v
theorem vecs_mem {xs : List Int} : ∀ {n : Nat} {v : List Int}, v.length = n → (∀ x ∈ v, x ∈ xs) → v ∈ vecs xs n
  | 0, v, h, _ => by rw [List.eq_nil_of_length_eq_zero h]; exact List.mem_singleton.mpr rfl
  | n + 1, [], h, _ => by simp at h
  | n + 1, x :: v, h, m => List.mem_flatMap.mpr ⟨v, vecs_mem (by simpa using h) (fun y hy => m y (List.mem_cons_of_mem _ hy)), List.mem_map.mpr ⟨x, m x List.mem_cons_self, rfl⟩⟩
theorem flat_len {α β : Type} (f : α → List β) (k : Nat) : ∀ xs : List α, (∀ x ∈ xs, (f x).length ≤ k) → (xs.flatMap f).length ≤ xs.length * k
  | [], _ => by simp
  | x :: xs, h => by
    rw [List.flatMap_cons, List.length_append, List.length_cons, Nat.add_mul]
    have := h x List.mem_cons_self
    have := flat_len f k xs fun y hy => h y (List.mem_cons_of_mem _ hy)
    omega
theorem vecs_len (xs : List Int) : ∀ n, (vecs xs n).length ≤ xs.length ^ n
  | 0 => by simp [vecs]
  | n + 1 => by
    have h1 := flat_len (fun v => xs.map fun x => x :: v) xs.length (vecs xs n) fun v _ => by simp
    rw [Nat.pow_succ]
    exact Nat.le_trans h1 (Nat.mul_le_mul_right _ (vecs_len xs n))
def runsOf (w : Wr) (i : Nat) : List (Int × Int) := if 0 < w.cap then [((i : Int), 1), ((i : Int), 2), ((i : Int), 3)] else [(-1, 0)]
/-- the stands behind a step of the writer at i -/
def behindAll (ws : List Wr) (i : Nat) : List D := match ws[i]? with
  | some w => (vecs [0, 1, 2] ws.length).flatMap fun p => (vecs [0, 1, 2, 3] (ws.length - 1)).flatMap fun v => (runsOf w i).map fun r => stD ⟨p, v.take i ++ 0 :: v.drop i, r.1, r.2⟩
  | none => []
def world (ws : List Wr) : List D := (List.range ws.length).flatMap (behindAll ws)
theorem world_len {ws : List Wr} (h : ws.length ≤ 3) : (world ws).length ≤ 3888 := by
  have h1 : ∀ i, (behindAll ws i).length ≤ 27 * (16 * 3) := fun i => by
    unfold behindAll
    split
    · rename_i w _
      refine Nat.le_trans (flat_len _ (16 * 3) _ fun p _ => Nat.le_trans (flat_len _ 3 _ fun v _ => ?_) ?_) ?_
      · rw [List.length_map]; unfold runsOf; split <;> simp
      · refine Nat.mul_le_mul_right _ (Nat.le_trans (vecs_len _ _) ?_)
        show 4 ^ (ws.length - 1) ≤ 4 ^ 2
        exact Nat.pow_le_pow_right (by decide) (by omega)
      · refine Nat.mul_le_mul_right _ (Nat.le_trans (vecs_len _ _) ?_)
        show 3 ^ ws.length ≤ 3 ^ 3
        exact Nat.pow_le_pow_right (by decide) h
    · exact Nat.zero_le _
  have h2 := flat_len (behindAll ws) (27 * (16 * 3)) (List.range ws.length) fun i _ => h1 i
  rw [List.length_range] at h2
  unfold world
  have : ws.length * (27 * (16 * 3)) ≤ 3 * (27 * (16 * 3)) := Nat.mul_le_mul_right _ h
  omega
theorem few_in {ws : List Wr} (h : ws.length ≤ 3) {xs : List D} (hn : xs.Nodup) (hw : ∀ d ∈ xs, d ∈ world ws) : xs.length ≤ 3888 := Nat.le_trans (nodup_len _ _ hn hw) (world_len h)
structure IsStep2 (ws : List Wr) (s : St) (i : Nat) (w : Wr) (a : Ar) : Prop extends IsStep ws s i w a where
  may : mayW ws s i = true
theorem steps_mem2 {ws : List Wr} {s : St} {x : D} (h : x ∈ stepsD ws s) : ∃ i w a, IsStep2 ws s i w a ∧ x = .tup [.str a.sg, .str w.name, stD (aft ws w s i a.to)] := by
  obtain ⟨y, hy, rfl⟩ := List.mem_map.mp h
  obtain ⟨i, _, hi⟩ := List.mem_flatMap.mp ((sortD_perm _).mem_iff.mp hy)
  unfold rawAt at hi
  split at hi
  · rename_i w p hw hp
    split at hi
    · rename_i hm
      obtain ⟨a, ha, rfl⟩ := List.mem_map.mp hi
      refine ⟨i, w, a, ⟨⟨hw, (List.mem_filter.mp ha).1⟩, hm⟩, ?_⟩
      show D.tup [.str a.sg, .str (nameAt ws (i : Int).toNat), stD (aft ws w s i a.to)] = _
      rw [Int.toNat_natCast]
      unfold nameAt
      rw [hw]
    · cases hi
  · cases hi
theorem in3 {x : Int} (h : 0 ≤ x ∧ x ≤ 2) : x ∈ [(0 : Int), 1, 2] := by
  have : x = 0 ∨ x = 1 ∨ x = 2 := by omega
  rcases this with rfl | rfl | rfl <;> decide
theorem in4 {x : Int} (h : 0 ≤ x ∧ x ≤ 3) : x ∈ [(0 : Int), 1, 2, 3] := by
  have : x = 0 ∨ x = 1 ∨ x = 2 ∨ x = 3 := by omega
  rcases this with rfl | rfl | rfl | rfl <;> decide
theorem good_step {ws : List Wr} (hok : CrewOk ws) {s : St} (g : Good ws s) {i : Nat} {w : Wr} {a : Ar} (h : IsStep2 ws s i w a) : Good ws (aft ws w s i a.to) ∧ stD (aft ws w s i a.to) ∈ world ws := by
  have hw := h.wr
  have hi : i < ws.length := (List.getElem?_eq_some_iff.mp hw).1
  have wok := hok.ok w (List.mem_of_getElem? hw)
  have aok := wok.ar a h.ar
  have may := h.may
  rw [mayW_at hw, Bool.and_eq_true] at may
  obtain ⟨m1, m2⟩ := may
  have ok2 := aft_ok g.ok hi (w := w) a.to
  have pl2 : ins (aft ws w s i a.to).pl 0 2 := fun x hx => by
    rcases List.mem_append.mp (show x ∈ s.pl.take i ++ [a.to] ++ s.pl.drop (i + 1) from hx) with hx | hx
    · rcases List.mem_append.mp hx with hx | hx
      · exact g.pl x (List.mem_of_mem_take hx)
      · rw [List.mem_singleton.mp hx]; exact ⟨aok.to0, aok.to1⟩
    · exact g.pl x (List.mem_of_mem_drop hx)
  have wt_at : ∀ k x, (aft ws w s i a.to).wt[k]? = some x → (0 ≤ x ∧ x ≤ 3) ∧ (k = i → x = 0) := fun k x hx => by
    have hx' : (s.wt.mapIdx (wtOf ws s i))[k]? = some x := hx
    rw [List.getElem?_mapIdx] at hx'
    obtain ⟨y, hy, rfl⟩ := Option.map_eq_some_iff.mp hx'
    have hyw := g.wt y (List.mem_of_getElem? hy)
    unfold wtOf
    by_cases c : (!decide (k = i) && cntAt ws s.pl k) = true
    · rw [if_pos c]
      simp only [Bool.and_eq_true, Bool.not_eq_true', decide_eq_false_iff_not] at c
      have kl : k < ws.length := by have := (List.getElem?_eq_some_iff.mp hy).1; rw [g.ok.wt] at this; exact this
      have ko : k ∈ oth ws s i := List.mem_filter.mpr ⟨List.mem_range.mpr kl, by simp [c.1, c.2]⟩
      have z := List.all_eq_true.mp m2 k ko
      unfold wtOk at z
      rw [hy, List.getElem?_eq_getElem kl] at z
      have pk := (hok.ok ws[k] (List.getElem_mem kl)).pat1
      have z2 : y < ws[k].pat := of_decide_eq_true z
      exact ⟨⟨by omega, by omega⟩, fun e => absurd e c.1⟩
    · rw [if_neg c]; exact ⟨by decide, fun _ => rfl⟩
  have runs : ((aft ws w s i a.to).la, (aft ws w s i a.to).mn) ∈ runsOf w i ∧ ∀ (j : Nat) (u : Wr), ws[j]? = some u → (aft ws w s i a.to).la = (j : Int) → 0 ≤ (aft ws w s i a.to).mn ∧ (aft ws w s i a.to).mn ≤ u.cap := by
    show ((runOf w s i).1, (runOf w s i).2) ∈ runsOf w i ∧ ∀ (j : Nat) (u : Wr), ws[j]? = some u → (runOf w s i).1 = (j : Int) → 0 ≤ (runOf w s i).2 ∧ (runOf w s i).2 ≤ u.cap
    unfold runOf runsOf
    by_cases c : 0 < w.cap
    · rw [if_pos c, if_pos c]
      have c1 := wok.cap1
      have bound : 1 ≤ (if s.la = (i : Int) then s.mn + 1 else 1) ∧ (if s.la = (i : Int) then s.mn + 1 else 1) ≤ w.cap := by
        by_cases e : s.la = (i : Int)
        · rw [if_pos e]
          obtain ⟨r1, r2⟩ := g.run i w hw e
          have ne : s.mn ≠ w.cap := fun z => by
            unfold capped at m1
            rw [e, z] at m1
            simp [c] at m1
          omega
        · rw [if_neg e]; omega
      refine ⟨?_, fun j u hu e => ?_⟩
      · dsimp only
        generalize (if s.la = (i : Int) then s.mn + 1 else 1) = m at bound
        have : m = 1 ∨ m = 2 ∨ m = 3 := by omega
        rcases this with rfl | rfl | rfl <;> simp
      · have ej : i = j := by have : (i : Int) = (j : Int) := e; omega
        subst ej
        rw [hw] at hu; cases hu
        exact ⟨by have := bound.1; show (0 : Int) ≤ (if _ then _ else _); omega, bound.2⟩
    · rw [if_neg c, if_neg c]
      refine ⟨by simp, fun j u _ e => ?_⟩
      have : (-1 : Int) = (j : Int) := e
      omega
  refine ⟨⟨ok2, pl2, fun x hx => ?_, runs.2, run_aft hi a.to⟩, ?_⟩
  · obtain ⟨k, hk⟩ := List.mem_iff_getElem?.mp hx
    exact (wt_at k x hk).1
  · generalize aft ws w s i a.to = t at ok2 pl2 wt_at runs
    obtain ⟨p, v, la, mn⟩ := t
    have lp : p.length = ws.length := ok2.pl
    have lv : v.length = ws.length := ok2.wt
    have wt_at : ∀ k x, v[k]? = some x → (0 ≤ x ∧ x ≤ 3) ∧ (k = i → x = 0) := wt_at
    have v0 : v = v.take i ++ 0 :: v.drop (i + 1) := by
      have e := List.getElem?_eq_getElem (show i < v.length by omega)
      have z := (wt_at i _ e).2 rfl
      conv => lhs; rw [← List.take_append_drop i v, List.drop_eq_getElem_cons (show i < v.length by omega), z]
    refine List.mem_flatMap.mpr ⟨i, List.mem_range.mpr hi, ?_⟩
    unfold behindAll
    rw [hw]
    refine List.mem_flatMap.mpr ⟨p, vecs_mem lp fun x hx => in3 (pl2 x hx), List.mem_flatMap.mpr ⟨v.take i ++ v.drop (i + 1), vecs_mem (by rw [List.length_append, List.length_take, List.length_drop]; omega) (fun x hx => ?_), List.mem_map.mpr ⟨(la, mn), runs.1, ?_⟩⟩⟩
    · have : x ∈ v := by
        rcases List.mem_append.mp hx with h | h
        · exact List.mem_of_mem_take h
        · exact List.mem_of_mem_drop h
      obtain ⟨k, hk⟩ := List.mem_iff_getElem?.mp this
      exact in4 (wt_at k x hk).1
    · have lt : (v.take i).length = i := by rw [List.length_take]; omega
      dsimp only
      rw [List.take_left' lt, List.drop_left' lt, ← v0]
def latersOf (sg : Str) (x : D) : Option D := match x with
  | .tup [.str z, _, l] => if z = sg then some l else none
  | _ => none
def laters (sg : Str) (xs : List D) : List D := xs.filterMap (latersOf sg)
def nexts (ws : List Wr) (sg : Str) (lot : List St) : List D := lot.flatMap fun s => laters sg (stepsD ws s)
noncomputable def ledD (ws : List Wr) (sg : Str) (lot : List St) : List D := sortD (gath [] (nexts ws sg lot))
noncomputable def led (ws : List Wr) (sg : Str) (lot : List St) : List St := (ledD ws sg lot).map deSt
/-- what is gathered on the way -/
structure OnWay (ws : List Wr) (acc : List D) : Prop where
  nd : acc.Nodup
  st : ∀ d ∈ acc, (∃ s, d = stD s ∧ Good ws s) ∧ d ∈ world ws
theorem OnWay.few {ws : List Wr} (hok : CrewOk ws) {acc : List D} (h : OnWay ws acc) : acc.length ≤ 3888 := few_in hok.few h.nd fun d hd => (h.st d hd).2
theorem OnWay.add {ws : List Wr} (hok : CrewOk ws) {acc : List D} (h : OnWay ws acc) {s : St} (g : Good ws s) {i : Nat} {w : Wr} {a : Ar} (hs : IsStep2 ws s i w a) : OnWay ws (insD acc (stD (aft ws w s i a.to))) where
  nd := insD_nodup h.nd
  st := fun d hd => by
    rcases insD_mem.mp hd with hd | rfl
    · exact h.st d hd
    · obtain ⟨z1, z2⟩ := good_step hok g hs
      exact ⟨⟨_, rfl, z1⟩, z2⟩
theorem OnWay.nil (ws : List Wr) : OnWay ws [] := ⟨List.nodup_nil, fun d hd => nomatch hd⟩
end L3
set_option Elab.async false
set_option linter.all false
set_option maxRecDepth 100000
set_option maxHeartbeats 1000000
namespace L3
open PySem PySem.Spec PyProof.Rows L2
local macro_rules | `(tactic| walk_at "w") => `(tactic| conv => whnf)
theorem beq_str {a b : Str} : (a == b) = decide (a = b) := by
  by_cases c : a = b
  · subst c; simp
  · simp [c]
end L3
set_option Elab.async false
set_option linter.all false
set_option maxRecDepth 100000
set_option maxHeartbeats 1000000
namespace L3
open PySem PySem.Spec PyProof.Rows L2
local macro_rules | `(tactic| walk_at "w") => `(tactic| conv => whnf)
end L3
set_option Elab.async false
set_option linter.all false
set_option maxRecDepth 100000
set_option maxHeartbeats 1000000
namespace L3
open PySem PySem.Spec PyProof.Rows L2
mutual
/-- all that stands within an own thing is frozen with it -/
inductive Thaw : Mp → D → D → Mp → Prop where
  | keep (M : Mp) (d : D) : Thaw M d d M
  | lst {M M' : Mp} {q : Addr} {ds ds' : List D} : M q = some (.lst ds) → Thaws (mdel M q) ds ds' M' → Thaw M (.ref q) (.lst ds') M'
  | ins {M M' : Mp} {q : Addr} {c : Cl} {ds ds' : List D} : M q = some (.ins c ds) → Thaws (mdel M q) ds ds' M' → Thaw M (.ref q) (.obj c ds') M'
  | tup {M M' : Mp} {ds ds' : List D} : Thaws M ds ds' M' → Thaw M (.tup ds) (.tup ds') M'
inductive Thaws : Mp → List D → List D → Mp → Prop where
  | nil (M : Mp) : Thaws M [] [] M
  | cons {M M1 M2 : Mp} {d d' : D} {ds ds' : List D} : Thaw M d d' M1 → Thaws M1 ds ds' M2 → Thaws M (d :: ds) (d' :: ds') M2
end
section
variable {K : PySem.W.Frag} {R H : Hp}
mutual
theorem thaws_len : ∀ {M M' : Mp} {ds ds' : List D}, Thaws M ds ds' M' → ds'.length = ds.length
  | _, _, _, _, .nil _ => rfl
  | _, _, _, _, .cons _ t => by rw [List.length_cons, List.length_cons, thaws_len t]
end
mutual
theorem thaw_ok : ∀ {M M' : Mp} {d d' : D}, Thaw M d d' M' → ∀ {F : Hp} {v : V}, At K R F M H → Rep K F d v → ∃ F', Same F F' ∧ At K R F' M' H ∧ Rep K F' d' v
  | _, _, _, _, .keep M d, F, v, a, r => ⟨F, Same.refl F, a, r⟩
  | _, _, _, _, .lst (q := q) (ds' := ds') hm t, F, v, a, r => by
    cases (show v = V.ref q from r)
    obtain ⟨u, ru, a2, s2⟩ := a.freeze hm
    obtain ⟨xs, rfl, rx⟩ := ru
    obtain ⟨F', s3, a3, r3⟩ := thaws_ok t a2 (rx.mono s2)
    exact ⟨F', s2.trans s3, a3, q, xs, rfl, s3 _ _ upd_same, r3⟩
  | _, _, _, _, .ins (q := q) (ds' := ds') hm t, F, v, a, r => by
    cases (show v = V.ref q from r)
    obtain ⟨u, ru, a2, s2⟩ := a.freeze hm
    obtain ⟨dx, xs, rfl, l, rx⟩ := ru
    obtain ⟨F', s3, a3, r3⟩ := thaws_ok t a2 (rx.mono s2)
    exact ⟨F', s2.trans s3, a3, q, dx, xs, rfl, s3 _ _ upd_same, by rw [thaws_len t]; exact l, r3⟩
  | _, _, _, _, .tup (ds' := ds') t, F, v, a, r => by
    obtain ⟨b, xs, e, q, rx⟩ := r
    obtain ⟨F', s3, a3, r3⟩ := thaws_ok t a rx
    exact ⟨F', s3, a3, b, xs, e, Same.seqT s3 q, r3⟩
theorem thaws_ok : ∀ {M M' : Mp} {ds ds' : List D}, Thaws M ds ds' M' → ∀ {F : Hp} {vs : List V}, At K R F M H → Reps K F ds vs → ∃ F', Same F F' ∧ At K R F' M' H ∧ Reps K F' ds' vs
  | _, _, _, _, .nil M, F, vs, a, r => ⟨F, Same.refl F, a, r⟩
  | _, _, _, _, .cons t1 t2, F, vs, a, ⟨x, rr, e, r1, r2⟩ => by
    subst e
    obtain ⟨F1, s1, a1, q1⟩ := thaw_ok t1 a r1
    obtain ⟨F2, s2, a2, q2⟩ := thaws_ok t2 a1 (r2.mono s1)
    exact ⟨F2, s1.trans s2, a2, x, rr, rfl, q1.mono s2, q2⟩
end
end
end L3
set_option Elab.async false
set_option linter.all false
set_option maxRecDepth 100000
set_option maxHeartbeats 1000000
set_option Elab.async false
set_option linter.all false
set_option maxRecDepth 100000
set_option maxHeartbeats 1000000
namespace L3
open PySem PySem.Spec PyProof.Rows L2
local macro_rules | `(tactic| walk_at "w") => `(tactic| conv => whnf)
def turn : List (List Wr) → St → St
  | a :: b :: cs, s => turn (b :: cs) (carry a b s)
  | _, s => s
def lastOf (cs : List (List Wr)) : List Wr := (cs.getLast?).getD []
end L3
set_option Elab.async false
set_option linter.all false
set_option maxRecDepth 100000
set_option maxHeartbeats 1000000
namespace L3
open PySem PySem.Spec PyProof.Rows L2
local macro_rules | `(tactic| walk_at "w") => `(tactic| conv => whnf)
/-- a confession: the sign, the name, whether so -/
structure Tk where
  at_ : Int
  name : Str
  so : Bool
structure Sc where
  row : List Str
  crews : List (List (List Wr))
  talk : List Tk
theorem atI_last {α β : Type} {f : α → β} {xs : List α} {x : α} (h : xs.getLast? = some x) : atI (xs.map f) (-1) = some (f x) := by
  rw [List.getLast?_eq_getElem?] at h
  have hl := (List.getElem?_eq_some_iff.mp h).1
  unfold atI ixN
  rw [if_neg (by decide), if_pos (by rw [List.length_map]; omega)]
  show (xs.map f)[((-1 : Int) + ((xs.map f).length : Int)).toNat]? = _
  rw [List.length_map, show ((-1 : Int) + (xs.length : Int)).toNat = xs.length - 1 by omega, List.getElem?_map, h]
  rfl
theorem last_of {cs : List (List Wr)} (h : cs ≠ []) : cs.getLast? = some (lastOf cs) := by
  unfold lastOf
  cases e : cs.getLast? with
  | none => rw [List.getLast?_eq_none_iff] at e; exact absurd e h
  | some c => rfl
def firstOf (sc : Sc) : St := match sc.crews with
  | (a :: cs) :: _ => turn (a :: cs) (st0 a.length)
  | _ => st0 0
end L3
set_option Elab.async false
set_option linter.all false
set_option maxRecDepth 100000
set_option maxHeartbeats 1000000
namespace L3
open PySem PySem.Spec PyProof.Rows L2
local macro_rules | `(tactic| walk_at "w") => `(tactic| conv => whnf)
def brkB (i : Int) (nm : Str) (t : Tk) : Bool := decide (t.at_ = i) && (decide (t.name = nm) != t.so)
def broke (tk : List Tk) (i : Int) (nm : Str) : Nat := (tk.filter (brkB i nm)).length
/-- the names and the stands behind a sign's steps, through the crews behind it; bound: what confessions let -/
def wayOf (sc : Sc) (i : Nat) (bound : Bool) (cs : List (List Wr)) (sg : Str) (x : D) : Option (Str × St) := match x with
  | .tup [.str c, .str nm, z] => if c = sg ∧ (bound = false ∨ broke sc.talk i nm = 0) then some (nm, turn cs (deSt z)) else none
  | _ => none
def onw (sc : Sc) (i : Nat) (bound : Bool) (s : St) : List (Str × St) := match sc.crews[i]?, sc.crews[i + 1]?, sc.row[i]? with
  | some a, some b, some sg => (stepsD (lastOf a) s).filterMap (wayOf sc i bound b sg)
  | _, _, _ => []
end L3
set_option Elab.async false
set_option linter.all false
set_option maxRecDepth 100000
set_option maxHeartbeats 1000000
namespace L3
open PySem PySem.Spec PyProof.Rows L2
local macro_rules | `(tactic| walk_at "w") => `(tactic| conv => whnf)
end L3
set_option Elab.async false
set_option linter.all false
set_option maxRecDepth 100000
set_option maxHeartbeats 1000000
namespace L3
open PySem PySem.Spec PyProof.Rows L2
local macro_rules | `(tactic| walk_at "w") => `(tactic| conv => whnf)
def laterD (sc : Sc) (i : Nat) (s : St) : List D := (onw sc i true s).map fun p => stD p.2
def nextsW (sc : Sc) (i : Nat) (lot : List St) : List D := lot.flatMap (laterD sc i)
noncomputable def goD (sc : Sc) (i : Nat) (lot : List St) : List D := sortD (gath [] (nextsW sc i lot))
noncomputable def go (sc : Sc) (i : Nat) (lot : List St) : List St := (goD sc i lot).map deSt
def turnD (b : List (List Wr)) (d : D) : D := stD (turn b (deSt d))
structure OnW (a b : List (List Wr)) (acc : List D) : Prop where
  nd : acc.Nodup
  st : ∀ d ∈ acc, (∃ s, d = stD s ∧ Good (lastOf b) s) ∧ d ∈ (world (lastOf a)).map (turnD b)
theorem OnW.nil (a b : List (List Wr)) : OnW a b [] := ⟨List.nodup_nil, fun d hd => nomatch hd⟩
theorem OnW.few {a b : List (List Wr)} (hok : CrewOk (lastOf a)) {acc : List D} (h : OnW a b acc) : acc.length ≤ 3888 :=
  Nat.le_trans (nodup_len _ _ h.nd fun d hd => (h.st d hd).2) (by rw [List.length_map]; exact world_len hok.few)
theorem OnW.add {a b : List (List Wr)} {acc : List D} (h : OnW a b acc) {s : St} (g : Good (lastOf b) s ∧ stD s ∈ (world (lastOf a)).map (turnD b)) : OnW a b (insD acc (stD s)) where
  nd := insD_nodup h.nd
  st := fun d hd => by
    rcases insD_mem.mp hd with hd | rfl
    · exact h.st d hd
    · exact ⟨⟨_, rfl, g.1⟩, g.2⟩
end L3
set_option Elab.async false
set_option linter.all false
set_option maxRecDepth 100000
set_option maxHeartbeats 1000000
namespace L3
open PySem PySem.Spec PyProof.Rows L2
local macro_rules | `(tactic| walk_at "w") => `(tactic| conv => whnf)
noncomputable def lots (sc : Sc) : Nat → List St
  | 0 => [firstOf sc]
  | n + 1 => go sc n (lots sc n)
theorem atI_end {xs : List D} {x : D} (h : xs.getLast? = some x) : atI xs (-1) = some x := by
  have := atI_last (f := id) h
  rwa [List.map_id] at this
end L3
set_option Elab.async false
set_option linter.all false
set_option maxRecDepth 100000
set_option maxHeartbeats 1000000
namespace L3
open PySem PySem.Spec PyProof.Rows L2
local macro_rules | `(tactic| walk_at "w") => `(tactic| conv => whnf)
/-- ra holds a row, ca refers to lists at rs; all else is as in M -/
structure Nest (M M' : Mp) (ra ca : Addr) (rs : List Addr) (row : List D) (css : List (List D)) : Prop where
  row : M' ra = some (.lst row)
  crs : M' ca = some (.lst (rs.map D.ref))
  at_ : ∀ (i : Nat) (r : Addr) (xs : List D), rs[i]? = some r → css[i]? = some xs → M' r = some (.lst xs)
  len : rs.length = css.length
  nd : (ra :: ca :: rs).Nodup
  free : ∀ b ∈ ra :: ca :: rs, M b = none
  same : ∀ b, b ∉ ra :: ca :: rs → M' b = M b
section
variable {M M' : Mp} {ra ca : Addr} {rs : List Addr} {row : List D} {css : List (List D)}
theorem Nest.ra_ne (h : Nest M M' ra ca rs row css) : ra ≠ ca ∧ ra ∉ rs ∧ ca ∉ rs := by
  have := h.nd
  rw [List.nodup_cons, List.nodup_cons] at this
  exact ⟨fun e => this.1 (by rw [e]; exact List.mem_cons_self), fun e => this.1 (List.mem_cons_of_mem _ e), this.2.1⟩
theorem Nest.new (h : Nest M M' ra ca rs row css) {r : Addr} (hr : M' r = none) (xs : List D) : Nest M (mupd (mupd M' r (.lst xs)) ca (.lst (rs.map D.ref ++ [.ref r]))) ra ca (rs ++ [r]) row (css ++ [xs]) := by
  have n1 : r ≠ ra := fun e => by rw [e, h.row] at hr; cases hr
  have n2 : r ≠ ca := fun e => by rw [e, h.crs] at hr; cases hr
  have n3 : r ∉ rs := fun e => by
    obtain ⟨i, hi⟩ := List.getElem?_of_mem e
    have li := (List.getElem?_eq_some_iff.mp hi).1
    have := h.at_ i r _ hi (List.getElem?_eq_getElem (by rw [← h.len]; exact li))
    rw [this] at hr; cases hr
  refine ⟨?_, ?_, fun i s ys hs hy => ?_, ?_, ?_, fun b hb => ?_, fun b hb => ?_⟩
  · rw [mupd_ne h.ra_ne.1, mupd_ne (Ne.symm n1)]; exact h.row
  · rw [mupd_same, List.map_append]; rfl
  · have hsc : s ≠ ca := fun e => by
      have := List.mem_of_getElem? hs
      rcases List.mem_append.mp this with z | z
      · exact h.ra_ne.2.2 (by rw [← e]; exact z)
      · exact n2 (by rw [← e]; exact (List.mem_singleton.mp z).symm)
    rw [mupd_ne hsc]
    by_cases hi : i < rs.length
    · rw [List.getElem?_append_left hi] at hs
      rw [List.getElem?_append_left (by rw [← h.len]; exact hi)] at hy
      rw [mupd_ne (fun e => n3 (by rw [← e]; exact List.mem_of_getElem? hs))]
      exact h.at_ i s ys hs hy
    · rw [List.getElem?_append_right (by omega)] at hs
      rw [List.getElem?_append_right (by rw [← h.len]; omega), ← h.len] at hy
      have z := (List.getElem?_eq_some_iff.mp hs).1
      rw [List.length_singleton] at z
      have z0 : i - rs.length = 0 := by omega
      rw [z0] at hs hy
      cases hs; cases hy
      exact mupd_same
  · rw [List.length_append, List.length_append, h.len]; rfl
  · rw [List.nodup_cons, List.nodup_cons]
    refine ⟨fun e => ?_, fun e => ?_, ?_⟩
    · rcases List.mem_cons.mp e with e | e
      · exact h.ra_ne.1 e
      · rcases List.mem_append.mp e with e | e
        · exact h.ra_ne.2.1 e
        · exact n1 (List.mem_singleton.mp e).symm
    · rcases List.mem_append.mp e with e | e
      · exact h.ra_ne.2.2 e
      · exact n2 (List.mem_singleton.mp e).symm
    · rw [List.nodup_append]
      refine ⟨(List.nodup_cons.mp (List.nodup_cons.mp h.nd).2).2, by simp, fun a ha b hb => ?_⟩
      rw [List.mem_singleton] at hb
      exact fun e => n3 (by rw [← hb, ← e]; exact ha)
  · rcases List.mem_cons.mp hb with e | e
    · exact h.free b (by rw [e]; exact List.mem_cons_self)
    · rcases List.mem_cons.mp e with e | e
      · exact h.free b (by rw [e]; exact List.mem_cons_of_mem _ List.mem_cons_self)
      · rcases List.mem_append.mp e with e | e
        · exact h.free b (List.mem_cons_of_mem _ (List.mem_cons_of_mem _ e))
        · rw [List.mem_singleton] at e
          subst e
          rw [← h.same b (fun e => by
            rcases List.mem_cons.mp e with e | e
            · exact n1 e
            · rcases List.mem_cons.mp e with e | e
              · exact n2 e
              · exact n3 e)]
          exact hr
  · have b1 : b ≠ ca := fun e => hb (by rw [e]; exact List.mem_cons_of_mem _ List.mem_cons_self)
    have b2 : b ≠ r := fun e => hb (by rw [e]; exact List.mem_cons_of_mem _ (List.mem_cons_of_mem _ (List.mem_append_right _ (List.mem_singleton_self _))))
    rw [mupd_ne b1, mupd_ne b2]
    refine h.same b fun e => hb ?_
    rcases List.mem_cons.mp e with e | e
    · rw [e]; exact List.mem_cons_self
    · rcases List.mem_cons.mp e with e | e
      · rw [e]; exact List.mem_cons_of_mem _ List.mem_cons_self
      · exact List.mem_cons_of_mem _ (List.mem_cons_of_mem _ (List.mem_append_left _ e))
theorem thaws_keep : ∀ (M : Mp) (ds : List D), Thaws M ds ds M
  | M, [] => .nil M
  | M, d :: ds => .cons (.keep M d) (thaws_keep M ds)
end
end L3
set_option Elab.async false
set_option linter.all false
set_option maxRecDepth 100000
set_option maxHeartbeats 1000000
namespace L3
open PySem PySem.Spec PyProof.Rows L2
local macro_rules | `(tactic| walk_at "w") => `(tactic| conv => whnf)
/-- a step of a scroll: a sign, or another crew -/
inductive Spp where
  | sg (x : Str)
  | crew (ws : List Wr)
structure Half where
  row : List Str
  css : List (List (List Wr))
def curOf (css : List (List (List Wr))) : List (List Wr) := (css.getLast?).getD []
def addS (h : Half) : Spp → Half
  | .sg x => ⟨h.row ++ [x], h.css ++ [[lastOf (curOf h.css)]]⟩
  | .crew ws => ⟨h.row, h.css.dropLast ++ [curOf h.css ++ [ws]]⟩
structure HalfOk (h : Half) (n : Nat) : Prop where
  len : h.css.length = h.row.length + 1
  row : h.row.length ≤ n
  ne : ∀ cs ∈ h.css, cs ≠ []
  thin : ∀ cs ∈ h.css, cs.length ≤ n + 1
theorem cur_mem {h : Half} {n : Nat} (o : HalfOk h n) : h.css.getLast? = some (curOf h.css) ∧ curOf h.css ∈ h.css := by
  unfold curOf
  cases e : h.css.getLast? with
  | none => rw [List.getLast?_eq_none_iff] at e; have := o.len; rw [e] at this; simp at this
  | some c => exact ⟨rfl, List.mem_of_getLast? e⟩
theorem HalfOk.add {h : Half} {n : Nat} (o : HalfOk h n) (s : Spp) : HalfOk (addS h s) (n + 1) := by
  have hp : 0 < h.css.length := by have := o.len; omega
  cases s with
  | sg x =>
    refine ⟨?_, ?_, fun cs hc => ?_, fun cs hc => ?_⟩
    · show (h.css ++ [[lastOf (curOf h.css)]]).length = (h.row ++ [x]).length + 1
      rw [List.length_append, List.length_append, o.len]; rfl
    · show (h.row ++ [x]).length ≤ n + 1
      rw [List.length_append, List.length_singleton]; have := o.row; omega
    · rcases List.mem_append.mp (show cs ∈ h.css ++ [[lastOf (curOf h.css)]] from hc) with hc | hc
      · exact o.ne cs hc
      · rw [List.mem_singleton] at hc; rw [hc]; simp
    · rcases List.mem_append.mp (show cs ∈ h.css ++ [[lastOf (curOf h.css)]] from hc) with hc | hc
      · have := o.thin cs hc; omega
      · rw [List.mem_singleton] at hc; rw [hc, List.length_singleton]; omega
  | crew ws =>
    refine ⟨?_, ?_, fun cs hc => ?_, fun cs hc => ?_⟩
    · show (h.css.dropLast ++ [curOf h.css ++ [ws]]).length = h.row.length + 1
      rw [List.length_append, List.length_dropLast, List.length_singleton, o.len]; omega
    · exact Nat.le_trans o.row (Nat.le_succ n)
    · rcases List.mem_append.mp (show cs ∈ h.css.dropLast ++ [curOf h.css ++ [ws]] from hc) with hc | hc
      · exact o.ne cs (List.dropLast_subset _ hc)
      · rw [List.mem_singleton] at hc; rw [hc]; simp
    · rcases List.mem_append.mp (show cs ∈ h.css.dropLast ++ [curOf h.css ++ [ws]] from hc) with hc | hc
      · have := o.thin cs (List.dropLast_subset _ hc); omega
      · rw [List.mem_singleton] at hc
        rw [hc, List.length_append, List.length_singleton]
        have := o.thin _ (cur_mem o).2
        omega
theorem resD_of {M : Mp} {q : Addr} {xs : List D} (h : M q = some (.lst xs)) : resD M (.ref q) = .lst xs := by
  show (match M q with | some (.lst ds) => D.lst ds | _ => D.ref q) = _
  rw [h]
end L3
set_option Elab.async false
set_option linter.all false
set_option maxRecDepth 100000
set_option maxHeartbeats 1000000
namespace L3
open PySem PySem.Spec PyProof.Rows L2
local macro_rules | `(tactic| walk_at "w") => `(tactic| conv => whnf)
end L3
set_option Elab.async false
set_option linter.all false
set_option maxRecDepth 100000
set_option maxHeartbeats 1000000
namespace L3
open PySem PySem.Spec PyProof.Rows L2
local macro_rules | `(tactic| walk_at "w") => `(tactic| conv => whnf)
def SppOk : Spp → Prop
  | .sg x => ∃ c, x = ⟨#[c]⟩ ∧ isLetter c = true
  | .crew ws => CrewOk ws
end L3
set_option Elab.async false
set_option linter.all false
set_option maxRecDepth 100000
set_option maxHeartbeats 1000000
namespace L3
open PySem PySem.Spec PyProof.Rows L2
local macro_rules | `(tactic| walk_at "w") => `(tactic| conv => whnf)
theorem Nest.start {B M' : Mp} {ra ca r0 : Addr} {xs : List D} (h1 : M' ra = some (.lst [])) (h2 : M' ca = some (.lst [.ref r0])) (h3 : M' r0 = some (.lst xs)) (n1 : ra ≠ ca) (n2 : ra ≠ r0) (n3 : ca ≠ r0) (f1 : B ra = none) (f2 : B ca = none) (f3 : B r0 = none) (s : ∀ b, b ≠ ra → b ≠ ca → b ≠ r0 → M' b = B b) : Nest B M' ra ca [r0] [] [xs] where
  row := h1
  crs := h2
  at_ := fun i r ys hr hy => by
    cases i with
    | zero => rw [← Option.some.inj (show some r0 = some r from hr), ← Option.some.inj (show some xs = some ys from hy)]; exact h3
    | succ i => exact nomatch (show (none : Option Addr) = some r from hr)
  len := rfl
  nd := by
    simp only [List.nodup_cons, List.mem_cons, List.not_mem_nil, or_false, not_or, not_false_eq_true, List.nodup_nil, and_true]
    exact ⟨⟨n1, n2⟩, n3⟩
  free := fun b hb => by
    simp only [List.mem_cons, List.not_mem_nil, or_false] at hb
    rcases hb with e | e | e
    · rw [e]; exact f1
    · rw [e]; exact f2
    · rw [e]; exact f3
  same := fun b hb => by
    simp only [List.mem_cons, List.not_mem_nil, or_false, not_or] at hb
    exact s b hb.1 hb.2.1 hb.2.2
end L3
set_option Elab.async false
set_option linter.all false
set_option maxRecDepth 100000
set_option maxHeartbeats 1000000
namespace L3
open PySem PySem.Spec PyProof.Rows L2
local macro_rules | `(tactic| walk_at "w") => `(tactic| conv => whnf)
end L3
set_option Elab.async false
set_option linter.all false
set_option maxRecDepth 100000
set_option maxHeartbeats 1000000
namespace L3
open PySem PySem.Spec PyProof.Rows L2
structure HalfGood (h : Half) : Prop where
  crew : ∀ cs ∈ h.css, ∀ ws ∈ cs, CrewOk ws
  on : ∀ (i : Nat) (a b : List (List Wr)), h.css[i]? = some a → h.css[i + 1]? = some b → b.head? = some (lastOf a)
  sg : ∀ x ∈ h.row, ∃ c, x = ⟨#[c]⟩ ∧ isLetter c = true
theorem cur_eq {h : Half} {n : Nat} (o : HalfOk h n) : h.css[h.css.length - 1]? = some (curOf h.css) := by
  rw [← List.getLast?_eq_getElem?]; exact (cur_mem o).1
theorem HalfGood.add {h : Half} {n : Nat} (o : HalfOk h n) (g : HalfGood h) {s : Spp} (hs : SppOk s) : HalfGood (addS h s) := by
  have hp : 0 < h.css.length := by have := o.len; omega
  have hne := o.ne _ (cur_mem o).2
  cases s with
  | sg x =>
    refine ⟨fun cs hc ws hw => ?_, fun i a b ha hb => ?_, fun y hy => ?_⟩
    · rcases List.mem_append.mp (show cs ∈ h.css ++ [[lastOf (curOf h.css)]] from hc) with hc | hc
      · exact g.crew cs hc ws hw
      · rw [List.mem_singleton] at hc
        rw [hc, List.mem_singleton] at hw
        rw [hw]
        exact g.crew _ (cur_mem o).2 _ (List.mem_of_getLast? (last_of hne))
    · have ha' : (h.css ++ [[lastOf (curOf h.css)]])[i]? = some a := ha
      have hb' : (h.css ++ [[lastOf (curOf h.css)]])[i + 1]? = some b := hb
      by_cases hi : i + 1 < h.css.length
      · rw [List.getElem?_append_left (by omega)] at ha'
        rw [List.getElem?_append_left hi] at hb'
        exact g.on i a b ha' hb'
      · rw [List.getElem?_append_right (by omega)] at hb'
        have z := (List.getElem?_eq_some_iff.mp hb').1
        rw [List.length_singleton] at z
        have z0 : i + 1 - h.css.length = 0 := by omega
        rw [z0] at hb'
        have ei : i = h.css.length - 1 := by omega
        rw [List.getElem?_append_left (by omega), ei, cur_eq o] at ha'
        rw [← Option.some.inj ha', ← Option.some.inj (show some [lastOf (curOf h.css)] = some b from hb')]
        rfl
    · rcases List.mem_append.mp (show y ∈ h.row ++ [x] from hy) with hy | hy
      · exact g.sg y hy
      · rw [List.mem_singleton] at hy; rw [hy]; exact hs
  | crew ws =>
    refine ⟨fun cs hc vs hw => ?_, fun i a b ha hb => ?_, g.sg⟩
    · rcases List.mem_append.mp (show cs ∈ h.css.dropLast ++ [curOf h.css ++ [ws]] from hc) with hc | hc
      · exact g.crew cs (List.dropLast_subset _ hc) vs hw
      · rw [List.mem_singleton] at hc
        rw [hc] at hw
        rcases List.mem_append.mp hw with hw | hw
        · exact g.crew _ (cur_mem o).2 _ hw
        · rw [List.mem_singleton] at hw; rw [hw]; exact hs
    · have ha' : (h.css.dropLast ++ [curOf h.css ++ [ws]])[i]? = some a := ha
      have hb' : (h.css.dropLast ++ [curOf h.css ++ [ws]])[i + 1]? = some b := hb
      have lb := (List.getElem?_eq_some_iff.mp hb').1
      rw [List.length_append, List.length_dropLast, List.length_singleton] at lb
      rw [List.getElem?_append_left (by rw [List.length_dropLast]; omega), List.dropLast_eq_take, List.getElem?_take, if_pos (by omega)] at ha'
      by_cases hi : i + 1 < h.css.length - 1
      · rw [List.getElem?_append_left (by rw [List.length_dropLast]; omega), List.dropLast_eq_take, List.getElem?_take, if_pos (by omega)] at hb'
        exact g.on i a b ha' hb'
      · rw [List.getElem?_append_right (by rw [List.length_dropLast]; omega), List.length_dropLast, show i + 1 - (h.css.length - 1) = 0 by omega] at hb'
        have z := g.on i a _ ha' (by rw [show i + 1 = h.css.length - 1 by omega]; exact cur_eq o)
        rw [← Option.some.inj (show some (curOf h.css ++ [ws]) = some b from hb')]
        cases e : curOf h.css with
        | nil => exact absurd e hne
        | cons c cs => rw [e] at z; exact z
end L3
set_option Elab.async false
set_option linter.all false
set_option maxRecDepth 100000
set_option maxHeartbeats 1000000
namespace L3
open PySem PySem.Spec PyProof.Rows L2
local macro_rules | `(tactic| walk_at "w") => `(tactic| conv => whnf)
end L3
set_option Elab.async false
set_option linter.all false
set_option maxRecDepth 100000
set_option maxHeartbeats 1000000
set_option Elab.async false
set_option linter.all false
set_option maxRecDepth 100000
set_option maxHeartbeats 1000000
namespace L3
open PySem PySem.Spec PyProof.Rows L2
local macro_rules | `(tactic| walk_at "w") => `(tactic| conv => whnf)
end L3
set_option Elab.async false
set_option linter.all false
set_option maxRecDepth 100000
set_option maxHeartbeats 1000000
namespace L3
open PySem PySem.Spec PyProof.Rows L2
local macro_rules | `(tactic| walk_at "w") => `(tactic| conv => whnf)
end L3
set_option Elab.async false
set_option linter.all false
set_option maxRecDepth 100000
set_option maxHeartbeats 1000000
namespace L3
open PySem PySem.Spec PyProof.Rows L2 NS
section
variable {X : Cx}
def rInKd (K : PySem.W.Frag) (w : World) (g : Bool → Bool) : R2 := fun x y H Q => ∃ p a Ls F yD, x = .ref p ∧ y = .ref a ∧ DkRd w H a Ls ∧ Same F H ∧ Rep K F yD (.ref p) ∧ isKeyB yD = true ∧ (∀ r ∈ Ls, Rep K F r.2.1 (.ref r.1)) ∧ Q (.bl (g (Ls.any fun r => sameK r.2.1 yD))) H
theorem op_notInKd (hu : X.A.units + 65 < cLine) : OpR X (compareOp .NotIn) (rInKd X.K X.w not) := by
  intro pins s σ H x y v u Q I rx ry ⟨p, a, Ls, F, yD, e1, e2, ha, sm, rp, ky, rk, q⟩
  subst e1 e2
  cases (show v = Value.ref p from rx)
  cases (show u = Value.ref a from ry)
  have D := DkRd.at I ha
  obtain ⟨⟨hs, _, hk, _⟩, _⟩ := id D
  obtain ⟨xs, px, kd⟩ := dk_kit (P := X.prog) D (keys_at I sm fun r hr => ⟨rk r hr, hk r hr⟩)
  obtain ⟨n1, _, n2, _⟩ := nkb_at I sm rp (u := .ref p) rfl (isKeyB_nk ky)
  refine notIn_keyed (knd := nestedKind X.prog X.w) (k := keyN yD) (show X.A.in1.units + 8 < cLine from by show X.A.units + 1 + 8 < cLine; omega) ⟨n1, n2⟩ hs ⟨xs, kd, rfl⟩ ?_
  rw [valueAt_pairsH, Option.isSome_map, x_find px]
  exact ⟨.bl _, H, I.kept (t' := _) fun b o e => e, rfl, q⟩
def rInDk (w : World) (g : Bool → Bool) : R2D := fun d e M Q => mDkd w M e fun ks _ => isKeyB d = true ∧ Q (.bl (g (ks.any fun k => sameK k d))) M
theorem inDk_served {K : PySem.W.Frag} {w : World} {g : Bool → Bool} : Serves2 K (rInDk w g) (rInKd K w g) := fun R F M H d e x y Qd Q a r1 r2 q kd => by
  obtain ⟨p, Ls, ds, rfl, rd, k1, k2, ky, q⟩ := mDkd_at a r2 q
  obtain ⟨pp, rfl⟩ := key_refB r1 ky
  refine ⟨pp, p, Ls, F, d, rfl, rfl, rd, a.fz, r1, ky, reps_all k1, ?_⟩
  rw [List.any_map] at q
  exact kd F H M (.bl _) _ (Same.refl _) a rfl q
theorem opd_notinDk {k : Nat} (hr : Room k X.A) : OpD X (compareOp .NotIn) (rInDk X.w not) := ⟨_, op_notInKd (by have := hr.un; omega), inDk_served⟩
end
end L3
set_option Elab.async false
set_option linter.all false
set_option maxRecDepth 100000
set_option maxHeartbeats 1000000
set_option Elab.async false
set_option linter.all false
set_option maxRecDepth 100000
set_option maxHeartbeats 1000000
set_option Elab.async false
set_option linter.all false
set_option maxRecDepth 100000
set_option maxHeartbeats 1000000
namespace L3
open PySem PySem.Spec PyProof.Rows L2
local macro_rules | `(tactic| walk_at "w") => `(tactic| conv => whnf)
end L3
set_option Elab.async false
set_option linter.all false
set_option maxRecDepth 100000
set_option maxHeartbeats 1000000
namespace L3
open PySem PySem.Spec PyProof.Rows L2
local macro_rules | `(tactic| walk_at "w") => `(tactic| conv => whnf)
end L3
set_option Elab.async false
set_option linter.all false
set_option maxRecDepth 100000
set_option maxHeartbeats 1000000
namespace L3
open PySem PySem.Spec PyProof.Rows L2
local macro_rules | `(tactic| walk_at "w") => `(tactic| conv => whnf)
end L3
set_option Elab.async false
set_option linter.all false
set_option maxRecDepth 100000
set_option maxHeartbeats 1000000
namespace L3
open PySem PySem.Spec PyProof.Rows L2
local macro_rules | `(tactic| walk_at "w") => `(tactic| conv => whnf)
def toS (nm : Str) (xs : List (Str × St)) : List St := (xs.filter fun p => p.1 == nm).map (·.2)
end L3
set_option Elab.async false
set_option linter.all false
set_option maxRecDepth 100000
set_option maxHeartbeats 1000000
namespace L3
open PySem PySem.Spec PyProof.Rows L2
structure CallKOk (P : Program) (w : World) (K : PySem.W.Frag) (mg : Str → Option Value) (base : Heap) (k : Nat) (x : Str) (n : Nat) (ks : List Str) (sp : SpD) : Prop where
  ex : ∃ f fd ps, FnOk P w K mg base (L2N.CX P w) k f fd ps (upSp K (n + ks.length) sp) ∧ mg x = some (.ref f) ∧ PySem.W.keepIn K (.ref f) = true ∧ KBn K fd ps n ks (fun us ws => us ++ ws) (fun us ws => us ++ ws)
theorem CallKOk.mono {P : Program} {w : World} {K : PySem.W.Frag} {mg : Str → Option Value} {base : Heap} {j k : Nat} {x : Str} {n : Nat} {ks : List Str} {sp : SpD} (d : CallKOk P w K mg base j x n ks sp) (h : j ≤ k) : CallKOk P w K mg base k x n ks sp := by
  obtain ⟨f, fd, ps, a, b⟩ := d.ex
  exact ⟨f, fd, ps, a.mono h, b⟩
end L3
set_option Elab.async false
set_option linter.all false
set_option maxRecDepth 100000
set_option maxHeartbeats 1000000
set_option Elab.async false
set_option linter.all false
set_option maxRecDepth 100000
set_option maxHeartbeats 1000000
namespace L3
open PySem PySem.Spec PyProof.Rows L2
local macro_rules | `(tactic| walk_at "w") => `(tactic| conv => whnf)
end L3
set_option Elab.async false
set_option linter.all false
set_option maxRecDepth 100000
set_option maxHeartbeats 1000000
namespace L3
open PySem PySem.Spec PyProof.Rows L2
inductive Run (sc : Sc) : Nat → St → List Str → List St → Prop where
  | nil (i : Nat) (s : St) : Run sc i s [] []
  | cons {i : Nat} {s z : St} {nm : Str} {r : List Str} {ss : List St} : (nm, z) ∈ onw sc i true s → Run sc (i + 1) z r ss → Run sc i s (nm :: r) (z :: ss)
theorem Run.len {sc : Sc} {i : Nat} {s : St} {r : List Str} {ss : List St} (h : Run sc i s r ss) : ss.length = r.length := by
  induction h with
  | nil => rfl
  | cons _ _ ih => rw [List.length_cons, List.length_cons, ih]
theorem stD_inj {a b : St} (h : stD a = stD b) : a = b := by rw [← deSt_st a, h, deSt_st]
end L3
set_option Elab.async false
set_option linter.all false
set_option maxRecDepth 100000
set_option maxHeartbeats 1000000
namespace L3
open PySem PySem.Spec PyProof.Rows L2
local macro_rules | `(tactic| walk_at "w") => `(tactic| conv => whnf)
end L3
set_option Elab.async false
set_option linter.all false
set_option maxRecDepth 100000
set_option maxHeartbeats 2000000
namespace L3
open PySem PySem.Spec PyProof.Rows L2 NS
def prsD (ks ds : List D) : List D := List.zipWith (fun k d => D.tup [k, d]) ks ds
def keyA : D → D
  | .tup [k, _] => k
  | _ => .non
def valA : D → D
  | .tup [_, d] => d
  | _ => .non
/-- a pair put -/
def putA (acc : List D) (y z : D) : List D := prsD (addD (acc.map keyA) y) (setD (acc.map keyA) (acc.map valA) y z)
end L3
set_option Elab.async false
set_option linter.all false
set_option maxRecDepth 100000
set_option maxHeartbeats 1000000
namespace L3
open PySem PySem.Spec PyProof.Rows L2 NS
theorem x_get {y : D} : ∀ {Ls : List DRow} {xs : List XRow}, Paired RowX Ls xs → (∃ v u, (Ls.find? fun r => sameK r.2.1 y).map (·.2.2) = some v ∧ (atKey xs (keyN y)).map (·.2) = some u ∧ RelV v u) ∨ ((Ls.find? fun r => sameK r.2.1 y).map (·.2.2) = none ∧ (atKey xs (keyN y)).map (·.2) = none)
  | _, _, .nil => .inr ⟨rfl, rfl⟩
  | _, _, .cons (a := r) (b := x) (l₁ := Ls) (l₂ := xs) ⟨h1, _, h3⟩ t => by
    have ih := x_get (y := y) t
    unfold atKey at ih ⊢
    rw [List.find?_cons, List.find?_cons, h1]
    unfold sameK at ih ⊢
    by_cases c : keyN r.2.1 = keyN y
    · exact .inl ⟨r.2.2, x.2.2, by simp [c], by simp [c], h3⟩
    · simpa [c] using ih
section
variable {X : Cx} {o i f : Expr} {td ty tx : TE} {to ti te : DE} {pos apos : Pos}
/-- what is at a key -/
def rAtK (K : PySem.W.Frag) (w : World) (x y : V) (H : Hp) (Z : Option V → Prop) : Prop := ∃ a p Ls F yD, x = .ref a ∧ y = .ref p ∧ DkRd w H a Ls ∧ Same F H ∧ Rep K F yD (.ref p) ∧ isKeyB yD = true ∧ (∀ r ∈ Ls, Rep K F r.2.1 (.ref r.1)) ∧ Z ((Ls.find? fun r => sameK r.2.1 yD).map (·.2.2))
def tDGetK (K : PySem.W.Frag) (w : World) (td ty : TE) : TE := fun σ H Q => td σ H fun x H1 => ty σ H1 fun y H2 => rAtK K w x y H2 fun r => ∃ v, r = some v ∧ Q v H2
theorem pe_dgetK (hu : X.A.units + 65 < cLine) (ho : PE X o td) (hi : PE X i ty) (hs : NoSl i) : PE X (.Subscript o i pos) (tDGetK X.K X.w td ty) := by
  refine ⟨fun pins s σ H Q I h => ?_⟩
  refine subD_of PySem.F.slot_dict_getitem.lookup hs (thn (ho.run pins s σ H _ I h) fun u s1 ⟨x, H1, I1, rx, q1⟩ => thn (hi.run pins s1 σ H1 _ I1 q1) fun iv s2 ⟨y, H2, I2, ry, a, p, Ls, F, yD, ex, ey, ha, sm, rp, ky, rk, v, hv, q2⟩ => ?_)
  subst ex ey
  obtain rfl : u = Value.ref a := rx
  cases (show iv = Value.ref p from ry)
  have D := DkRd.at I2 ha
  obtain ⟨⟨hs', _, hk, _⟩, _⟩ := id D
  obtain ⟨xs, px, kd⟩ := dk_kit (P := X.prog) D (keys_at I2 sm fun r hr => ⟨rk r hr, hk r hr⟩)
  obtain ⟨n1, _, n2, _⟩ := nkb_at I2 sm rp (u := .ref p) rfl (isKeyB_nk ky)
  rcases x_get (y := yD) px with ⟨v', u', e1, e2, r⟩ | ⟨e1, _⟩
  · rw [hv] at e1; cases e1
    refine ⟨kd.typeIs, ?_⟩
    refine getItem_keyed (knd := nestedKind X.prog X.w) (k := keyN yD) (v := u') (show X.A.in1.units + 8 < cLine from by show X.A.units + 1 + 8 < cLine; omega) ⟨n1, n2⟩ ⟨xs, kd, rfl⟩ (by rw [valueAt_pairsH]; exact e2) ?_
    exact ⟨v, H2, I2.kept (t' := _) fun b o e => e, r, q2⟩
  · rw [hv] at e1; cases e1
def lookD : List D → List D → D → Option D
  | k :: ks, d :: ds, y => if sameK k y = true then some d else lookD ks ds y
  | _, _, _ => none
theorem look_rep {K : PySem.W.Frag} {F : Hp} {y : D} : ∀ {Ls : List DRow} {ds : List D}, Reps K F ds (Ls.map (·.2.2)) → (∃ d v, lookD (Ls.map (·.2.1)) ds y = some d ∧ (Ls.find? fun r => sameK r.2.1 y).map (·.2.2) = some v ∧ Rep K F d v) ∨ (lookD (Ls.map (·.2.1)) ds y = none ∧ (Ls.find? fun r => sameK r.2.1 y).map (·.2.2) = none)
  | [], ds, r => by
    cases ds with
    | nil => exact .inr ⟨rfl, rfl⟩
    | cons d ds => obtain ⟨_, _, z, _⟩ := r; cases z
  | r :: Ls, [], h => by cases h
  | r :: Ls, d :: ds, ⟨x, rr, z, h1, h2⟩ => by
    rw [List.map_cons, List.cons.injEq] at z
    obtain ⟨rfl, rfl⟩ := z
    have ih := look_rep (y := y) h2
    rw [List.map_cons, List.find?_cons]
    show (∃ d' v, (if sameK r.2.1 y = true then some d else lookD (Ls.map (·.2.1)) ds y) = some d' ∧ _) ∨ ((if sameK r.2.1 y = true then some d else lookD (Ls.map (·.2.1)) ds y) = none ∧ _)
    by_cases c : sameK r.2.1 y = true
    · rw [if_pos c]
      exact .inl ⟨d, r.2.2, rfl, by simp [c], h1⟩
    · rw [if_neg c]
      have c' : sameK r.2.1 y = false := by simpa using c
      simpa [c'] using ih
def dIxDk (w : World) (to ti : DE) : DE := fun env M Q => to env M fun d M1 => ti env M1 fun e M2 => mDkd w M2 d fun ks ds => isKeyB e = true ∧ match lookD ks ds e with
  | some v => Q v M2
  | none => False
theorem pd_ixDk {k : Nat} (hr : Room k X.A) (ho : PDE X o to) (hi : PDE X i ti) (hs : NoSl i := by intro _ _; rfl) : PDE X (.Subscript o i pos) (dIxDk X.w to ti) :=
  pe_imp (pe_dgetK (by have := hr.un; omega) ho hi hs) fun σ H Q ⟨R, F, env, M, Qd, a, e, h, k⟩ => ⟨R, F, env, M, _, a, e, h, fun F1 H1 M1 d v s1 a1 r1 q1 => ⟨R, F1, env, M1, _, a1, e.mono s1, q1, fun F2 H2 M2 d2 v2 s2 a2 r2 q2 => by
    obtain ⟨p, Ls, ds, rfl, rd, k1, k2, ky, q⟩ := mDkd_at a2 (r1.mono s2) q2
    obtain ⟨pp, rfl⟩ := key_refB r2 ky
    refine ⟨p, pp, Ls, F2, d2, rfl, rfl, rd, a2.fz, r2, ky, reps_all k1, ?_⟩
    rcases look_rep (y := d2) k2 with ⟨x, v, e1, e2, r⟩ | ⟨e1, _⟩
    · rw [e1] at q
      exact ⟨v, e2, k F2 H2 M2 x v (s1.trans s2) a2 r q⟩
    · rw [e1] at q; exact q.elim⟩⟩
end
end L3
set_option Elab.async false
set_option linter.all false
set_option maxRecDepth 100000
set_option maxHeartbeats 1000000
set_option Elab.async false
set_option linter.all false
set_option maxRecDepth 100000
set_option maxHeartbeats 1000000
namespace L3
open PySem PySem.Spec PyProof.Rows L2
local macro_rules | `(tactic| walk_at "w") => `(tactic| conv => whnf)
theorem sameK_st {a b : St} (h : sameK (stD a) (stD b) = true) : a = b := stD_inj (keyN_inj (isKey_nk (isKey_st a)) (isKey_nk (isKey_st b)) (of_decide_eq_true h))
/-- a dict with so much at each stand -/
structure Holds (xs : List St) (g : St → D) (ks ds : List D) : Prop where
  len : ks.length = ds.length
  few : ks.length ≤ xs.length
  at_ : ∀ s ∈ xs, lookD ks ds (stD s) = some (g s)
noncomputable def ways (sc : Sc) : Nat → Nat → St → Int
  | 0, _, _ => 1
  | j + 1, i, s => ((onw sc i true s).map fun p => ways sc j (i + 1) p.2).sum
noncomputable def waysD (sc : Sc) (i : Nat) (s : St) : D := .int (ways sc (sc.row.length - i) i s)
def CntAt (wd : World) (sc : Sc) (i : Nat) (d : D) : Prop := ∃ ks vs, d = .dkd wd ks vs ∧ Holds (lots sc i) (waysD sc i) ks vs
/-- the same, from the end -/
structure CntB (wd : World) (sc : Sc) (k : Nat) (Ls : List D) : Prop where
  len : Ls.length = k + 1
  at_ : ∀ i, i ≤ k → ∃ d, Ls[i]? = some d ∧ CntAt wd sc (sc.row.length - i) d
theorem CntB.more {wd : World} {sc : Sc} {k : Nat} {Ls : List D} {d : D} (h : CntB wd sc k Ls) (hd : CntAt wd sc (sc.row.length - (k + 1)) d) : CntB wd sc (k + 1) (Ls ++ [d]) := by
  refine ⟨by rw [List.length_append, h.len]; rfl, fun i hi => ?_⟩
  by_cases c : i ≤ k
  · obtain ⟨e, h1, h2⟩ := h.at_ i c
    exact ⟨e, by rw [List.getElem?_append_left (by rw [h.len]; omega)]; exact h1, h2⟩
  · have e : i = k + 1 := by omega
    subst e
    exact ⟨d, by rw [List.getElem?_append_right (by rw [h.len]; omega), h.len, Nat.sub_self]; rfl, hd⟩
end L3
set_option Elab.async false
set_option linter.all false
set_option maxRecDepth 100000
set_option maxHeartbeats 1000000
namespace L3
open PySem PySem.Spec PyProof.Rows L2
local macro_rules | `(tactic| walk_at "w") => `(tactic| conv => whnf)
end L3
set_option Elab.async false
set_option linter.all false
set_option maxRecDepth 100000
set_option maxHeartbeats 1000000
namespace L3
open PySem PySem.Spec PyProof.Rows L2
local macro_rules | `(tactic| walk_at "w") => `(tactic| conv => whnf)
/-- own things more, the others as they were -/
def Grown (M M' : Mp) : Prop := ∀ b o, M b = some o → M' b = some o
theorem Grown.refl (M : Mp) : Grown M M := fun _ _ h => h
theorem grown_new {M : Mp} {p : Addr} {o : MO} (h : M p = none) : Grown M (mupd M p o) := fun b u hb => by rw [mupd_ne (fun e => by rw [e, h] at hb; cases hb)]; exact hb
end L3
set_option Elab.async false
set_option linter.all false
set_option maxRecDepth 100000
set_option maxHeartbeats 1000000
namespace L3
open PySem PySem.Spec PyProof.Rows L2
local macro_rules | `(tactic| walk_at "w") => `(tactic| conv => whnf)
end L3
set_option Elab.async false
set_option linter.all false
set_option maxRecDepth 100000
set_option maxHeartbeats 2000000
namespace L3
open PySem PySem.Spec PyProof.Rows L2 NS
section
variable {X : Cx} {ke ve : Expr} {tk tv : TE} {dk dv' : DE} {pos : Pos}
def tDk1 (K : PySem.W.Frag) (w : World) (tk tv : TE) : TE := fun σ H Q => ∀ p, H p = none → tPairs [(tk, tv)] σ (upd H p (DkO w p [])) fun ps H2 => ∃ x z, ps = [(x, z)] ∧ ∃ a yD F, x = .ref a ∧ Same F H2 ∧ Rep K F yD (.ref a) ∧ isKeyB yD = true ∧ H2 p = some (DkO w p []) ∧ Q (.ref p) (upd H2 p (DkO w p (putRow [] a yD z)))
theorem pe_dk1 (hu : X.A.units + 65 < cLine) (hk : PE X ke tk) (hv : PE X ve tv) : PE X (.Dict [some ke] [ve] pos) (tDk1 X.K X.w tk tv) := by
  refine ⟨fun pins s σ H Q I q => ?_⟩
  have hn := I.hok.fresh (Nat.le_refl s.heap.objs.size)
  have D0 : DkAt X.w s.heap.objs.size [] (s.heap.push { cls := .type "dict", data := .dict #[] }) := ⟨⟨beq_eq_false_iff_ne.mpr (Nat.ne_of_gt I.big), Nat.zero_le _, (fun r hr => nomatch hr), List.nodup_nil⟩, _, #[], 0, Heap.get?_push_size _ rfl, ⟨rfl, rfl, rfl⟩, rfl, .nil⟩
  have I1 := I.laid (a := s.heap.objs.size) (o := DkO X.w s.heap.objs.size []) (h' := s.heap.push { cls := .type "dict", data := .dict #[] }) (t' := s.toks) (fun b o z => Heap.get?_push_of_some _ z) (Nat.le_refl _) (dk_new D0)
  refine wpAny_Dict_any rfl rfl (by simp) (by show 1 ≤ 15; omega) (thn ((pps_cons hk hv pps_nil).run pins _ σ _ (fun ps H2 => ∃ x z, ps = [(x, z)] ∧ ∃ a yD F, x = .ref a ∧ Same F H2 ∧ Rep X.K F yD (.ref a) ∧ isKeyB yD = true ∧ H2 s.heap.objs.size = some (DkO X.w s.heap.objs.size []) ∧ Q (.ref s.heap.objs.size) (upd H2 s.heap.objs.size (DkO X.w s.heap.objs.size (putRow [] a yD z)))) I1 ?_) fun ws s2 ⟨ps, H2, I2, rel, x, z, ep, a, yD, F, ex, sm, rp, ky, hA, q2⟩ => ?_)
  · exact q _ hn
  · subst ep ex
    have two : ∃ kv vv, ws = [(kv, vv)] ∧ RelV (.ref a) kv ∧ RelV z vv := by
      cases rel with
      | cons r1 rn => cases rn with
        | nil => exact ⟨_, _, rfl, r1.1, r1.2⟩
    obtain ⟨kv, vv, rfl, rk, rv⟩ := two
    cases (show kv = Value.ref a from rk)
    unfold storeAll
    rw [List.forIn_cons]
    have D2 : DkAt X.w s.heap.objs.size [] s2.heap := (I2.hok _ _ hA).1
    obtain ⟨xs, px, kd⟩ := dk_kit (P := X.prog) D2 (fun r hr => nomatch hr)
    obtain ⟨n1, _, n2, _⟩ := nkb_at I2 sm rp (u := .ref a) rfl (isKeyB_nk ky)
    have xl : xs.length = 0 := px.length.symm
    refine wpAny_bind (wpAny_bind (wpAny_dictSet_heap (knd := nestedKind X.prog X.w) (k := keyN yD) (hsz := by rw [xl]; exact Nat.zero_le _) (show X.A.units + 8 < cLine from by omega) ⟨n1, n2⟩ kd fun h' kd' sb => wpAny_pure ?_))
    have new : DkAt X.w s.heap.objs.size (putRow [] a yD z) h' := kit_dk kd' (x_put rv px) D2.1.1 (by have := putRow_len (Ls := []) (p := a) (y := yD) (v := z); rw [sizeLine_eq]; simp at this; omega) fun r hr => by
      rcases putRow_mem r hr with ⟨q, hq, _, e⟩ | ⟨_, e⟩
      · exact nomatch hq
      · rw [e]; exact ky
    have ex : ∃ u, h'.get? s.heap.objs.size = some u := let ⟨_, o, _, _, ho, _⟩ := new; ⟨o, ho⟩
    (show wpAny (model X.prog X.w) X.A (forIn ([] : List (Value × Value)) PUnit.unit _) _ _ _); rw [List.forIn_nil]
    exact wpAny_pure ⟨.ref s.heap.objs.size, _, I2.write (x := s.heap.objs.size) (e := s.heap.objs.size) (by rw [hA]; trivial) (.inl rfl) (fun b u hb hu => (sb.2 b hb).trans hu) ex (dk_new new), rfl, q2⟩
def dDk1 (w : World) (tk tv : DE) : DE := fun env M Q => tk env M fun y M1 => tv env M1 fun z M2 => isKeyB y = true ∧ ∀ p, M2 p = none → Q (.ref p) (mupd M2 p (.dkd w [y] [z]))
theorem pd_dk1 {k : Nat} {tk tv : DE} (hr : Room k X.A) (hk : PDE X ke tk) (hv : PDE X ve tv) : PDE X (.Dict [some ke] [ve] pos) (dDk1 X.w tk tv) :=
  pe_imp (pe_dk1 (by have := hr.un; omega) hk hv) fun σ H Q ⟨R, F, env, M, Qd, a, e, h, k⟩ p hp => by
    have hR := a.freeR hp
    refine ⟨upd R p (DkO X.w p []), F, env, M, _, a.lend hp _, e, h, fun F1 H1 M1 y v s1 a1 r1 q1 => ⟨upd R p (DkO X.w p []), F1, env, M1, _, a1, e.mono s1, q1, fun F2 H2 M2 z u s2 a2 r2 ⟨ky, q2⟩ => ?_⟩⟩
    obtain ⟨pp, rfl⟩ := key_refB r1 ky
    have hA := (a2.fr p _ upd_same).2.2
    refine ⟨_, _, rfl, pp, y, F2, rfl, a2.fz, r1.mono s2, ky, hA, ?_⟩
    have a3 := (a2.relend (DkO X.w p (putRow [] pp y u))).takeM hR (o := .dkd X.w [y] [z]) ⟨putRow [] pp y u, rfl, rfl, ⟨_, [], rfl, r1.mono s2, rfl⟩, ⟨_, [], rfl, r2, rfl⟩⟩
    have nM : M2 p = none := (a2.fr p _ upd_same).2.1
    exact k F2 _ _ (.ref p) _ (s1.trans s2) a3 rfl (q2 p nM)
def rLenK (K : PySem.W.Frag) (w : World) : List V → Hp → VK → Prop := fun xs H Q => ∃ p Ls F, xs = [.ref p] ∧ DkRd w H p Ls ∧ Same F H ∧ (∀ r ∈ Ls, Rep K F r.2.1 (.ref r.1)) ∧ Q (.int ((Ls.length : Nat) : Int)) H
theorem call_lenK : CallR X (.builtin "len") (rLenK X.K X.w) := by
  intro pins s σ H xs us Q I r ⟨p, Ls, F, e, rd, sm, reps, q⟩
  subst e
  obtain ⟨u, rfl, rx⟩ := vals1 r
  obtain rfl : u = Value.ref p := rx
  have D0 := DkRd.at I rd
  obtain ⟨⟨hs, few, hk, _⟩, _⟩ := id D0
  obtain ⟨ys, px, kd⟩ := dk_kit (P := X.prog) D0 (keys_at I sm fun r hr => ⟨reps r hr, hk r hr⟩)
  have hl : Ls.length = ys.length := px.length
  refine call_len_dictH hs kd (by rw [← hl]; rw [sizeLine_eq] at few; omega) ?_
  rw [← hl]
  exact ⟨.int ((Ls.length : Nat) : Int), H, I.tok _, ⟨_, rfl⟩, q⟩
def rLenDk (w : World) : R1D := fun d M Q => mDkd w M d fun ks _ => Q (.int ks.length) M
theorem calld_lenDk : CallD X (.builtin "len") (rLenDk X.w) := ⟨_, call_lenK, fun R F M H d x Qd Q a r q kd => by
  obtain ⟨p, Ls, ds, rfl, rd, r1, r2, q⟩ := mDkd_at a r q
  refine ⟨p, Ls, F, rfl, rd, a.fz, reps_all r1, ?_⟩
  rw [List.length_map] at q
  exact kd F H M (.int _) _ (Same.refl _) a rfl q⟩
end
end L3
set_option Elab.async false
set_option linter.all false
set_option maxRecDepth 100000
set_option maxHeartbeats 1000000
namespace L3
open PySem PySem.Spec PyProof.Rows L2
local macro_rules | `(tactic| walk_at "w") => `(tactic| conv => whnf)
def deStep (d : D) : Str × Str × St := match d with
  | .tup [.str a, .str b, c] => (a, b, deSt c)
  | _ => (Str.empty, Str.empty, ⟨[], [], 0, 0⟩)
def stepSD (p : Str × Str × St) : D := .tup [.str p.1, .str p.2.1, stD p.2.2]
def stepS (ws : List Wr) (s : St) : List (Str × Str × St) := (stepsD ws s).map deStep
theorem stepS_map (ws : List Wr) (s : St) : stepsD ws s = (stepS ws s).map stepSD := by
  unfold stepS
  rw [List.map_map]
  conv => lhs; rw [← List.map_id (stepsD ws s)]
  refine List.map_congr_left fun d hd => ?_
  obtain ⟨i, w, a, _, rfl⟩ := steps_mem hd
  show _ = D.tup [.str a.sg, .str w.name, stD (deSt (stD _))]
  rw [deSt_st]; rfl
theorem stepS_mem {ws : List Wr} {s : St} {p : Str × Str × St} (h : p ∈ stepS ws s) : ∃ i w a, IsStep2 ws s i w a ∧ p = (a.sg, w.name, aft ws w s i a.to) := by
  obtain ⟨d, hd, rfl⟩ := List.mem_map.mp h
  obtain ⟨i, w, a, hs, rfl⟩ := steps_mem2 hd
  refine ⟨i, w, a, hs, ?_⟩
  show (a.sg, w.name, deSt (stD _)) = _
  rw [deSt_st]
theorem stepS_len {ws : List Wr} (hok : CrewOk ws) (s : St) : (stepS ws s).length ≤ 27 := by
  unfold stepS; rw [List.length_map]; exact steps_len hok s
abbrev Wy := List (St × List Str)
def hasW (l : Wy) (t : St) : Bool := l.any fun p => sameK (stD p.1) (stD t)
def addW (strip : List Str) (l : Wy) (p : Str × Str × St) : Wy := if hasW l p.2.2 = true then l else l ++ [(p.2.2, strip ++ [p.1])]
def expW (ws : List Wr) (s : St) (strip : List Str) (l : Wy) : Wy := (stepS ws s).foldl (addW strip) l
def bfs (ws : List Wr) : Nat → Wy
  | 0 => [(st0 ws.length, [])]
  | k + 1 => match (bfs ws k)[k]? with
    | some p => expW ws p.1 p.2 (bfs ws k)
    | none => bfs ws k
def kW (p : St × List Str) : D := stD p.1
def vW (p : St × List Str) : D := .tup (p.2.map D.str)
theorem has_iff {l : Wy} {t : St} : hasW l t = true ↔ ∃ p ∈ l, p.1 = t := by
  unfold hasW
  rw [List.any_eq_true]
  exact ⟨fun ⟨p, hp, e⟩ => ⟨p, hp, sameK_st e⟩, fun ⟨p, hp, e⟩ => ⟨p, hp, by rw [e]; exact decide_eq_true rfl⟩⟩
theorem has_keys {l : Wy} {t : St} : ((l.map kW).any fun k => sameK k (stD t)) = hasW l t := by
  rw [List.any_map]; rfl
/-- what is gathered on the way -/
structure WyOk (ws : List Wr) (n m : Nat) (l : Wy) : Prop where
  nd : (l.map (·.1)).Nodup
  good : ∀ p ∈ l, Good ws p.1
  strip : ∀ p ∈ l, p.2.length ≤ m
  len : l.length ≤ n
theorem WyOk.mono {ws : List Wr} {n m n' m' : Nat} {l : Wy} (h : WyOk ws n m l) (h1 : n ≤ n') (h2 : m ≤ m') : WyOk ws n' m' l := ⟨h.nd, h.good, fun p hp => Nat.le_trans (h.strip p hp) h2, Nat.le_trans h.len h1⟩
theorem WyOk.add {ws : List Wr} {n m : Nat} {l : Wy} (h : WyOk ws n m l) {strip : List Str} (hs : strip.length + 1 ≤ m) {p : Str × Str × St} (g : Good ws p.2.2) : WyOk ws (n + 1) m (addW strip l p) := by
  unfold addW
  by_cases c : hasW l p.2.2 = true
  · rw [if_pos c]; exact h.mono (by omega) (Nat.le_refl _)
  · rw [if_neg c]
    refine ⟨?_, fun q hq => ?_, fun q hq => ?_, by rw [List.length_append]; have := h.len; show _ + 1 ≤ _; omega⟩
    · rw [List.map_append]
      refine List.nodup_append.mpr ⟨h.nd, List.nodup_cons.mpr ⟨List.not_mem_nil, List.nodup_nil⟩, fun a ha b hb => ?_⟩
      rw [List.mem_singleton.mp hb]
      intro e
      obtain ⟨q, hq, e2⟩ := List.mem_map.mp ha
      exact c (has_iff.mpr ⟨q, hq, e2.trans e⟩)
    · rcases List.mem_append.mp hq with hq | hq
      · exact h.good q hq
      · rw [List.mem_singleton.mp hq]; exact g
    · rcases List.mem_append.mp hq with hq | hq
      · exact h.strip q hq
      · rw [List.mem_singleton.mp hq, List.length_append]; exact hs
theorem addW_pre (strip : List Str) (l : Wy) (p : Str × Str × St) : ∃ r, addW strip l p = l ++ r := by
  unfold addW
  split
  · exact ⟨[], (List.append_nil _).symm⟩
  · exact ⟨_, rfl⟩
theorem fold_pre (strip : List Str) : ∀ (ps : List (Str × Str × St)) (l : Wy), ∃ r, ps.foldl (addW strip) l = l ++ r
  | [], l => ⟨[], (List.append_nil _).symm⟩
  | p :: ps, l => by
    obtain ⟨r, e⟩ := addW_pre strip l p
    obtain ⟨r2, e2⟩ := fold_pre strip ps (addW strip l p)
    exact ⟨r ++ r2, by rw [List.foldl_cons, e2, e, List.append_assoc]⟩
theorem fold_at {strip : List Str} {ps : List (Str × Str × St)} {l : Wy} {i : Nat} {p : St × List Str} (h : l[i]? = some p) : (ps.foldl (addW strip) l)[i]? = some p := by
  obtain ⟨r, e⟩ := fold_pre strip ps l
  rw [e, List.getElem?_append_left (List.getElem?_eq_some_iff.mp h).1]; exact h
theorem fold_ok {ws : List Wr} {m : Nat} {strip : List Str} (hs : strip.length + 1 ≤ m) : ∀ {ps : List (Str × Str × St)} {n : Nat} {l : Wy}, WyOk ws n m l → (∀ p ∈ ps, Good ws p.2.2) → WyOk ws (n + ps.length) m (ps.foldl (addW strip) l)
  | [], n, l, h, _ => h
  | p :: ps, n, l, h, hg => (fold_ok hs (h.add hs (hg p List.mem_cons_self)) fun q hq => hg q (List.mem_cons_of_mem _ hq)).mono (by rw [List.length_cons]; omega) (Nat.le_refl _)
theorem steps_good {ws : List Wr} (hok : CrewOk ws) {s : St} (g : Good ws s) : ∀ p ∈ stepS ws s, Good ws p.2.2 := fun p hp => by
  obtain ⟨i, w, a, hs, rfl⟩ := stepS_mem hp
  exact (good_step hok g hs).1
theorem bfs_ok {ws : List Wr} (hok : CrewOk ws) : ∀ k, WyOk ws (1 + 27 * k) k (bfs ws k)
  | 0 => ⟨List.nodup_cons.mpr ⟨List.not_mem_nil, List.nodup_nil⟩, fun p hp => by rw [List.mem_singleton.mp hp]; exact good0 ws, fun p hp => by rw [List.mem_singleton.mp hp]; exact Nat.le_refl _, Nat.le_refl _⟩
  | k + 1 => by
    have ih := bfs_ok hok k
    unfold bfs
    split
    · rename_i p hp
      have hm := List.mem_of_getElem? hp
      have z := stepS_len hok p.1
      exact (fold_ok (ws := ws) (m := k + 1) (strip := p.2) (by have := ih.strip p hm; omega) (ih.mono (Nat.le_refl _) (Nat.le_succ k)) (steps_good hok (ih.good p hm))).mono (by omega) (Nat.le_refl _)
    · exact ih.mono (by omega) (Nat.le_succ k)
theorem look_wy : ∀ {l : Wy} {i : Nat} {p : St × List Str}, (l.map (·.1)).Nodup → l[i]? = some p → lookD (l.map kW) (l.map vW) (stD p.1) = some (vW p)
  | [], i, p, _, h => by simp at h
  | q :: l, 0, p, _, h => by
    cases h
    show (if sameK (stD q.1) (stD q.1) = true then some (vW q) else _) = _
    rw [if_pos (show sameK (stD q.1) (stD q.1) = true from decide_eq_true rfl)]
  | q :: l, i + 1, p, nd, h => by
    rw [List.map_cons, List.nodup_cons] at nd
    show (if sameK (stD q.1) (stD p.1) = true then some (vW q) else lookD (l.map kW) (l.map vW) (stD p.1)) = _
    rw [if_neg fun c => nd.1 (by rw [sameK_st c]; exact List.mem_map.mpr ⟨p, List.mem_of_getElem? h, rfl⟩)]
    exact look_wy nd.2 h
theorem put_keys {strip : List Str} {l : Wy} {p : Str × Str × St} (h : hasW l p.2.2 = false) : addD (l.map kW) (stD p.2.2) = (addW strip l p).map kW := by
  unfold addD addW
  rw [has_keys, h, if_neg Bool.false_ne_true, if_neg Bool.false_ne_true, List.map_append]; rfl
theorem put_vals {strip : List Str} {l : Wy} {p : Str × Str × St} (h : hasW l p.2.2 = false) : setD (l.map kW) (l.map vW) (stD p.2.2) (.tup ((strip.map D.str) ++ [.str p.1])) = (addW strip l p).map vW := by
  unfold setD addW
  rw [has_keys, h, if_neg Bool.false_ne_true, if_neg Bool.false_ne_true, List.map_append]
  show _ = _ ++ [D.tup ((strip ++ [p.1]).map D.str)]
  rw [List.map_append]; rfl
def waysDk (wd : World) (ws : List Wr) (n : Nat) : D := .dkd wd ((bfs ws n).map kW) ((bfs ws n).map vW)
def sp_law_ways (wd : World) : SpD := fun ds M Q _ => ∃ ws, ∃ n : Nat, ds = [.lst (ws.map wrD), .int (n : Int)] ∧ CrewOk ws ∧ n ≤ 61 ∧ Q (waysDk wd ws n) M
def t_law_ways_1 (wd : World) : DS := (dFrzN 4 (dFrzN 3 (dRet (dVar 3))))
def t_law_ways (wd : World) : DS := (dSeq (dPar 3 4 (dCons (dDk1 wd (dCall sp_law_begin (dCons (dVar 0) dNil)) (dTup dNil)) (dCons (dLstM (dCons (dCall sp_law_begin (dCons (dVar 0) dNil)) dNil)) dNil)))
    (dSeq (dFor (iRange1 (dCons (dVar 1) dNil)) (.name 2) (dIfS (dTest (dBin rLtI (dVar 2) (dUn rLenD (dVar 4)))) (dFor (iLst (dCall sp_law_steps (dCons (dVar 0) (dCons (dBin rIxD (dVar 4) (dVar 2)) dNil)))) (.tup [(.name 5), (.name 6), (.name 7)]) (dIfS (dTest (dBin (rInDk wd not) (dVar 7) (dVar 3))) (dSeq (dSetDk wd (dBin rAddD (dIxDk wd (dVar 3) (dBin rIxD (dVar 4) (dVar 2))) (dTup (dCons (dVar 5) dNil))) (dVar 3) (dVar 7))
    (dDrop (dAppend (dVar 4) (dVar 7)))) dNext)) dNext))
    (t_law_ways_1 wd)))
def wayM (wd : World) (M : Mp) (pd pw : Addr) (l : Wy) : Mp := mupd (mupd M pd (.dkd wd (l.map kW) (l.map vW))) pw (.lst (l.map kW))
theorem way_pw {wd : World} {M : Mp} {pd pw : Addr} {l : Wy} : resD (wayM wd M pd pw l) (.ref pw) = .lst (l.map kW) := resD_of mupd_same
theorem way_pw' {wd : World} {M : Mp} {pd pw : Addr} {l : Wy} : wayM wd M pd pw l pw = some (.lst (l.map kW)) := mupd_same
theorem way_del {wd : World} {M : Mp} {pd pw : Addr} {l : Wy} (h : mupd M pd (.dkd wd (l.map kW) (l.map vW)) pw = none) : mdel (wayM wd M pd pw l) pw = mupd M pd (.dkd wd (l.map kW) (l.map vW)) := mdel_mupd h
theorem way_pd {wd : World} {M : Mp} {pd pw : Addr} {l : Wy} (h : pd ≠ pw) : wayM wd M pd pw l pd = some (.dkd wd (l.map kW) (l.map vW)) := by
  unfold wayM; rw [mupd_ne h, mupd_same]
theorem way_up {wd : World} {M : Mp} {pd pw : Addr} {l l' : Wy} (h : pd ≠ pw) : mupd (mupd (wayM wd M pd pw l) pd (.dkd wd (l'.map kW) (l'.map vW))) pw (.lst (l'.map kW)) = wayM wd M pd pw l' := by
  unfold wayM
  rw [mupd_comm (Ne.symm h), mupd_mupd, mupd_mupd]
theorem r_law_ways (wd : World) (ds : List D) (M : Mp) (Q : DK) (E : DX) (hl : ds.length = 2) (h : sp_law_ways wd ds M Q E) : t_law_ways wd { nx := fun _ M' => Q .non M', rt := Q } (startD ["_law_m", "_law_limit", "_law_turn", "_law_ways_here", "_law_waiting", "_law_sign", "_law_name", "_law_later"] ds) M := by
  obtain ⟨ws, n, rfl, hok, hn, q⟩ := h
  have hfew := hok.few
  walk_at "w"
  refine ⟨ws, rfl, hfew, ?_⟩
  walk_at "w"
  refine ⟨isKeyB_st _, fun pd hpd => ?_⟩
  walk_at "w"
  refine ⟨ws, rfl, hfew, ?_⟩
  walk_at "w"
  intro pw hpw
  have hne : pd ≠ pw := fun e => by subst e; rw [mupd_same] at hpw; cases hpw
  have hpw0 : M pw = none := by rw [mupd_ne (Ne.symm hne)] at hpw; exact hpw
  walk_at "w"
  refine ⟨⟨by omega, by omega⟩, ?_⟩
  rw [Int.toNat_natCast, rng0]
  refine for_inv (fun i env M' => ∃ e2 e5 e6 e7, M' = wayM wd M pd pw (bfs ws i) ∧ env = [some (.lst (ws.map wrD)), some (.int (n : Int)), e2, some (.ref pd), some (.ref pw), e5, e6, e7]) ⟨_, _, _, _, rfl, rfl⟩ (fun i x env M' K hx ⟨e2, e5, e6, e7, eM, ee⟩ hK => ?_) fun env M' ⟨e2, e5, e6, e7, eM, ee⟩ => ?_
  · subst eM ee
    rw [List.getElem?_map] at hx
    obtain ⟨k, hk, rfl⟩ := Option.map_eq_some_iff.mp hx
    obtain ⟨hkl, rfl⟩ : i < n ∧ k = i := by
      obtain ⟨h1, h2⟩ := List.getElem?_eq_some_iff.mp hk
      rw [List.length_range] at h1
      rw [List.getElem_range] at h2
      exact ⟨h1, h2.symm⟩
    have ok := bfs_ok hok k
    walk_at "w"
    rw [way_pw]
    walk_at "w"
    rw [List.length_map]
    refine brn_by (fun hc => ?_) fun hc => ?_
    · have hk2 : k < (bfs ws k).length := Int.ofNat_lt.mp (of_decide_eq_true hc)
      obtain ⟨p, hp⟩ : ∃ p, (bfs ws k)[k]? = some p := ⟨_, List.getElem?_eq_getElem hk2⟩
      have hm := List.mem_of_getElem? hp
      have g := ok.good p hm
      walk_at "w"
      rw [way_pw]
      walk_at "w"
      rw [atI_map (f := kW) hp]
      refine ⟨ws, p.1, rfl, hok, g.ok, ?_⟩
      walk_at "w"
      rw [stepS_map]
      have hps := steps_good hok g
      have hsl := stepS_len hok p.1
      have hst := ok.strip p hm
      have okj : ∀ j, WyOk ws (1 + 27 * k + 27) (k + 1) (((stepS ws p.1).take j).foldl (addW p.2) (bfs ws k)) := fun j => (fold_ok (ws := ws) (m := k + 1) (strip := p.2) (by omega) (ok.mono (Nat.le_refl _) (Nat.le_succ k)) fun x hx => hps x (List.mem_of_mem_take hx)).mono (by rw [List.length_take]; omega) (Nat.le_refl _)
      refine for_inv (fun j env M' => ∃ e5 e6 e7, M' = wayM wd M pd pw (((stepS ws p.1).take j).foldl (addW p.2) (bfs ws k)) ∧ env = [some (.lst (ws.map wrD)), some (.int (n : Int)), some (natI k), some (.ref pd), some (.ref pw), e5, e6, e7]) ⟨_, _, _, rfl, rfl⟩ (fun j x env M' K2 hx ⟨e5, e6, e7, eM, ee⟩ hK2 => ?_) fun env M' ⟨e5, e6, e7, eM, ee⟩ => ?_
      · subst eM ee
        have lj := okj j
        have pj : (((stepS ws p.1).take j).foldl (addW p.2) (bfs ws k))[k]? = some p := fold_at hp
        rw [List.getElem?_map] at hx
        obtain ⟨y, hy, rfl⟩ := Option.map_eq_some_iff.mp hx
        have et : ((stepS ws p.1).take (j + 1)).foldl (addW p.2) (bfs ws k) = addW p.2 (((stepS ws p.1).take j).foldl (addW p.2) (bfs ws k)) y := by
          rw [List.take_add_one, hy, List.foldl_append]; rfl
        rw [et] at hK2
        generalize ((stepS ws p.1).take j).foldl (addW p.2) (bfs ws k) = l at lj pj hK2 ⊢
        have ll := lj.len
        walk_at "w"
        rw [way_pd hne]
        walk_at "w"
        refine ⟨rfl, isKeyB_st _, ?_⟩
        rw [has_keys]
        walk_at "w"
        refine brn_by (fun hc => ?_) fun hc => ?_
        · have hc' : hasW l y.2.2 = false := by
            cases c : hasW l y.2.2 with
            | false => rfl
            | true => rw [c] at hc; cases hc
          walk_at "w"
          rw [way_pw]
          walk_at "w"
          rw [atI_map (f := kW) pj]
          walk_at "w"
          rw [way_pd hne]
          walk_at "w"
          refine ⟨rfl, isKeyB_st _, ?_⟩
          rw [show kW p = stD p.1 from rfl, look_wy lj.nd pj]
          walk_at "w"
          refine ⟨?_, ?_⟩
          · rw [List.length_map, sizeLine_eq]; show _ + 1 ≤ _; have := lj.strip p (List.mem_of_getElem? pj); omega
          walk_at "w"
          rw [way_pd hne]
          walk_at "w"
          refine ⟨⟨rfl, isKeyB_st _, by rw [List.length_map, sizeLine_eq]; omega⟩, ?_⟩
          have pv : setD (l.map kW) (l.map vW) (stD y.2.2) (.tup ((p.2.map D.str) ++ [.str y.1])) = (addW p.2 l y).map vW := put_vals hc'
          have pk : addD (l.map kW) (stD y.2.2) = (addW p.2 l y).map kW := put_keys hc'
          rw [pk, pv]
          walk_at "w"
          refine ⟨?_, ?_⟩
          · walk_at "w"
            rw [mupd_ne (Ne.symm hne), way_pw']
            trivial
          walk_at "w"
          rw [mupd_ne (Ne.symm hne), way_pw']
          walk_at "w"
          refine ⟨by rw [List.length_map, sizeLine_eq]; omega, ?_⟩
          refine hK2 _ _ ⟨_, _, _, ?_, rfl⟩
          have e : l.map kW ++ [stD y.2.2] = (addW p.2 l y).map kW := by
            unfold addW; rw [hc', if_neg Bool.false_ne_true, List.map_append]; rfl
          rw [e, way_up hne]
        · have hc' : hasW l y.2.2 = true := by
            cases c : hasW l y.2.2 with
            | true => rfl
            | false => rw [c] at hc; cases hc
          refine hK2 _ _ ⟨_, _, _, ?_, rfl⟩
          unfold addW
          rw [hc', if_pos rfl]
      · subst eM ee
        rw [List.length_map, List.take_length]
        refine hK _ _ ⟨_, _, _, _, ?_, rfl⟩
        show _ = wayM wd M pd pw (match (bfs ws k)[k]? with
          | some p => expW ws p.1 p.2 (bfs ws k)
          | none => bfs ws k)
        rw [hp]; rfl
    · have hk2 : ¬ k < (bfs ws k).length := fun h => of_decide_eq_false hc (Int.ofNat_lt.mpr h)
      refine hK _ _ ⟨_, _, _, _, ?_, rfl⟩
      show _ = wayM wd M pd pw (match (bfs ws k)[k]? with
        | some p => expW ws p.1 p.2 (bfs ws k)
        | none => bfs ws k)
      rw [List.getElem?_eq_none (by omega)]
  · subst eM ee
    rw [List.length_map, List.length_range]
    walk_at "w"
    rw [way_pw']
    walk_at "w"
    rw [way_del (by rw [mupd_ne (Ne.symm hne)]; exact hpw0)]
    walk_at "w"
    rw [mupd_same]
    walk_at "w"
    rw [mdel_mupd hpd]
    exact q
/-- the store on the way -/
structure WayS (wd : World) (M : Mp) (pd pw : Addr) (l : Wy) (M' : Mp) : Prop where
  gr : Grown M M'
  dk : M' pd = some (.dkd wd (l.map kW) (l.map vW))
  ls : M' pw = some (.lst (l.map kW))
theorem WayS.new {wd : World} {M M' : Mp} {pd pw p : Addr} {l : Wy} {o : MO} (h : WayS wd M pd pw l M') (hp : M' p = none) : WayS wd M pd pw l (mupd M' p o) where
  gr := fun b u hb => grown_new hp b u (h.gr b u hb)
  dk := by rw [mupd_ne (fun e => by rw [← e, h.dk] at hp; cases hp)]; exact h.dk
  ls := by rw [mupd_ne (fun e => by rw [← e, h.ls] at hp; cases hp)]; exact h.ls
theorem WayS.put {wd : World} {M M' : Mp} {pd pw : Addr} {l l' : Wy} (h : WayS wd M pd pw l M') (hne : pd ≠ pw) (h1 : M pd = none) (h2 : M pw = none) : WayS wd M pd pw l' (mupd (mupd M' pd (.dkd wd (l'.map kW) (l'.map vW))) pw (.lst (l'.map kW))) where
  gr := fun b u hb => by
    rw [mupd_ne (fun e => by rw [e, h2] at hb; cases hb), mupd_ne (fun e => by rw [e, h1] at hb; cases hb)]
    exact h.gr b u hb
  dk := by rw [mupd_ne hne, mupd_same]
  ls := mupd_same
theorem WayS.out {wd : World} {M M' : Mp} {pd pw : Addr} {l : Wy} (h : WayS wd M pd pw l M') (h1 : M pd = none) (h2 : M pw = none) : Grown M (mdel (mdel M' pw) pd) := fun b u hb => by
  rw [mdel_ne (fun e => by rw [e, h1] at hb; cases hb), mdel_ne (fun e => by rw [e, h2] at hb; cases hb)]
  exact h.gr b u hb
end L3
set_option Elab.async false
set_option linter.all false
set_option maxRecDepth 100000
set_option maxHeartbeats 2000000
set_option Elab.async false
set_option linter.all false
set_option maxRecDepth 100000
set_option maxHeartbeats 1000000
namespace L3
open PySem PySem.Spec PyProof.Rows L2
local macro_rules | `(tactic| walk_at "w") => `(tactic| conv => whnf)
end L3
set_option Elab.async false
set_option linter.all false
set_option maxRecDepth 100000
set_option maxHeartbeats 1000000
namespace L3
open PySem PySem.Spec PyProof.Rows L2
/-- a def and its keyword-only defaults -/
structure FnKAt (K : PySem.W.Frag) (mg : Str → Option Value) (x : Str) (st : Stmt) (kwd : List (Str × D)) : Prop where
  ex : ∃ f fd kws, FunD K x x (defArgs st) (defBody st) (defScope st) [] kws f fd ∧ mg x = some (.ref f) ∧ kws.map (·.1) = kwd.map (·.1) ∧ ∀ F, Reps K F (kwd.map (·.2)) (kws.map (·.2))
structure FnKOk (P : Program) (w : World) (K : PySem.W.Frag) (mg : Str → Option Value) (base : Heap) (k : Nat) (x : Str) (st : Stmt) (ps : List Str) (kwd : List (Str × D)) (sp : SpD) : Prop where
  ex : ∃ f fd kws, FnOk P w K mg base (L2N.CX P w) k f fd ps (upSp K ps.length sp) ∧ FunD K x x (defArgs st) (defBody st) (defScope st) [] kws f fd ∧ mg x = some (.ref f) ∧ kws.map (·.1) = kwd.map (·.1) ∧ ∀ F, Reps K F (kwd.map (·.2)) (kws.map (·.2))
section
variable {P : Program} {w : World} {K : PySem.W.Frag} {mg : Str → Option Value} {base : Heap} {k : Nat} {x : Str} {st : Stmt} {N ps : List Str} {kwd : List (Str × D)} {sp : SpD}
theorem fnK_ok {t : DS} (d : FnKAt K mg x st kwd) (S : FnScope N ps (defScope st))
    (hb : ∀ f cdv A outer s H E, Room k (A.deeper (envOfC x (defScope st) s.heap.objs.size f cdv)) → PDSs (methCx P w K mg base N x st f cdv A outer s H E) (defBody st) t)
    (hr : ∀ ds M Q E, ds.length = ps.length → sp ds M Q E → t { nx := fun _ M' => Q .non M', rt := Q } (startD N ds) M) : FnKOk P w K mg base (k + 1) x st ps kwd sp := by
  obtain ⟨f, fd, kws, F, hm, hn, hd⟩ := d.ex
  exact ⟨f, fd, kws, def_fnQ F S hb hr, F, hm, hn, hd⟩
/-- called with n values and the keywords ks; g puts them, and the lacking ones' data, in the parameters' order -/
structure CallGOk (P : Program) (w : World) (K : PySem.W.Frag) (mg : Str → Option Value) (base : Heap) (k : Nat) (x : Str) (n : Nat) (ks : List Str) (g : List D → List D → List D) (sp : SpD) : Prop where
  ex : ∃ f fd ps gv gV np, FnOk P w K mg base (L2N.CX P w) k f fd ps (upSp K np sp) ∧ mg x = some (.ref f) ∧ PySem.W.keepIn K (.ref f) = true ∧ KBn K fd ps n ks gv gV ∧
    ∀ F ds vs es zs, Reps K F ds vs → Reps K F es zs → ds.length = n → es.length = ks.length → Reps K F (g ds es) (gV vs zs) ∧ (g ds es).length = np
theorem CallGOk.mono {j n : Nat} {ks : List Str} {g : List D → List D → List D} (d : CallGOk P w K mg base j x n ks g sp) (h : j ≤ k) : CallGOk P w K mg base k x n ks g sp := by
  obtain ⟨f, fd, ps, gv, gV, np, a, b⟩ := d.ex
  exact ⟨f, fd, ps, gv, gV, np, a.mono h, b⟩
/-- is: the numbers of the keyword-only parameters that lack -/
theorem FnKOk.call (o : FnKOk P w K mg base k x st ps kwd sp) (n : Nat) (ks : List Str) (is : List Nat)
    (g : {α : Type} → List α → List α → List α → List α) (gD : List D → List D → List D) (hne : kwd ≠ []) (his : ∀ i ∈ is, i < kwd.length) (hgD : ∀ ds es, gD ds es = g ds (is.map fun i => ((kwd.map (·.2))[i]?).getD .non) es)
    (hlen : ∀ ds es : List D, ds.length = n → es.length = ks.length → (gD ds es).length = ps.length)
    (hrel : ∀ {vs mz zs : List V} {us mv ws : List Value}, Vals vs us → Vals mz mv → Vals zs ws → Vals (g vs mz zs) (g us mv ws))
    (hrep : ∀ (K : PySem.W.Frag) (F : Hp) {ds ms es : List D} {vs mz zs : List V}, Reps K F ds vs → Reps K F ms mz → Reps K F es zs → Reps K F (g ds ms es) (g vs mz zs))
    (h : ∀ (D : Addr) (doc pm : Value) (an : Option Addr) (cdv ct : Value) (us mv ws : List Value), us.length = n → mv.length = is.length → ws.length = ks.length →
      KwChain D ((is.map fun i => ((kwd.map (·.1))[i]?).getD Str.empty).zip mv) (bindArgs (PySem.W.fnOf x x (defArgs st) (defBody st) (defScope st) .none (.ref D) doc pm an cdv ct) ⟨us, ks.zip ws⟩) (ps.zip (g us mv ws))) :
    CallGOk P w K mg base k x n ks gD sp := by
  obtain ⟨f, fd, kws, G, F, hm, hn, hd⟩ := o.ex
  have lk : kws.length = kwd.length := by simpa using congrArg List.length hn
  have kne : kws ≠ [] := fun e => hne (List.eq_nil_of_length_eq_zero (by rw [← lk, e]; rfl))
  have pick : ∀ i, i < kwd.length → kws[i]? = some ((kws[i]?).getD (Str.empty, V.non)) := fun i hi => by
    rw [List.getElem?_eq_getElem (show i < kws.length by omega)]; rfl
  obtain ⟨mv, hb⟩ := F.kbinds0 (ps := ps) n ks (is.map fun i => (kws[i]?).getD (Str.empty, V.non)) g kne (fun q hq => by
    obtain ⟨i, hi, rfl⟩ := List.mem_map.mp hq
    exact List.mem_of_getElem? (pick i (his i hi))) hrel fun D doc pm an cdv ct us mv ws l1 l2 l3 => by
      have e : (is.map fun i => (kws[i]?).getD (Str.empty, V.non)).map (·.1) = is.map fun i => ((kwd.map (·.1))[i]?).getD Str.empty := by
        rw [List.map_map]
        exact List.map_congr_left fun i hi => by rw [← hn, List.getElem?_map, pick i (his i hi)]; rfl
      rw [e]
      exact h D doc pm an cdv ct us mv ws l1 (by simpa using l2) l3
  refine ⟨f, fd, ps, _, _, ps.length, G, hm, F.kp, hb, fun F' ds vs es zs r1 r2 l1 l2 => ⟨?_, hlen ds es l1 l2⟩⟩
  rw [hgD]
  refine hrep K F' r1 ?_ r2
  have all := hd F'
  clear hb hgD hlen h
  induction is with
  | nil => exact rfl
  | cons i is ih =>
    have hi := his i List.mem_cons_self
    have e1 : (kwd.map (·.2))[i]? = some (((kwd.map (·.2))[i]?).getD .non) := by
      rw [List.getElem?_eq_getElem (by rw [List.length_map]; exact hi)]; rfl
    obtain ⟨v, hv, rv⟩ := all.get e1
    refine ⟨_, _, rfl, ?_, ih fun j hj => his j (List.mem_cons_of_mem _ hj)⟩
    have e2 : ((kws[i]?).getD (Str.empty, V.non)).2 = v := by
      rw [List.getElem?_map, pick i hi] at hv
      exact Option.some.inj hv
    show Rep K F' _ ((kws[i]?).getD (Str.empty, V.non)).2
    rw [e2]; exact rv
end
def dCallG (sp : SpD) (g : List D → List D → List D) (t tk : DA) : DE := fun env M Q => t env M fun ds M1 => tk env M1 fun es M2 => sp (g ds es) M2 Q X0
section
variable {X : Cx} {E : XK} {e : Expr} {es : List Expr} {kws : List Keyword} {t tk : DA} {pos p : Pos}
theorem pd_callG {k n : Nat} {x : Str} {ks : List Str} {g : List D → List D → List D} {sp : SpD} (d : CallGOk X.prog X.w X.K X.mg X.base k x n ks g sp) (hr : Room k X.A) (ha : PDA X (e :: es) t) (hkw : PDK X kws tk) (hn : (e :: es).length = n := by rfl) (hl : kws.length = ks.length := by rfl) (hg : Gl X x := by rfl)
    (hall : (backToKw pos (keywordEach kws X.env)).all (·.1.isSome) = true := by rfl) (hks : (backToKw pos (keywordEach kws X.env)).filterMap (·.1) = ks := by rfl)
    (hdb : (x == ("__debug__" : Str)) = false := by decide) (he : starEach (e :: es) X.env = (false, eval e X.env) :: starEach es X.env := by rfl)
    (hpl : ((backTo pos (starEach (e :: es) X.env)).any (·.1) || (backToKw pos (keywordEach kws X.env)).any (·.1.isNone)) = false := by rfl) :
    PDE X (.Call (.Name x p) (e :: es) kws pos) (dCallG sp g t tk) := by
  obtain ⟨f, fd, ps, gv, gV, np, F, hm, hk, hb, hrep⟩ := d.ex
  refine pe_imp (pe_callN F hr hg hm hk hb passE0 ha hkw hall hks hdb he hpl) fun σ H Q ⟨R, F, env, M, Qd, a, e, h, k⟩ => ⟨R, F, env, M, _, a, e, h, fun F1 H1 M1 ds vs s1 a1 r1 l1 q1 => ⟨R, F1, env, M1, _, a1, e.mono s1, q1, fun F2 H2 M2 es' zs s2 a2 r2 l2 q2 => ⟨by rw [← r1.length, l1, hn], by rw [← r2.length, l2, hl], ?_⟩⟩⟩
  obtain ⟨z1, z2⟩ := hrep F2 ds vs es' zs (r1.mono s2) r2 (l1.trans hn) (l2.trans hl)
  exact ⟨R, F2, M2, g ds es', Qd, X0, a2, z1, z2, q2, k.mono (s1.trans s2), kx0⟩
end
end L3
set_option Elab.async false
set_option linter.all false
set_option maxRecDepth 100000
set_option maxHeartbeats 2000000
set_option Elab.async false
set_option linter.all false
set_option maxRecDepth 100000
set_option maxHeartbeats 1000000
namespace L3
open PySem PySem.Spec PyProof.Rows L2
local macro_rules | `(tactic| walk_at "w") => `(tactic| conv => whnf)
/-- kinds that are stamped: a name, a sign -/
abbrev Kind := Str × Str
def kdD (k : Kind) : D := .tup [.str k.1, .str k.2]
def alB (ks : List Kind) (a b sg : Str) : Bool := decide (a = b) || (!decide ((a, sg) ∈ ks) && !decide ((b, sg) ∈ ks))
theorem eqD_kd {k : Kind} {a b : Str} : eqD (kdD k) (.tup [.str a, .str b]) = decide (k = (a, b)) := by
  obtain ⟨x, y⟩ := k
  show (((x == a) && ((y == b) && true)) = _)
  rw [Bool.and_true, beq_str, beq_str, ← Bool.decide_and]
  exact decide_eq_decide.mpr ⟨fun h => by rw [h.1, h.2], fun h => ⟨congrArg Prod.fst h, congrArg Prod.snd h⟩⟩
theorem any_kd {ks : List Kind} {a b : Str} : ((ks.map kdD).any fun z => eqD z (.tup [.str a, .str b])) = decide ((a, b) ∈ ks) := by
  rw [List.any_map, Bool.eq_iff_iff, List.any_eq_true, decide_eq_true_eq]
  constructor
  · rintro ⟨k, hk, h⟩
    have h' : eqD (kdD k) (.tup [.str a, .str b]) = true := h
    rw [eqD_kd, decide_eq_true_eq] at h'
    rw [← h']; exact hk
  · exact fun h => ⟨(a, b), h, by show eqD (kdD (a, b)) _ = true; rw [eqD_kd]; exact decide_eq_true rfl⟩
def sp_is_alike : SpD := fun ds M Q _ => ∃ a b sg d, ∃ ks : List Kind, ds = [.str a, .str b, .str sg, d] ∧ IsRow d (ks.map kdD) ∧ ks.length ≤ 100 ∧ Q (.bl (alB ks a b sg)) M
def sp_law_alike : SpD := sp_is_alike
def t_is_alike : DS := (dRet (dOrV (dBin (rEqDD id) (dVar 0) (dVar 1)) (dAndV (dBin (rInDD not) (dTup (dCons (dVar 0) (dCons (dVar 2) dNil))) (dVar 3)) (dBin (rInDD not) (dTup (dCons (dVar 1) (dCons (dVar 2) dNil))) (dVar 3)))))
theorem alB_cases (ks : List Kind) (a b sg : Str) : (a = b → alB ks a b sg = true) ∧ (¬ a = b → alB ks a b sg = (!decide ((a, sg) ∈ ks) && !decide ((b, sg) ∈ ks))) :=
  ⟨fun h => by unfold alB; rw [decide_eq_true h]; rfl, fun h => by unfold alB; rw [decide_eq_false h]; rfl⟩
theorem r_is_alike_any (xs : List Str) (hx : xs.length = 4) (ds : List D) (M : Mp) (Q : DK) (E : DX) (hl : ds.length = 4) (h : sp_is_alike ds M Q E) : t_is_alike { nx := fun _ M' => Q .non M', rt := Q } (startD xs ds) M := by
  obtain ⟨a, b, sg, d, ks, rfl, hd, hlen, q⟩ := h
  match xs, hx with
  | [x0, x1, x2, x3], _ =>
  have l1 : ∀ a : Str, D.le 60 (.tup [.str a, .str sg]) = true := fun a => rfl
  have l2 : D.les 58 (ks.map kdD) = true := les_of fun d hd => by obtain ⟨k, _, rfl⟩ := List.mem_map.mp hd; rfl
  have e0 : eqD (resD M (.str a)) (resD M (.str b)) = decide (a = b) := by show eqD (.str a) (.str b) = _; rw [eqD_str, beq_str]
  obtain ⟨c1, c2⟩ := alB_cases ks a b sg
  rcases hd with rfl | rfl
  all_goals
    walk_at "w"
    refine ⟨⟨rfl, rfl⟩, ?_⟩
    walk_at "w"
    rw [e0]
    by_cases hab : a = b
    · rw [decide_eq_true hab]
      rw [c1 hab] at q
      exact q
    · rw [decide_eq_false hab]
      rw [c2 hab] at q
      walk_at "w"
      refine ⟨⟨l1 a, l2⟩, ?_⟩
      rw [any_kd]
      cases h1 : decide ((a, sg) ∈ ks) with
      | true =>
        rw [h1] at q
        exact q
      | false =>
        rw [h1] at q
        walk_at "w"
        refine ⟨⟨l1 b, l2⟩, ?_⟩
        rw [any_kd]
        exact q
theorem r_is_alike (ds : List D) (M : Mp) (Q : DK) (E : DX) (hl : ds.length = 4) (h : sp_is_alike ds M Q E) : t_is_alike { nx := fun _ M' => Q .non M', rt := Q } (startD ["one", "other", "sign", "stamps"] ds) M := r_is_alike_any _ rfl ds M Q E hl h
def t_law_alike : DS := t_is_alike
theorem r_law_alike (ds : List D) (M : Mp) (Q : DK) (E : DX) (hl : ds.length = 4) (h : sp_law_alike ds M Q E) : t_law_alike { nx := fun _ M' => Q .non M', rt := Q } (startD ["_law_one", "_law_other", "_law_sign", "_law_marked"] ds) M := r_is_alike_any _ rfl ds M Q E hl h
abbrev Tw := Str × Str × Str × St × St
def twL (p : Tw) : D := .tup [.str p.2.1, .str p.2.2.1, .tup [stD p.2.2.2.1, stD p.2.2.2.2], .str p.1]
def twAt (ks : List Kind) (p : Str × Str × St) (q : Str × Str × St) : Option Tw := if (decide (q.1 = p.1) && alB ks p.2.1 q.2.1 p.1) = true then some (p.1, p.2.1, q.2.1, p.2.2, q.2.2) else none
def twS (ws : List Wr) (ks : List Kind) (s t : St) : List Tw := (stepS ws s).flatMap fun p => (stepS ws t).filterMap (twAt ks p)
theorem filterMap_take {α β : Type} (f : α → Option β) {xs : List α} {j : Nat} {x : α} (h : xs[j]? = some x) : (xs.take (j + 1)).filterMap f = (xs.take j).filterMap f ++ (f x).toList := by
  rw [List.take_add_one, h, List.filterMap_append]
  cases e : f x <;> simp [e]
theorem flatMap_take {α β : Type} (f : α → List β) {xs : List α} {j : Nat} {x : α} (h : xs[j]? = some x) : (xs.take (j + 1)).flatMap f = (xs.take j).flatMap f ++ f x := by
  rw [List.take_add_one, h, List.flatMap_append]; simp
theorem twS_len {ws : List Wr} (hok : CrewOk ws) (ks : List Kind) (s t : St) : (twS ws ks s t).length ≤ 27 * 27 := by
  unfold twS
  refine Nat.le_trans (flat_len _ 27 _ fun p _ => Nat.le_trans (List.length_filterMap_le _ _) (stepS_len hok t)) ?_
  exact Nat.mul_le_mul_right _ (stepS_len hok s)
theorem twS_pre {ws : List Wr} (hok : CrewOk ws) (ks : List Kind) (s t : St) {i j : Nat} {p : Str × Str × St} (hp : (stepS ws s)[i]? = some p) : (((stepS ws s).take i).flatMap fun p => (stepS ws t).filterMap (twAt ks p)).length + (((stepS ws t).take j).filterMap (twAt ks p)).length ≤ 27 * 28 := by
  have h1 : (((stepS ws s).take i).flatMap fun p => (stepS ws t).filterMap (twAt ks p)).length ≤ 27 * 27 := by
    refine Nat.le_trans (flat_len _ 27 _ fun p _ => Nat.le_trans (List.length_filterMap_le _ _) (stepS_len hok t)) ?_
    exact Nat.mul_le_mul_right _ (Nat.le_trans (List.length_take_le' ..) (stepS_len hok s))
  have h2 : (((stepS ws t).take j).filterMap (twAt ks p)).length ≤ 27 := Nat.le_trans (List.length_filterMap_le _ _) (Nat.le_trans (List.length_take_le' ..) (stepS_len hok t))
  omega
end L3
set_option Elab.async false
set_option linter.all false
set_option maxRecDepth 100000
set_option maxHeartbeats 1000000
namespace L3
open PySem PySem.Spec PyProof.Rows L2
local macro_rules | `(tactic| walk_at "w") => `(tactic| conv => whnf)
theorem bind1 {a : Nat} {x : D} {env : DEnv} {k : DEnv → Prop} : Tg.bind (.name a) x env k = k (env.set a (some x)) := rfl
theorem bind3 {a b c : Nat} {x y z : D} {env : DEnv} {k : DEnv → Prop} : Tg.bind (.tup [.name a, .name b, .name c]) (.tup [x, y, z]) env k = k (((env.set a (some x)).set b (some y)).set c (some z)) := rfl
def sp_law_twin_steps : SpD := fun ds M Q _ => ∃ ws s t d, ∃ ks : List Kind, ds = [.lst (ws.map wrD), .tup [stD s, stD t], d] ∧ IsRow d (ks.map kdD) ∧ ks.length ≤ 100 ∧ CrewOk ws ∧ Good ws s ∧ Good ws t ∧ Q (.lst ((twS ws ks s t).map twL)) M
def t_law_twin_steps_1 : DS := (dFrzN 3 (dRet (dVar 3)))
def t_law_twin_steps : DS := (dSeq (dPar 3 4 (dCons (dLstM dNil) (dCons (dCall sp_law_steps (dCons (dVar 0) (dCons (dBin rIxD (dVar 1) (dC (.int 1))) dNil))) dNil)))
    (dSeq (dFor (iLst (dCall sp_law_steps (dCons (dVar 0) (dCons (dBin rIxD (dVar 1) (dC (.int 0))) dNil)))) (.tup [(.name 5), (.name 6), (.name 7)]) (dFor (iLst (dVar 4)) (.tup [(.name 8), (.name 9), (.name 10)]) (dIfS (dAnd (dTest (dBin (rEqDD id) (dVar 8) (dVar 5))) (dTru (dCall sp_law_alike (dCons (dVar 6) (dCons (dVar 9) (dCons (dVar 5) (dCons (dVar 2) dNil))))))) (dDrop (dAppend (dVar 3) (dTup (dCons (dVar 6) (dCons (dVar 9) (dCons (dTup (dCons (dVar 7) (dCons (dVar 10) dNil))) (dCons (dVar 5) dNil))))))) dNext)))
    t_law_twin_steps_1))
theorem r_law_twin_steps (ds : List D) (M : Mp) (Q : DK) (E : DX) (hl : ds.length = 3) (h : sp_law_twin_steps ds M Q E) : t_law_twin_steps { nx := fun _ M' => Q .non M', rt := Q } (startD ["_law_m", "_law_pair", "_law_marked", "_law_found", "_law_second", "_law_sign", "_law_one", "_law_to", "_law_mark", "_law_other", "_law_later"] ds) M := by
  obtain ⟨ws, s, t, d, ks, rfl, hd, hlen, hok, gs, gt, q⟩ := h
  walk_at "w"
  intro p hp
  walk_at "w"
  refine ⟨ws, t, rfl, hok, gt.ok, ?_⟩
  walk_at "w"
  refine ⟨ws, s, rfl, hok, gs.ok, ?_⟩
  rw [stepS_map, stepS_map]
  have few : ∀ (i j : Nat) (a : Str × Str × St), (stepS ws s)[i]? = some a → (((stepS ws s).take i).flatMap fun p => (stepS ws t).filterMap (twAt ks p)).length + (((stepS ws t).take j).filterMap (twAt ks a)).length < sizeLine := fun i j a ha => by
    have := twS_pre (j := j) hok ks s t ha
    rw [sizeLine_eq]; omega
  refine for_inv (fun i env M' => M' = mupd M p (.lst ((((stepS ws s).take i).flatMap fun p => (stepS ws t).filterMap (twAt ks p)).map twL)) ∧ ∃ e5 e6 e7 e8 e9 e10, env = [some (.lst (ws.map wrD)), some (.tup [stD s, stD t]), some d, some (.ref p), some (.lst ((stepS ws t).map stepSD)), e5, e6, e7, e8, e9, e10])
    ⟨rfl, _, _, _, _, _, _, rfl⟩ (fun i x env M' K hx ⟨eM, e5, e6, e7, e8, e9, e10, ee⟩ hK => ?_) fun env M' ⟨eM, e5, e6, e7, e8, e9, e10, ee⟩ => ?_
  · subst ee
    rw [List.getElem?_map] at hx
    obtain ⟨a, ha, rfl⟩ := Option.map_eq_some_iff.mp hx
    unfold stepSD
    rw [bind3]
    show dFor _ _ _ _ [some (.lst (ws.map wrD)), some (.tup [stD s, stD t]), some d, some (.ref p), some (.lst ((stepS ws t).map stepSD)), some (.str a.1), some (.str a.2.1), some (stD a.2.2), e8, e9, e10] M'
    walk_at "w"
    refine for_inv (fun j env M2 => M2 = mupd M p (.lst (((((stepS ws s).take i).flatMap fun p => (stepS ws t).filterMap (twAt ks p)) ++ ((stepS ws t).take j).filterMap (twAt ks a)).map twL)) ∧ ∃ e8 e9 e10, env = [some (.lst (ws.map wrD)), some (.tup [stD s, stD t]), some d, some (.ref p), some (.lst ((stepS ws t).map stepSD)), some (.str a.1), some (.str a.2.1), some (stD a.2.2), e8, e9, e10])
      ⟨by rw [eM]; simp, _, _, _, rfl⟩ (fun j y env M2 K2 hy ⟨eM2, e8, e9, e10, ee⟩ hK2 => ?_) fun env M2 ⟨eM2, e8, e9, e10, ee⟩ => ?_
    · subst ee
      rw [List.getElem?_map] at hy
      obtain ⟨b, hb, rfl⟩ := Option.map_eq_some_iff.mp hy
      have tk := filterMap_take (twAt ks a) hb
      unfold stepSD
      rw [bind3]
      show dIfS _ _ _ _ [some (.lst (ws.map wrD)), some (.tup [stD s, stD t]), some d, some (.ref p), some (.lst ((stepS ws t).map stepSD)), some (.str a.1), some (.str a.2.1), some (stD a.2.2), some (.str b.1), some (.str b.2.1), some (stD b.2.2)] M2
      walk_at "w"
      refine ⟨⟨rfl, rfl⟩, ?_⟩
      have e0 : eqD (resD M2 (.str b.1)) (resD M2 (.str a.1)) = decide (b.1 = a.1) := by show eqD (.str b.1) (.str a.1) = _; rw [eqD_str, beq_str]
      rw [e0]
      by_cases hba : b.1 = a.1
      · rw [decide_eq_true hba]
        walk_at "w"
        refine ⟨a.2.1, b.2.1, a.1, d, ks, rfl, hd, hlen, ?_⟩
        cases hc : alB ks a.2.1 b.2.1 a.1 with
        | true =>
          walk_at "w"
          rw [eM2]
          refine ⟨?_, ?_⟩
          · walk_at "w"
            rw [mupd_same]
            trivial
          walk_at "w"
          rw [mupd_same]
          refine ⟨by rw [List.length_map, List.length_append]; exact few i j a ha, hK2 _ _ ⟨?_, _, _, _, rfl⟩⟩
          rw [mupd_mupd, tk, show twAt ks a b = some (a.1, a.2.1, b.2.1, a.2.2, b.2.2) by unfold twAt; rw [if_pos (by rw [decide_eq_true hba, hc]; rfl)]]
          rw [← List.append_assoc, List.map_append (l₂ := Option.toList _)]; rfl
        | false =>
          walk_at "w"
          refine hK2 _ _ ⟨?_, _, _, _, rfl⟩
          rw [eM2, tk, show twAt ks a b = none by unfold twAt; rw [if_neg (by rw [hc, Bool.and_false]; exact Bool.false_ne_true)]]
          simp
      · rw [decide_eq_false hba]
        walk_at "w"
        refine hK2 _ _ ⟨?_, _, _, _, rfl⟩
        rw [eM2, tk, show twAt ks a b = none by unfold twAt; rw [if_neg (by rw [decide_eq_false hba, Bool.false_and]; exact Bool.false_ne_true)]]
        simp
    · subst ee
      refine hK _ _ ⟨?_, _, _, _, _, _, _, rfl⟩
      rw [eM2, flatMap_take _ ha, List.length_map, List.take_length]
  · subst ee eM
    rw [List.length_map, List.take_length]
    walk_at "w"
    rw [mupd_same]
    walk_at "w"
    rw [mdel_mupd hp]
    exact q
def sp_law_kinds : SpD := fun ds M Q _ => ∃ p b, ∃ ws : List Wr, ∃ cs : List Nat, ds = [.ref p, .lst (ws.map wrD), .lst (cs.map sgn)] ∧ M p = some (.lst (Bag.l b)) ∧ b.Ok ∧ ws.length ≤ 3 ∧ cs.length ≤ 26 ∧ ∀ (ks : List Kind) b', Bag.Ok b' → ks.length ≤ 100 → Q (.lst (ks.map kdD)) (mupd M p (.lst b'.l))
def t_law_kinds_1 : DS := (dRet (dVar 4))
def t_law_kinds : DS := (dSeq (dAsg (dTup (dCons (dLst dNil) (dCons (dCall sp_law_of (dCons (dVar 0) (dCons (dLst (dCons (dC (.int 0)) (dCons (dC (.int 0)) (dCons (dC (.int 1)) (dCons (dC (.int 2)) dNil))))) dNil))) dNil))) (.tup [(.name 4), (.name 5)]))
    (dSeq (dFor (iLst (dVar 1)) (.name 3) (dSet 4 (dBin rAddD (dVar 4) (dLc (iLst (dVar 2)) (.name 6) (dTest (dBin rLtI (dCall sp_law_pull (dCons (dVar 0) (dCons (dC (.int 3)) dNil))) (dVar 5))) (dTup (dCons (dBin rIxD (dVar 3) (dC (.int 0))) (dCons (dVar 6) dNil))) [6]))))
    t_law_kinds_1))
theorem r_law_kinds (ds : List D) (M : Mp) (Q : DK) (E : DX) (hl : ds.length = 3) (h : sp_law_kinds ds M Q E) : t_law_kinds { nx := fun _ M' => Q .non M', rt := Q } (startD ["_law_bag_here", "_law_m", "_law_letters_here", "_law_writer_here", "_law_kinds_here", "_law_thick", "_law_sign"] ds) M := by
  obtain ⟨p, b, ws, cs, rfl, hM, hb, hw, hcs, q⟩ := h
  walk_at "w"
  refine ⟨p, b, .lst [.int 0, .int 0, .int 1, .int 2], [.int 0, .int 0, .int 1, .int 2], rfl, hM, hb, by decide, by decide, .inl ⟨rfl, fun e => by cases e⟩, fun y b1 hb1 hy => ?_⟩
  obtain ⟨th, rfl⟩ : ∃ k : Int, y = .int k := by
    simp only [List.mem_cons, List.not_mem_nil, or_false] at hy
    rcases hy with rfl | rfl | rfl | rfl <;> exact ⟨_, rfl⟩
  walk_at "w"
  refine for_inv (fun i env M' => ∃ b' ks e3 e6, Bag.Ok b' ∧ M' = mupd M p (.lst b'.l) ∧ List.length (α := Kind) ks ≤ i * 26 ∧ env = [some (.ref p), some (.lst (ws.map wrD)), some (.lst (cs.map sgn)), e3, some (.lst (ks.map kdD)), some (.int th), e6]) ⟨b1, [], _, _, hb1, rfl, Nat.zero_le _, rfl⟩ (fun i x env M' K hx ⟨b', ks, e3, e6, hb', eM, hk, ee⟩ hK => ?_) fun env M' ⟨b', ks, e3, e6, hb', eM, hk, ee⟩ => ?_
  · subst ee eM
    rw [List.getElem?_map] at hx
    obtain ⟨w, hw', rfl⟩ := Option.map_eq_some_iff.mp hx
    have hi : i < ws.length := (List.getElem?_eq_some_iff.mp hw').1
    rw [bind1]
    show dSet _ _ _ [some (.ref p), some (.lst (ws.map wrD)), some (.lst (cs.map sgn)), some (wrD w), some (.lst (ks.map kdD)), some (.int th), e6] _
    walk_at "w"
    refine lc_inv (fun j acc M2 => ∃ b2 ks2, Bag.Ok b2 ∧ M2 = mupd M p (.lst b2.l) ∧ List.length (α := Kind) ks2 ≤ j ∧ acc = ks2.map kdD) ⟨b', [], hb', rfl, Nat.le_refl _, rfl⟩ (fun j y acc M2 K2 hy ⟨b2, ks2, hb2, eM2, hk2, ea⟩ hK2 => ?_) fun acc M2 ⟨b2, ks2, hb2, eM2, hk2, ea⟩ => ?_
    · subst eM2
      rw [List.getElem?_map] at hy
      obtain ⟨c, hc, rfl⟩ := Option.map_eq_some_iff.mp hy
      walk_at "w"
      refine ⟨p, b2, 3, rfl, mupd_same, hb2, by decide, by decide, fun r b3 hb3 hr0 hr1 => ?_⟩
      rw [mupd_mupd]
      walk_at "w"
      refine brn_by (fun hc => ?_) fun hc => ?_
      · exact hK2 _ _ ⟨b3, ks2 ++ [(w.name, ⟨#[c]⟩)], hb3, rfl, by rw [List.length_append]; show _ + 1 ≤ _; omega, by rw [ea, List.map_append]; rfl⟩
      · exact hK2 _ _ ⟨b3, ks2, hb3, rfl, by omega, ea⟩
    · subst eM2 ea
      rw [List.length_map] at hk2
      walk_at "w"
      have hi3 : i < 3 := by omega
      refine ⟨by rw [List.length_map, List.length_map, sizeLine_eq]; omega, ?_⟩
      rw [← List.map_append]
      exact hK _ _ ⟨b2, ks ++ ks2, _, _, hb2, rfl, by rw [List.length_append, Nat.add_mul]; omega, rfl⟩
  · subst ee eM
    rw [List.length_map] at hk
    exact q ks b' hb' (by omega)
end L3
set_option Elab.async false
set_option linter.all false
set_option maxRecDepth 100000
set_option maxHeartbeats 1000000
namespace L3
open PySem PySem.Spec PyProof.Rows L2
/-- a list (false) or a tuple (true) in the store -/
def SqB (b : Bool) (K : PySem.W.Frag) (H : Hp) (a : Addr) (xs : List V) : Prop := match b with
  | false => SqL K H a xs
  | true => SqT K H a xs
def IsSqB (b : Bool) (h : Heap) (a : Addr) (its : Array Value) : Prop := match b with
  | false => h.IsList a its
  | true => h.IsTuple a its
def IsItB (b : Bool) (h : Heap) (it a : Addr) (i : Nat) : Prop := match b with
  | false => h.IsListIter it a i
  | true => h.IsTupleIter it a i
theorem drawsB {P : Program} {w : World} {A : Around} (hh : A.handled = none) (b : Bool) (it a : Addr) (hne : a ≠ it) (its : Array Value) :
    Draws P w A it [it, a] its.size (fun i v => its[i]? = some v) (fun i h => IsItB b h it a i ∧ IsSqB b h a its) := by
  cases b
  · exact .list hh it a hne its
  · exact .tuple hh it a hne its
theorem IsItB.obj {b : Bool} {h : Heap} {it a : Addr} {i : Nat} (st : IsItB b h it a i) : ∃ o, h.get? it = some o ∧ ∀ v, o.data ≠ .cell v := by
  cases b
  · obtain ⟨o, e, _, d⟩ := st; exact ⟨o, e, fun v q => by rw [d] at q; cases q⟩
  · obtain ⟨o, e, _, d⟩ := st; exact ⟨o, e, fun v q => by rw [d] at q; cases q⟩
theorem IsItB.at' {b : Bool} {h h' : Heap} {it a : Addr} {i : Nat} (st : IsItB b h it a i) (k : ∀ o, h.get? it = some o → h'.get? it = some o) : IsItB b h' it a i := by
  cases b
  · exact Heap.IsListIter.at st k
  · exact Heap.IsTupleIter.at st k
theorem IsSqB.at' {b : Bool} {h h' : Heap} {a : Addr} {its : Array Value} (st : IsSqB b h a its) (k : ∀ o, h.get? a = some o → h'.get? a = some o) : IsSqB b h' a its := by
  cases b
  · exact Heap.IsList.at st k
  · exact Heap.IsTuple.at st k
theorem IsSqB.lt {b : Bool} {h : Heap} {a : Addr} {its : Array Value} (st : IsSqB b h a its) : a < h.objs.size := by
  cases b
  · obtain ⟨o, e, _⟩ := st; exact Heap.lt_size e
  · obtain ⟨o, e, _⟩ := st; exact Heap.lt_size e
section
variable {X : Cx} {pins : List (Addr × Obj)} {σ : L2.St} {H : Hp} {s : Shared} {a : Addr} {xs ys : List V} {b : Bool}
theorem inv_sqB (I : Inv X pins σ H s) (h : SqB b X.K H a xs) : ∃ its : List Value, Vals xs its ∧ IsSqB b s.heap a its.toArray ∧ xs.length ≤ sizeLine := by
  cases b
  · obtain ⟨its, r, p, z⟩ := I.list h; exact ⟨its, r, p.isList, z⟩
  · obtain ⟨its, r, p, z⟩ := I.tuple h; exact ⟨its, r, p, z⟩
theorem inv_sqB_inj (I : Inv X pins σ H s) (h : SqB b X.K H a xs) (h' : SqB b X.K H a ys) : xs = ys := by
  cases b
  · exact I.list_inj h h'
  · exact I.tuple_inj h h'
end
def objB (b : Bool) (a : Addr) : Obj := match b with
  | false => { cls := .type "list_iterator", data := .fields #[.ref a, .int 0 0] }
  | true => { cls := .type "tuple_iterator", data := .fields #[.ref a, .int 0 0] }
theorem beginsB (b : Bool) (a : Addr) (its : Array Value) : Begins (.ref a) (objB b a) fun h => IsSqB b h a its := by
  cases b
  · exact begins_list a its
  · exact begins_tuple a its
theorem itB_of {b : Bool} {h : Heap} {it a : Addr} (e : h.get? it = some (objB b a)) : IsItB b h it a 0 := by
  cases b
  · exact ⟨_, e, rfl, rfl⟩
  · exact ⟨_, e, rfl, rfl⟩
/-- the three as they stand at each turn, the items in new tuples -/
def Itz3 (K : PySem.W.Frag) (k1 k2 k3 : Bool) (a b c : Addr) : It :=
  ⟨fun i H => ∃ (xs ys zs : List V) (x y z : V), SqB k1 K H a xs ∧ SqB k2 K H b ys ∧ SqB k3 K H c zs ∧ xs[i]? = some x ∧ ys[i]? = some y ∧ zs[i]? = some z,
    fun i H v H' => ∃ T x y z, v = .ref T ∧ H T = none ∧ H' = upd H T (.tup [x, y, z]) ∧ (∀ xs, SqB k1 K H a xs → xs[i]? = some x) ∧ (∀ ys, SqB k2 K H b ys → ys[i]? = some y) ∧ ∀ zs, SqB k3 K H c zs → zs[i]? = some z,
    fun i H => ∃ xs ys zs : List V, SqB k1 K H a xs ∧ SqB k2 K H b ys ∧ SqB k3 K H c zs ∧ i ≤ xs.length ∧ i ≤ ys.length ∧ i ≤ zs.length ∧ (i = xs.length ∨ i = ys.length ∨ i = zs.length)⟩
theorem turn_zip3 {P : Program} {w : World} {K : PySem.W.Frag} {elts : List Expr} {kk : Nat} {tpos : Pos} {k1 k2 k3 : Bool} {a b c z TI TO i1 i2 i3 : Addr} (D : ZipSep3 z TI TO i1 i2 i3 [i1, a] [i2, b] [i3, c]) (h1a : a ≠ i1) (h2b : b ≠ i2) (h3c : c ≠ i3) :
    Turn P w K (.Tuple elts kk tpos) (Itz3 K k1 k2 k3 a b c) [z, TI, TO, i1, i2, i3] z (fun i h => IsZip h z TI TO .none ∧ IsTupOf3 h TI (.ref i1) (.ref i2) (.ref i3) ∧ (∃ x y u, IsTupOf3 h TO x y u) ∧ IsItB k1 h i1 a i ∧ IsItB k2 h i2 b i ∧ IsItB k3 h i3 c i) where
  mem := by simp
  obj := fun i h st d hd => by
    obtain ⟨hz, hTI, ⟨x, y, u, hTO⟩, h1, h2, h3⟩ := st
    have e' : d = z ∨ d = TI ∨ d = TO ∨ d = i1 ∨ d = i2 ∨ d = i3 := by simpa using hd
    rcases e' with q | q | q | q | q | q
    · rw [q]; exact ⟨_, hz, fun v q => nomatch q⟩
    · rw [q]; exact ⟨_, hTI, fun v q => nomatch q⟩
    · rw [q]; exact ⟨_, hTO, fun v q => nomatch q⟩
    · rw [q]; exact h1.obj
    · rw [q]; exact h2.obj
    · rw [q]; exact h3.obj
  keep := fun i h h' st k => by
    obtain ⟨hz, hTI, ⟨x, y, u, hTO⟩, h1, h2, h3⟩ := st
    exact ⟨k z (by simp) _ hz, k TI (by simp) _ hTI, ⟨x, y, u, k TO (by simp) _ hTO⟩, h1.at' fun o q => k i1 (by simp) o q, h2.at' fun o q => k i2 (by simp) o q, h3.at' fun o q => k i3 (by simp) o q⟩
  item := by
    intro X hP hw hK hc i pins s σ H E I hf st hg
    subst hP hw hK
    obtain ⟨hz, hTI, ⟨x0, y0, z0, hTO⟩, h1, h2, h3⟩ := st
    obtain ⟨xs, ys, zs, x, y, u, hqx, hqy, hqz, hx, hy, hu⟩ := hg
    obtain ⟨its1, rv1, p1, _⟩ := inv_sqB I hqx
    obtain ⟨its2, rv2, p2, _⟩ := inv_sqB I hqy
    obtain ⟨its3, rv3, p3, _⟩ := inv_sqB I hqz
    obtain ⟨u1, hu1, ru1⟩ := rv1.get hx
    obtain ⟨u2, hu2, ru2⟩ := rv2.get hy
    obtain ⟨u3, hu3, ru3⟩ := rv3.get hu
    have hd : X.A.in1.handled = none := I.ok.hd hc
    have lt1 : i < its1.toArray.size := by have := (List.getElem?_eq_some_iff.mp hu1).1; simpa using this
    have lt2 : i < its2.toArray.size := by have := (List.getElem?_eq_some_iff.mp hu2).1; simpa using this
    have lt3 : i < its3.toArray.size := by have := (List.getElem?_eq_some_iff.mp hu3).1; simpa using this
    refine wpAny_pyNext_zipD3_item D (drawsB hd k1 i1 a h1a its1.toArray) (drawsB hd k2 i2 b h2b its2.toArray) (drawsB hd k3 i3 c h3c its3.toArray) hz hTI hTO ⟨h1, p1⟩ ⟨h2, p2⟩ ⟨h3, p3⟩ lt1 lt2 lt3 fun w1 w2 w3 h' tk e1 e2 e3 z' TO' d1 d2 d3 hT hsz hk => ?_
    have e1' : w1 = u1 := by have q : its1.toArray[i]? = some w1 := e1; rw [List.getElem?_toArray, hu1] at q; exact (Option.some.inj q).symm
    have e2' : w2 = u2 := by have q : its2.toArray[i]? = some w2 := e2; rw [List.getElem?_toArray, hu2] at q; exact (Option.some.inj q).symm
    have e3' : w3 = u3 := by have q : its3.toArray[i]? = some w3 := e3; rw [List.getElem?_toArray, hu3] at q; exact (Option.some.inj q).symm
    subst e1' e2' e3'
    have hzl : z < s.heap.objs.size := Heap.lt_size hz
    refine ⟨_, rfl, wpAny_letOwnedTupleGo_zip (s := { s with heap := h', toks := tk }) z' fun h'' z'' sb => ?_⟩
    have hT2 : h''.get? s.heap.objs.size = some { cls := .type "tuple", data := .seq #[w1, w2, w3] } := (sb.2 _ (Nat.ne_of_gt hzl)).trans hT
    have new : ObjOk X.prog X.w (upd H s.heap.objs.size (.tup [x, y, u])) h'' s.heap.objs.size (.tup [x, y, u]) :=
      ⟨by show 3 ≤ sizeLine; decide, [w1, w2, w3], .cons ru1 (.cons ru2 (.cons ru3 .nil)), ⟨_, hT2, rfl, _, rfl⟩⟩
    have I1 : Inv X pins σ (upd H s.heap.objs.size (.tup [x, y, u])) { s with heap := h'', toks := tk } :=
      I.turnedNew (t' := tk) (ch := [z, TI, TO, i1, i2, i3]) (fun c o hb q => (sb.2 c (fun q' => hb (by simp [q']))).trans (hk c o (fun q' => hb (by simp [q'])) (fun q' => hb (by simp [q'])) (fun q' => hb (by simp [q'])) (fun q' => hb (by simp [q'])) (fun q' => hb (by simp [q'])) q)) hf (Nat.le_refl _) new
    have zi1 : i1 ≠ z := fun e => D.zi1 e.symm
    have zi2 : i2 ≠ z := fun e => D.zi2 e.symm
    have zi3 : i3 ≠ z := fun e => D.zi3 e.symm
    refine ⟨.ref s.heap.objs.size, _, I1, rfl, ⟨_, x, y, u, rfl, I.hok.fresh (Nat.le_refl _), rfl, fun l hl => by rw [inv_sqB_inj I hl hqx]; exact hx, fun l hl => by rw [inv_sqB_inj I hl hqy]; exact hy, fun l hl => by rw [inv_sqB_inj I hl hqz]; exact hu⟩, ⟨z'', ?_, ⟨w1, w2, w3, ?_⟩, ?_, ?_, ?_⟩, fun c hcm => ?_⟩
    · exact (sb.2 _ D.TIz).trans (hk _ _ D.TIz D.TITO D.TIi1 D.TIi2 D.TIi3 hTI)
    · exact (sb.2 _ D.TOz).trans TO'
    · exact d1.1.at' fun o q => (sb.2 _ zi1).trans q
    · exact d2.1.at' fun o q => (sb.2 _ zi2).trans q
    · exact d3.1.at' fun o q => (sb.2 _ zi3).trans q
    · have hlt : c < s.heap.objs.size := by
        have e' : c = z ∨ c = TI ∨ c = TO ∨ c = i1 ∨ c = i2 ∨ c = i3 := by simpa using hcm
        rcases e' with q | q | q | q | q | q
        · rw [q]; exact hzl
        · rw [q]; exact Heap.lt_size hTI
        · rw [q]; exact Heap.lt_size hTO
        · rw [q]; obtain ⟨_, e1, _⟩ := h1.obj; exact Heap.lt_size e1
        · rw [q]; obtain ⟨_, e1, _⟩ := h2.obj; exact Heap.lt_size e1
        · rw [q]; obtain ⟨_, e1, _⟩ := h3.obj; exact Heap.lt_size e1
      rw [upd_ne (Nat.ne_of_lt hlt)]
      exact (hf c hcm).1
  done := by
    intro X hP hw hK hc i pins s σ H E I hf st hg
    subst hP hw hK
    obtain ⟨hz, hTI, ⟨x0, y0, z0, hTO⟩, h1, h2, h3⟩ := st
    obtain ⟨xs, ys, zs, hqx, hqy, hqz, le1, le2, le3, hend⟩ := hg
    obtain ⟨its1, rv1, p1, _⟩ := inv_sqB I hqx
    obtain ⟨its2, rv2, p2, _⟩ := inv_sqB I hqy
    obtain ⟨its3, rv3, p3, _⟩ := inv_sqB I hqz
    have hd : X.A.in1.handled = none := I.ok.hd hc
    have l1 := rv1.length
    have l2 := rv2.length
    have l3 := rv3.length
    exact wpAny_pyNext_zipD3_end D (drawsB hd k1 i1 a h1a its1.toArray) (drawsB hd k2 i2 b h2b its2.toArray) (drawsB hd k3 i3 c h3c its3.toArray) hz hTI hTO ⟨h1, p1⟩ ⟨h2, p2⟩ ⟨h3, p3⟩ (by simp; omega) (by simp; omega) (by simp; omega) (by simp; omega)
      fun h' tk hk => ⟨rfl, I.turnedL (t' := tk) (ch := [z, TI, TO, i1, i2, i3]) (fun c o hb q =>
        hk c o (fun q' => hb (by simp [q'])) (fun q' => hb (by simp [q'])) (fun q' => hb (by simp [q'])) (fun q' => hb (by simp [q'])) (fun q' => hb (by simp [q'])) q) hf⟩
  self := fun A i s Q E st h => wpAny_pyIter_zip st.1 h
theorem nin2 {x p q : Addr} (h1 : x ≠ p) (h2 : x ≠ q) : x ∉ [p, q] := fun h => by
  rcases List.mem_cons.mp h with e | h
  · exact h1 e
  · rcases List.mem_cons.mp h with e | h
    · exact h2 e
    · cases h
theorem apart3 {n a b c : Addr} (ha : a < n) (hb : b < n) (hc : c < n) : ZipSep3 (n + 5) (n + 3) (n + 4) n (n + 1) (n + 2) [n, a] [n + 1, b] [n + 2, c] := by
  have f : ∀ i j : Nat, i ≠ j → (Nat.add n i) ≠ Nat.add n j := fun i j h e => h (Nat.add_left_cancel e)
  have g : ∀ (i : Nat) (x : Nat), Nat.lt x n → (Nat.add n i) ≠ x := fun i x h => Nat.ne_of_gt (Nat.lt_of_lt_of_le h (Nat.le_add_right _ _))
  exact { TIz := f 3 5 (by decide), TOz := f 4 5 (by decide), TITO := f 3 4 (by decide), TIi1 := f 3 0 (by decide), mem1 := List.mem_cons_self, zf1 := nin2 (f 5 0 (by decide)) (g 5 a ha), Tf1 := nin2 (f 4 0 (by decide)) (g 4 a ha),
          TIi2 := f 3 1 (by decide), mem2 := List.mem_cons_self, zf2 := nin2 (f 5 1 (by decide)) (g 5 b hb), Tf2 := nin2 (f 4 1 (by decide)) (g 4 b hb),
          TIi3 := f 3 2 (by decide), mem3 := List.mem_cons_self, zf3 := nin2 (f 5 2 (by decide)) (g 5 c hc), Tf3 := nin2 (f 4 2 (by decide)) (g 4 c hc),
          sep1_2 := nin2 (f 0 1 (by decide)) (g 0 b hb), sep1_3 := nin2 (f 0 2 (by decide)) (g 0 c hc), sep2_1 := nin2 (f 1 0 (by decide)) (g 1 a ha), sep2_3 := nin2 (f 1 2 (by decide)) (g 1 c hc), sep3_1 := nin2 (f 2 0 (by decide)) (g 2 a ha), sep3_2 := nin2 (f 2 1 (by decide)) (g 2 b hb) }
def iZipA3 (K : PySem.W.Frag) (ta : TA) : TI := fun σ H R => ta σ H fun vs H1 => ∃ k1 k2 k3 a b c xs ys zs, vs = [.ref a, .ref b, .ref c] ∧ SqB k1 K H1 a xs ∧ SqB k2 K H1 b ys ∧ SqB k3 K H1 c zs ∧ R (Itz3 K k1 k2 k3 a b c) H1
theorem pi_zipA3 {X : Cx} {e e2 e3 : Expr} {ta : TA} {p pos tpos : Pos} {elts : List Expr} {kk : Nat} (hg : Gl X "zip") (hm : X.mg "zip" = none) (ha : PA X [e, e2, e3] ta)
    (hs : starEach [e, e2, e3] X.env = (false, eval e X.env) :: starEach [e2, e3] X.env := by rfl) (hpl : (backTo pos (starEach [e2, e3] X.env)).any (·.1) = false := by rfl) :
    PI X (.Tuple elts kk tpos) (.Call (.Name "zip" p) [e, e2, e3] [] pos) (iZipA3 X.K ta) := by
  refine ⟨fun pins s σ H R I h => ?_⟩
  refine Call_ (ld_blt I hg hm PyProof.Rows.boot_zip (PyProof.Rows.callWith_type1 (thn (ha.run pos pins s σ H _ I h) fun us s1 ⟨vs, H1, I1, r1, q1⟩ => ?_) hs hpl))
  obtain ⟨k1, k2, k3, a, b, c, xs, ys, zs, ex, hqx, hqy, hqz, q⟩ := q1
  subst ex
  cases r1 with
  | cons r rr =>
    cases rr with
    | cons r' rr =>
      cases rr with
      | cons r'' rr =>
        cases rr
        cases r
        cases r'
        cases r''
        obtain ⟨its1, rv1, p1, _⟩ := inv_sqB I1 hqx
        obtain ⟨its2, rv2, p2, _⟩ := inv_sqB I1 hqy
        obtain ⟨its3, rv3, p3, _⟩ := inv_sqB I1 hqz
        have fresh : ∀ d, d ∈ [s1.heap.objs.size + 5, s1.heap.objs.size + 3, s1.heap.objs.size + 4, s1.heap.objs.size, s1.heap.objs.size + 1, s1.heap.objs.size + 2] → FpOk X pins H1 d := fun d hcm => by
          have e' : d = s1.heap.objs.size + 5 ∨ d = s1.heap.objs.size + 3 ∨ d = s1.heap.objs.size + 4 ∨ d = s1.heap.objs.size ∨ d = s1.heap.objs.size + 1 ∨ d = s1.heap.objs.size + 2 := by simpa using hcm
          have hle : s1.heap.objs.size ≤ d := by
            rcases e' with z | z | z | z | z | z
            · rw [z]; exact Nat.le_add_right _ _
            · rw [z]; exact Nat.le_add_right _ _
            · rw [z]; exact Nat.le_add_right _ _
            · rw [z]; exact Nat.le_refl _
            · rw [z]; exact Nat.le_add_right _ _
            · rw [z]; exact Nat.le_add_right _ _
          exact I1.fpOk hle (I1.hok.fresh hle)
        refine zip_begins3 (beginsB k1 a its1.toArray) (beginsB k2 b its2.toArray) (beginsB k3 c its3.toArray) p1 p2 p3 fun h' hz hTI hTO h1 h2 h3 hsz hk => wpAny_pyIter_zip hz ?_
        have I2 : Inv X pins σ H1 { s1 with heap := h' } := I1.kept (t' := s1.toks) hk
        exact ⟨s1.heap.objs.size + 5, [s1.heap.objs.size + 5, s1.heap.objs.size + 3, s1.heap.objs.size + 4, s1.heap.objs.size, s1.heap.objs.size + 1, s1.heap.objs.size + 2], _, _, H1, rfl, I2,
          turn_zip3 (apart3 p1.lt p2.lt p3.lt) (Nat.ne_of_lt p1.lt) (Nat.ne_of_lt (Nat.lt_of_lt_of_le p2.lt (Nat.le_add_right _ _))) (Nat.ne_of_lt (Nat.lt_of_lt_of_le p3.lt (Nat.le_add_right _ _))), ⟨hz, hTI, ⟨_, _, _, hTO⟩, itB_of h1, itB_of h2, itB_of h3⟩, fresh, q⟩
/-- the items of a frozen list, of a tuple -/
def sqOf : D → Option (Bool × List D)
  | .lst xs => some (false, xs)
  | .tup xs => some (true, xs)
  | _ => none
theorem sqOf_at {K : PySem.W.Frag} {F : Hp} {d : D} {v : V} {b : Bool} {ds : List D} (h : sqOf d = some (b, ds)) (r : Rep K F d v) : ∃ p vs, v = .ref p ∧ SqB b K F p vs ∧ Reps K F ds vs := by
  cases d <;> first | (cases h; done) | skip
  · cases h
    obtain ⟨p, vs, rfl, hq, rx⟩ := r
    exact ⟨p, vs, rfl, hq, rx⟩
  · cases h
    obtain ⟨p, vs, rfl, hq, rx⟩ := r
    exact ⟨p, vs, rfl, SqL.of hq, rx⟩
theorem SqB.mono {b : Bool} {K : PySem.W.Frag} {F F' : Hp} {p : Addr} {vs : List V} (h : SqB b K F p vs) (s : Same F F') : SqB b K F' p vs := by
  cases b
  · exact s.seq h
  · exact Same.seqT s h
def zipD3 : List D → List D → List D → List D
  | x :: xs, y :: ys, z :: zs => .tup [x, y, z] :: zipD3 xs ys zs
  | _, _, _ => []
theorem zipD3_len : ∀ xs ys zs : List D, (zipD3 xs ys zs).length = min (min xs.length ys.length) zs.length
  | [], _, _ => by simp [zipD3]
  | _ :: _, [], _ => by simp [zipD3]
  | _ :: _, _ :: _, [] => by simp [zipD3]
  | x :: xs, y :: ys, z :: zs => by simp only [zipD3, List.length_cons, zipD3_len xs ys zs]; omega
theorem zipD3_at : ∀ {xs ys zs : List D} {i : Nat} {d : D}, (zipD3 xs ys zs)[i]? = some d → ∃ x y z, xs[i]? = some x ∧ ys[i]? = some y ∧ zs[i]? = some z ∧ d = .tup [x, y, z]
  | [], _, _, i, d, h => by simp [zipD3] at h
  | _ :: _, [], _, i, d, h => by simp [zipD3] at h
  | _ :: _, _ :: _, [], i, d, h => by simp [zipD3] at h
  | x :: xs, y :: ys, z :: zs, 0, d, h => by
    simp only [zipD3, List.getElem?_cons_zero, Option.some.injEq] at h
    exact ⟨x, y, z, rfl, rfl, rfl, h.symm⟩
  | x :: xs, y :: ys, z :: zs, i + 1, d, h => by
    simp only [zipD3, List.getElem?_cons_succ] at h
    simpa using zipD3_at h
theorem new_trip {K : PySem.W.Frag} {R F : Hp} {M : Mp} {H : Hp} {T : Addr} {d g e : D} {x y z : V} (a : At K R F M H) (hT : H T = none) (r1 : Rep K F d x) (r2 : Rep K F g y) (r3 : Rep K F e z) : ∃ F2, Same F F2 ∧ At K R F2 M (upd H T (.tup [x, y, z])) ∧ Rep K F2 (.tup [d, g, e]) (.ref T) := by
  obtain ⟨a1, s1⟩ := a.laid hT (.tup [x, y, z])
  exact ⟨_, s1, a1, T, [x, y, z], rfl, SqT.of upd_same, x, [y, z], rfl, r1.mono s1, y, [z], rfl, r2.mono s1, z, [], rfl, r3.mono s1, rfl⟩
/-- zip of three, frozen lists or tuples in any mix -/
def iZip3D (t : DA) : DI := fun env M Q => t env M fun ds M1 => match ds with
  | [d, e, g] => (match sqOf d, sqOf e, sqOf g with
    | some (_, xs), some (_, ys), some (_, zs) => Q (zipD3 xs ys zs) M1
    | _, _, _ => False)
  | _ => False
section
variable {X : Cx} {e e2 e3 : Expr} {p pos : Pos} {t : DA}
theorem pdi_zip3 {elts : List Expr} {kk : Nat} {tpos : Pos} (hm : X.mg "zip" = none) (ha : PDA X [e, e2, e3] t) (hg : Gl X "zip" := by rfl)
    (hs : starEach [e, e2, e3] X.env = (false, eval e X.env) :: starEach [e2, e3] X.env := by rfl) (hpl : (backTo pos (starEach [e2, e3] X.env)).any (·.1) = false := by rfl) : PDI X (.Tuple elts kk tpos) (.Call (.Name "zip" p) [e, e2, e3] [] pos) (iZip3D t) := by
  refine pi_imp (pi_zipA3 hg hm (pa_held ha) hs hpl) fun σ H Z ⟨R, F, env, M, Qd, a, e, h, k⟩ => ⟨R, F, env, M, _, a, e, h, fun F1 H1 M1 ds vs s1 a1 r1 l1 q1 pins s σ I => ?_⟩
  split at q1
  · rename_i d1 d2 d3
    split at q1
    · rename_i b1 xs b2 ys b3 zs e1 e2 e3
      obtain ⟨v1, _, rfl, r1, v2, _, rfl, r2, v3, _, rfl, r3, rfl⟩ := r1
      obtain ⟨p1, vx, rfl, hx, rx⟩ := sqOf_at e1 r1
      obtain ⟨p2, vy, rfl, hy, ry⟩ := sqOf_at e2 r2
      obtain ⟨p3, vz, rfl, hz, rz⟩ := sqOf_at e3 r3
      obtain ⟨_, _, _, hzl⟩ := inv_sqB I (hx.mono a1.fz)
      have lx := rx.length
      have ly := ry.length
      have lz := rz.length
      refine ⟨b1, b2, b3, p1, p2, p3, vx, vy, vz, rfl, hx.mono a1.fz, hy.mono a1.fz, hz.mono a1.fz, k F1 H1 M1 _ _ s1 a1 ⟨by rw [zipD3_len]; omega, fun R F' M H s a' => ⟨vx, vy, vz, (hx.mono s).mono a'.fz, (hy.mono s).mono a'.fz, (hz.mono s).mono a'.fz, by rw [zipD3_len]; omega, by rw [zipD3_len]; omega, by rw [zipD3_len]; omega, by rw [zipD3_len]; omega⟩, fun i d R F' M H s a' hi => ?_⟩ q1⟩
      obtain ⟨x, y, z, h1, h2, h3, rfl⟩ := zipD3_at hi
      obtain ⟨u1, hu1, ru1⟩ := rx.get h1
      obtain ⟨u2, hu2, ru2⟩ := ry.get h2
      obtain ⟨u3, hu3, ru3⟩ := rz.get h3
      refine ⟨⟨vx, vy, vz, u1, u2, u3, (hx.mono s).mono a'.fz, (hy.mono s).mono a'.fz, (hz.mono s).mono a'.fz, hu1, hu2, hu3⟩, fun v' H' ⟨T, x', y', z', ev, hT, eH, z1, z2, z3⟩ => ?_⟩
      have e1 := z1 vx ((hx.mono s).mono a'.fz); rw [hu1] at e1; cases e1
      have e2 := z2 vy ((hy.mono s).mono a'.fz); rw [hu2] at e2; cases e2
      have e3 := z3 vz ((hz.mono s).mono a'.fz); rw [hu3] at e3; cases e3
      subst ev eH
      exact new_trip a' hT (ru1.mono s) (ru2.mono s) (ru3.mono s)
    · exact q1.elim
  · exact q1.elim
end
end L3
set_option Elab.async false
set_option linter.all false
set_option maxRecDepth 100000
set_option maxHeartbeats 1000000
namespace L3
open PySem PySem.Spec PyProof.Rows L2
/-- a zip whose last tuple still stands -/
abbrev IsZipF (h : Heap) (z TI TO a : Addr) (f : Bool) : Prop :=
  h.get? z = some { cls := .type "zip", dict := none, data := .fields #[rawInt a, .bool f, .bool false, .ref TI, .ref TO], slots := #[] }
section
variable {prog : Program} {w : World} {A : Around} {E : Value → Shared → Prop} {s : Shared}
theorem lz_free {z TI TO a : Addr} {f : Bool} {oa : Obj} {Q : Bool → Shared → Prop} (hz : IsZipF s.heap z TI TO a f) (ha : s.heap.get? a = some oa)
    (h : ∀ h', IsZipF h' z TI TO a true → Heap.SameBut z s.heap h' → Q false { s with heap := h' }) : wpAny (model prog w) A (Builtin.SmallTypes.ownedTupleIsFree (.ref z)) Q E s := by
  unfold Builtin.SmallTypes.ownedTupleIsFree
  refine wpAny_bind (wpAny_field hz rfl (x := rawInt a) rfl ?_)
  show wpAny _ _ (loadIfAlive ((a : Int).toNat) >>= _) _ _ _
  rw [Int.toNat_natCast]
  refine wpAny_bind (PySem.W.kdx_alive ha ?_)
  simp only [Option.isNone_some, Bool.false_eq_true, if_false]
  refine wpAny_bind (wpAny_field hz rfl (x := .bool f) rfl ?_)
  cases f with
  | true =>
    rw [if_neg (show ¬ ((Value.bool true != Value.bool true) = true) from Bool.false_ne_true)]
    exact wpAny_pure (h s.heap hz (Heap.SameBut.refl _ _))
  | false =>
    rw [if_pos (show (Value.bool false != Value.bool true) = true from rfl)]
    refine wpAny_bind (wpAny_setField_rec hz (by simp) fun h₃ he₃ hs₃ => ?_)
    exact wpAny_pure (h h₃ he₃ hs₃)
theorem lz_out_item {z TI TO i1 i2 l1 l2 a : Addr} {f : Bool} {oa : Obj} {k1 k2 : Nat} {xs ys : Array Value} {x y : Value} {Q : Value → Shared → Prop} (D : ZipApart z TI TO i1 i2 l1 l2)
    (hz : IsZipF s.heap z TI TO a f) (ha : s.heap.get? a = some oa) (hTI : IsPair s.heap TI (.ref i1) (.ref i2))
    (h1 : s.heap.IsListIter i1 l1 k1) (h2 : s.heap.IsListIter i2 l2 k2) (hl1 : s.heap.IsList l1 xs) (hl2 : s.heap.IsList l2 ys) (hx : xs[k1]? = some x) (hy : ys[k2]? = some y)
    (hQ : ∀ h', IsZipF h' z TI TO a true → h'.IsListIter i1 l1 (k1 + 1) → h'.IsListIter i2 l2 (k2 + 1) → IsPair h' s.heap.objs.size x y → h'.objs.size = s.heap.objs.size + 1 →
      (∀ c o, c ≠ z → c ≠ i1 → c ≠ i2 → s.heap.get? c = some o → h'.get? c = some o) → Q (.ref s.heap.objs.size) { s with heap := h' }) :
    wpAny (model prog w) A (Builtin.«zip.__next__» ⟨[.ref z], []⟩) (fun fin s' => ∃ v, fin = .done (.ret v) ∧ Q v s') E s := by
  show wpAny _ _ (field (.ref z) 2 >>= _) _ _ _
  refine wpAny_bind (wpAny_field hz rfl (x := .bool false) rfl ?_)
  show wpAny _ _ (field (.ref z) 3 >>= _) _ _ _
  refine wpAny_bind (wpAny_field hz rfl (x := .ref TI) rfl ?_)
  refine wpAny_bind (wpAny_seqItems hTI rfl ?_)
  show wpAny _ _ (Builtin.SmallTypes.ownedTupleIsFree (.ref z) >>= _) _ _ _
  refine wpAny_bind (lz_free hz ha fun h₁ hz₁ hs₁ => ?_)
  simp only [Bool.false_eq_true, if_false]
  refine wpAny_bind ?_
  simp only [← Array.forIn_toList, List.forIn_cons, List.forIn_nil]
  refine wpAny_bind (wpAny_bind (wpAny_holding ?_))
  show wpAny _ _ (Builtin.SmallTypes.nextOf (.ref i1) >>= _) _ _ _
  refine wpAny_bind (wpAny_nextOf_list_item (h1.extBut hs₁.extBut D.i1z) (hl1.extBut hs₁.extBut D.l1z) hx fun h₂ h1₂ hs₂ => wpAny_pure ?_)
  refine wpAny_pure ?_
  refine wpAny_bind (wpAny_bind (wpAny_holding ?_))
  show wpAny _ _ (Builtin.SmallTypes.nextOf (.ref i2) >>= _) _ _ _
  refine wpAny_bind (wpAny_nextOf_list_item ((h2.extBut hs₁.extBut D.i2z).extBut hs₂.extBut D.i12.symm) ((hl2.extBut hs₁.extBut D.l2z).extBut hs₂.extBut D.l2i1) hy fun h₄ h2₄ hs₄ => wpAny_pure ?_)
  refine wpAny_pure ?_
  refine wpAny_pure ?_
  refine wpAny_bind (wpAny_newTuple ?_ (by show 2 ≤ sizeLine; decide))
  have hsz : h₄.objs.size = s.heap.objs.size := by rw [hs₄.1, hs₂.1, hs₁.1]
  have hz₄ : IsZipF h₄ z TI TO a true := hs₄.extBut _ _ D.i2z.symm (hs₂.extBut _ _ D.i1z.symm hz₁)
  have hk₄ : ∀ c o, c ≠ z → c ≠ i1 → c ≠ i2 → s.heap.get? c = some o → h₄.get? c = some o := fun c o c1 c3 c4 e => hs₄.extBut _ _ c4 (hs₂.extBut _ _ c3 (hs₁.extBut _ _ c1 e))
  have h1₄ : h₄.IsListIter i1 l1 (k1 + 1) := h1₂.extBut hs₄.extBut D.i12
  have up : ∀ c o, h₄.get? c = some o → (h₄.push { cls := .type "tuple", data := .seq #[x, y] }).get? c = some o := fun c o e => Heap.get?_push_of_some _ e
  have hT : IsPair (h₄.push { cls := .type "tuple", data := .seq #[x, y] }) h₄.objs.size x y := Heap.get?_push_size _ rfl
  have hz5 : (h₄.push { cls := .type "tuple", data := .seq #[x, y] }).objs.size = h₄.objs.size + 1 := Heap.size_push ..
  rw [hsz] at hT hz5
  refine wpAny_pure ⟨_, rfl, ?_⟩
  show Q (.ref h₄.objs.size) _
  rw [hsz]
  exact hQ _ (up _ _ hz₄) (h1₄.at fun o e => up _ o e) (h2₄.at fun o e => up _ o e) hT hz5 fun c o c1 c3 c4 e => up c o (hk₄ c o c1 c3 c4 e)
theorem lz_out_end {z TI TO i1 i2 l1 l2 a : Addr} {f : Bool} {oa : Obj} {k1 k2 : Nat} {xs ys : Array Value} {Q : Fin → Shared → Prop} (hh : A.handled = none) (D : ZipApart z TI TO i1 i2 l1 l2)
    (hz : IsZipF s.heap z TI TO a f) (ha : s.heap.get? a = some oa) (hTI : IsPair s.heap TI (.ref i1) (.ref i2))
    (h1 : s.heap.IsListIter i1 l1 k1) (h2 : s.heap.IsListIter i2 l2 k2) (hl1 : s.heap.IsList l1 xs) (hl2 : s.heap.IsList l2 ys) (hend : xs[k1]? = none ∨ ys[k2]? = none)
    (hE : ∀ h' e, (∀ c o, c ≠ z → c ≠ i1 → c ≠ i2 → s.heap.get? c = some o → h'.get? c = some o) → (∃ o, h'.get? e = some o ∧ o.cls = .type "StopIteration") → E (.ref e) { s with heap := h' }) :
    wpAny (model prog w) A (Builtin.«zip.__next__» ⟨[.ref z], []⟩) Q E s := by
  show wpAny _ _ (field (.ref z) 2 >>= _) _ _ _
  refine wpAny_bind (wpAny_field hz rfl (x := .bool false) rfl ?_)
  show wpAny _ _ (field (.ref z) 3 >>= _) _ _ _
  refine wpAny_bind (wpAny_field hz rfl (x := .ref TI) rfl ?_)
  refine wpAny_bind (wpAny_seqItems hTI rfl ?_)
  show wpAny _ _ (Builtin.SmallTypes.ownedTupleIsFree (.ref z) >>= _) _ _ _
  refine wpAny_bind (lz_free hz ha fun h₁ hz₁ hs₁ => ?_)
  simp only [Bool.false_eq_true, if_false]
  refine wpAny_bind ?_
  simp only [← Array.forIn_toList, List.forIn_cons, List.forIn_nil]
  refine wpAny_bind (wpAny_bind (wpAny_holding ?_))
  show wpAny _ _ (Builtin.SmallTypes.nextOf (.ref i1) >>= _) _ _ _
  cases hx : xs[k1]? with
  | none =>
    refine wpAny_bind (wpAny_nextOf_list_end hh (h1.extBut hs₁.extBut D.i1z) (hl1.extBut hs₁.extBut D.l1z) hx fun h₂ e hs₂ he => ?_)
    exact hE h₂ e (fun c o c1 c3 _ x => hs₂ _ _ c3 (hs₁.extBut _ _ c1 x)) he
  | some x =>
    have hy : ys[k2]? = none := by rcases hend with h | h; rw [hx] at h; cases h; exact h
    refine wpAny_bind (wpAny_nextOf_list_item (h1.extBut hs₁.extBut D.i1z) (hl1.extBut hs₁.extBut D.l1z) hx fun h₂ h1₂ hs₂ => wpAny_pure ?_)
    refine wpAny_pure ?_
    refine wpAny_bind (wpAny_bind (wpAny_holding ?_))
    show wpAny _ _ (Builtin.SmallTypes.nextOf (.ref i2) >>= _) _ _ _
    refine wpAny_bind (wpAny_nextOf_list_end hh ((h2.extBut hs₁.extBut D.i2z).extBut hs₂.extBut D.i12.symm) ((hl2.extBut hs₁.extBut D.l2z).extBut hs₂.extBut D.l2i1) hy fun h₄ e hs₄ he => ?_)
    exact hE h₄ e (fun c o c1 c3 c4 x => hs₄ _ _ c4 (hs₂.extBut _ _ c3 (hs₁.extBut _ _ c1 x))) he
/-- the zip within the list's making: fresh, or its last tuple stands -/
def LzSt (h : Heap) (z TI TO : Addr) (lo : Addr) : Prop := (IsZip h z TI TO .none ∧ ∃ x y, IsPair h TO x y) ∨ ∃ a f oa, IsZipF h z TI TO a f ∧ h.get? a = some oa ∧ lo < a
structure LzI (h : Heap) (z TI TO i1 i2 l1 l2 : Addr) (xs ys : Array Value) (i : Nat) : Prop where
  st : LzSt h z TI TO z
  ti : IsPair h TI (.ref i1) (.ref i2)
  it1 : h.IsListIter i1 l1 i
  it2 : h.IsListIter i2 l2 i
  ls1 : h.IsList l1 xs
  ls2 : h.IsList l2 ys
theorem lz_next_item {z TI TO i1 i2 l1 l2 : Addr} {i : Nat} {xs ys : Array Value} {x y : Value} {Q : Option Value → Shared → Prop} (D : ZipApart z TI TO i1 i2 l1 l2) (lt : TO < z ∧ i1 < z ∧ i2 < z)
    (I : LzI s.heap z TI TO i1 i2 l1 l2 xs ys i) (hx : xs[i]? = some x) (hy : ys[i]? = some y)
    (hQ : ∀ h', LzI h' z TI TO i1 i2 l1 l2 xs ys (i + 1) → IsPair h' s.heap.objs.size x y → h'.objs.size = s.heap.objs.size + 1 →
      (∀ c o, c ≠ z → c ≠ TO → c ≠ i1 → c ≠ i2 → s.heap.get? c = some o → h'.get? c = some o) → Q (some (.ref s.heap.objs.size)) { s with heap := h' }) :
    wpAny (model prog w) A (pyNext (.ref z)) Q E s := by
  obtain ⟨st, ti, it1, it2, ls1, ls2⟩ := I
  rcases st with ⟨hz, u, v, hTO⟩ | ⟨a, f, oa, hz, ha, la⟩
  · refine wpAny_pyNext_zip_item D hz ti hTO it1 it2 ls1 ls2 hx hy fun h' a1 a2 a3 a4 a5 a6 a7 => ?_
    exact hQ h' ⟨.inr ⟨_, _, _, a1, a5, Heap.lt_size hz⟩, a7 _ _ D.TIz D.TITO D.TIi1 D.TIi2 ti, a3, a4, ls1.at fun o e => a7 _ o D.l1z D.l1TO D.l1i1 D.l1i2 e, ls2.at fun o e => a7 _ o D.l2z D.l2TO D.l2i1 D.l2i2 e⟩ a5 a6 a7
  · have hT : s.TypeIs (.ref z) "zip" := ⟨_, hz, rfl⟩
    unfold pyNext
    refine wpAny_bind (wpAny_attempt (wpAny_callSpecial?_slot (name := Str.ofString "__next__") hT F.slot_zip_next
      (wpAny_call_entry F.slot_zip_next hT F.entry_zip_next
        (lz_out_item D hz ha ti it1 it2 ls1 ls2 hx hy fun h' a1 a3 a4 a5 a6 a7 => wpAny_pure ?_) (F.args_zip_next_1 _))))
    have ne : ∀ {c : Addr}, c < z → a ≠ c := fun hc => Nat.ne_of_gt (Nat.lt_trans hc la)
    exact hQ h' ⟨.inr ⟨a, _, oa, a1, a7 _ _ (Nat.ne_of_gt la) (ne lt.2.1) (ne lt.2.2) ha, la⟩, a7 _ _ D.TIz D.TIi1 D.TIi2 ti, a3, a4, ls1.at fun o e => a7 _ o D.l1z D.l1i1 D.l1i2 e, ls2.at fun o e => a7 _ o D.l2z D.l2i1 D.l2i2 e⟩ a5 a6 fun c o c1 _ c3 c4 e => a7 c o c1 c3 c4 e
theorem lz_next_end {z TI TO i1 i2 l1 l2 : Addr} {i : Nat} {xs ys : Array Value} {Q : Option Value → Shared → Prop} (hh : A.in1.handled = none) (D : ZipApart z TI TO i1 i2 l1 l2)
    (I : LzI s.heap z TI TO i1 i2 l1 l2 xs ys i) (hend : xs[i]? = none ∨ ys[i]? = none)
    (hQ : ∀ h', (∀ c o, c ≠ z → c ≠ TO → c ≠ i1 → c ≠ i2 → s.heap.get? c = some o → h'.get? c = some o) → Q none { s with heap := h' }) :
    wpAny (model prog w) A (pyNext (.ref z)) Q E s := by
  obtain ⟨st, ti, it1, it2, ls1, ls2⟩ := I
  rcases st with ⟨hz, u, v, hTO⟩ | ⟨a, f, oa, hz, ha, la⟩
  · exact wpAny_pyNext_zip_end hh D hz ti hTO it1 it2 ls1 ls2 hend hQ
  · have hT : s.TypeIs (.ref z) "zip" := ⟨_, hz, rfl⟩
    unfold pyNext
    refine wpAny_bind (wpAny_attempt (wpAny_callSpecial?_slot (name := Str.ofString "__next__") hT F.slot_zip_next
      (wpAny_call_entry F.slot_zip_next hT F.entry_zip_next (lz_out_end hh D hz ha ti it1 it2 ls1 ls2 hend fun h' e hk he => ?_) (F.args_zip_next_1 _))))
    obtain ⟨o, ho, hc⟩ := he
    refine wpAny_bind (wpAny_isInstance (T := "StopIteration") (b := true) ⟨o, ho, hc⟩ isSubtype_stop ?_)
    exact wpAny_pure (hQ _ fun c o c1 _ c3 c4 e => hk c o c1 c3 c4 e)
/-- what has been made: the tuples -/
structure LzG (xs ys : Array Value) (lo : Addr) (h : Heap) (as : List Addr) : Prop where
  rise : as.Pairwise (· < ·)
  above : ∀ a ∈ as, lo < a
  pairs : ∀ (j : Nat) (a : Addr), as[j]? = some a → ∃ x y, xs[j]? = some x ∧ ys[j]? = some y ∧ IsPair h a x y
theorem LzG.there {xs ys : Array Value} {lo : Addr} {h : Heap} {as : List Addr} (g : LzG xs ys lo h as) {a : Addr} (ha : a ∈ as) : a < h.objs.size := by
  obtain ⟨j, hj⟩ := List.mem_iff_getElem?.mp ha
  obtain ⟨_, _, _, _, e⟩ := g.pairs j a hj
  exact Heap.lt_size e
end
section
variable {prog : Program} {w : World} {A : Around} {E : Value → Shared → Prop} {s : Shared} {R : Result → Shared → Prop} {xs ys : Array Value} {n : Nat}
/-- the cells of the zip, and the list that is made behind them -/
theorem lz_loop {S z TI TO i1 i2 l1 l2 : Addr} (hh : A.handled = none) (D : ZipApart z TI TO i1 i2 l1 l2) (lt : TO < z ∧ i1 < z ∧ i2 < z) (hzS : z < S) (hTIS : TI ≠ S) (hl1S : l1 ≠ S) (hl2S : l2 ≠ S) (hn : n = min xs.size ys.size) (hn2 : n ≤ sizeLine) (res : Value) {h₁ : Heap}
    (hR : ∀ h' tk acc c as, (∀ b o, b ≠ S → b ≠ z → b ≠ TO → b ≠ i1 → b ≠ i2 → h₁.get? b = some o → h'.get? b = some o) → h'.get? S = some { cls := .type "list", dict := none, data := .seq acc c, slots := #[] } → as.length = n → LzG xs ys S h' as →
      acc.toList = as.map Value.ref → R (.ok (.ret res)) { s with heap := h', toks := tk }) :
    ∀ (k i : Nat) (h : Heap) (tk c : Nat) (acc : Array Value) (as : List Addr), n - i = k → i ≤ n → LzI h z TI TO i1 i2 l1 l2 xs ys i → (∀ b o, b ≠ S → b ≠ z → b ≠ TO → b ≠ i1 → b ≠ i2 → h₁.get? b = some o → h.get? b = some o) →
      h.get? S = some { cls := .type "list", dict := none, data := .seq acc c, slots := #[] } → acc.toList = as.map Value.ref → as.length = i → LzG xs ys S h as →
      codeAny (model prog w) A (.builtin "list.extend.loop" ⟨[.ref S, .ref z, res], []⟩) R { s with heap := h, toks := tk } := by
  have hSz : S ≠ z := Nat.ne_of_gt hzS
  have hSTO : S ≠ TO := Nat.ne_of_gt (Nat.lt_trans lt.1 hzS)
  have hSi1 : S ≠ i1 := Nat.ne_of_gt (Nat.lt_trans lt.2.1 hzS)
  have hSi2 : S ≠ i2 := Nat.ne_of_gt (Nat.lt_trans lt.2.2 hzS)
  have above : ∀ {b : Addr}, S < b → b ≠ z ∧ b ≠ TO ∧ b ≠ i1 ∧ b ≠ i2 := fun h => ⟨Nat.ne_of_gt (Nat.lt_trans hzS h), Nat.ne_of_gt (Nat.lt_trans (Nat.lt_trans lt.1 hzS) h), Nat.ne_of_gt (Nat.lt_trans (Nat.lt_trans lt.2.1 hzS) h), Nat.ne_of_gt (Nat.lt_trans (Nat.lt_trans lt.2.2 hzS) h)⟩
  intro k
  induction k with
  | zero =>
    intro i h tk c acc as hk hi hst hkeep hS hacc hal hG
    have hin : i = n := by omega
    refine codeAny_builtin PySem.F.entry_extend_loop ?_
    rw [Around.under_plainId PySem.F.plain_extend_loop _]
    show wpAny _ A.in1 (pyNext (.ref z) >>= _) _ _ _
    have hend : xs[i]? = none ∨ ys[i]? = none := by
      rw [Array.getElem?_eq_none_iff, Array.getElem?_eq_none_iff]; omega
    refine wpAny_bind (lz_next_end (s := { s with heap := h, toks := tk }) (A := A.in1) hh D hst hend fun h' he => ?_)
    refine wpAny_pure (hR h' tk acc c as (fun b o e0 e1 e2 e3 e4 e => he b o e1 e2 e3 e4 (hkeep b o e0 e1 e2 e3 e4 e)) (he S _ hSz hSTO hSi1 hSi2 hS) (by omega) ⟨hG.rise, hG.above, fun j a hj => ?_⟩ hacc)
    obtain ⟨x, y, e1, e2, e3⟩ := hG.pairs j a hj
    obtain ⟨b1, b2, b3, b4⟩ := above (hG.above a (List.mem_of_getElem? hj))
    exact ⟨x, y, e1, e2, he a _ b1 b2 b3 b4 e3⟩
  | succ k ih =>
    intro i h tk c acc as hk hi hst hkeep hS hacc hal hG
    have hlt : i < n := by omega
    obtain ⟨x, hx⟩ : ∃ x, xs[i]? = some x := ⟨xs[i]'(by omega), Array.getElem?_eq_getElem _⟩
    obtain ⟨y, hy⟩ : ∃ y, ys[i]? = some y := ⟨ys[i]'(by omega), Array.getElem?_eq_getElem _⟩
    have hsz : acc.size = i := by rw [← Array.length_toList, hacc, List.length_map, hal]
    refine codeAny_builtin PySem.F.entry_extend_loop ?_
    rw [Around.under_plainId PySem.F.plain_extend_loop _]
    show wpAny _ A.in1 (pyNext (.ref z) >>= _) _ _ _
    refine wpAny_bind (lz_next_item (s := { s with heap := h, toks := tk }) D lt hst hx hy fun h' hst' ht hz hkp => ?_)
    dsimp only at ht hz hkp ⊢
    have hS' := hkp S _ hSz hSTO hSi1 hSi2 hS
    have up : ∀ b o, b ≠ S → h'.get? b = some o → (h'.update S (Obj.mapSeq (·.push (Value.ref h.objs.size)))).get? b = some o := fun b o hb e => (Heap.get?_update_other _ _ (Ne.symm hb)).trans e
    have hSl : S < h.objs.size := Heap.lt_size hS
    show wpAny _ A.in1 (updateSeq S (·.push (Value.ref h.objs.size)) >>= _) _ _ _
    refine wpAny_bind ?_
    have hst2 : LzI (h'.update S (Obj.mapSeq (·.push (Value.ref h.objs.size)))) z TI TO i1 i2 l1 l2 xs ys (i + 1) := by
      obtain ⟨st, ti, it1, it2, ls1, ls2⟩ := hst'
      refine ⟨?_, up _ _ hTIS ti, it1.at fun o e => up _ o hSi1.symm e, it2.at fun o e => up _ o hSi2.symm e, ls1.at fun o e => up _ o hl1S e, ls2.at fun o e => up _ o hl2S e⟩
      rcases st with ⟨hz', u, v, hTO⟩ | ⟨a, f, oa, hz', ha, la⟩
      · exact .inl ⟨up _ _ hSz.symm hz', u, v, up _ _ hSTO.symm hTO⟩
      · by_cases haS : a = S
        · subst haS
          exact .inr ⟨a, f, _, up _ _ hSz.symm hz', Heap.get?_update_self _ hS' rfl, la⟩
        · exact .inr ⟨a, f, oa, up _ _ hSz.symm hz', up _ _ haS ha, la⟩
    refine wpAny_updateSeq hS' rfl (wpAny_pure ⟨plainId_quiet PySem.F.plain_extend_loop _, ih (i + 1) _ tk _ (acc.push (Value.ref h.objs.size)) (as ++ [h.objs.size]) (by omega) hlt hst2
      (fun b o e0 e1 e2 e3 e4 e => up b o e0 (hkp b o e1 e2 e3 e4 (hkeep b o e0 e1 e2 e3 e4 e))) (Heap.get?_update_self _ hS' rfl) (by rw [Array.toList_push, hacc, List.map_append]; rfl) (by rw [List.length_append, hal]; rfl) ⟨?_, ?_, ?_⟩⟩) (by rw [hsz]; omega) (by show (acc.push (Value.ref h.objs.size)).size ≤ sizeLine + 1; rw [Array.size_push, hsz]; omega)
    · refine List.pairwise_append.mpr ⟨hG.rise, List.pairwise_singleton _ _, fun a ha b hb => ?_⟩
      rw [List.mem_singleton.mp hb]
      exact hG.there ha
    · intro a ha
      rcases List.mem_append.mp ha with ha | ha
      · exact hG.above a ha
      · rw [List.mem_singleton.mp ha]; exact hSl
    · intro j b hj
      rcases Nat.lt_trichotomy j as.length with e1 | e1 | e1
      · rw [List.getElem?_append_left e1] at hj
        obtain ⟨x', y', f1, f2, f3⟩ := hG.pairs j b hj
        have hb := hG.above b (List.mem_of_getElem? hj)
        obtain ⟨b1, b2, b3, b4⟩ := above hb
        exact ⟨x', y', f1, f2, up b _ (Nat.ne_of_gt hb) (hkp b _ b1 b2 b3 b4 f3)⟩
      · subst e1
        have hb : h.objs.size = b := by simpa using hj
        subst hb
        exact ⟨x, y, by rw [hal]; exact hx, by rw [hal]; exact hy, up _ _ (Nat.ne_of_gt hSl) ht⟩
      · have hnone : (as ++ [h.objs.size])[j]? = none := List.getElem?_eq_none (by rw [List.length_append, List.length_singleton]; omega)
        rw [hnone] at hj; cases hj
end
namespace F0
theorem zip_no_len : typeLookup (.type "zip") "__len__" = pure none := by rw [typeLookup_type, builtinLookup_eq_fast]; kernel_rfl
theorem zip_no_hint : typeLookup (.type "zip") "__length_hint__" = pure none := by rw [typeLookup_type, builtinLookup_eq_fast]; kernel_rfl
end F0
section
variable {prog : Program} {w : World} {A : Around} {E : Value → Shared → Prop} {s : Shared} {R : Result → Shared → Prop} {xs ys : Array Value} {n : Nat}
theorem LzI.keep {h h' : Heap} {z TI TO i1 i2 l1 l2 : Addr} {xs ys : Array Value} {i : Nat} (x : LzI h z TI TO i1 i2 l1 l2 xs ys i) (hfresh : IsZip h z TI TO .none) {S : Addr} (hS : z ≠ S ∧ TI ≠ S ∧ TO ≠ S ∧ i1 ≠ S ∧ i2 ≠ S ∧ l1 ≠ S ∧ l2 ≠ S) (hk : ∀ b o, b ≠ S → h.get? b = some o → h'.get? b = some o) : LzI h' z TI TO i1 i2 l1 l2 xs ys i := by
  obtain ⟨st, ti, it1, it2, ls1, ls2⟩ := x
  obtain ⟨e1, e2, e3, e4, e5, e6, e7⟩ := hS
  refine ⟨?_, hk _ _ e2 ti, it1.at fun o e => hk _ o e4 e, it2.at fun o e => hk _ o e5 e, ls1.at fun o e => hk _ o e6 e, ls2.at fun o e => hk _ o e7 e⟩
  rcases st with ⟨hz, u, v, hTO⟩ | ⟨a, f, oa, hz, _⟩
  · exact .inl ⟨hk _ _ e1 hz, u, v, hk _ _ e3 hTO⟩
  · have q := hfresh.symm.trans hz; cases q
theorem lz_call {Q : Value → Shared → Prop} {z TI TO i1 i2 l1 l2 : Addr} (hh : A.handled = none) (D : ZipApart z TI TO i1 i2 l1 l2) (lt : TI < z ∧ TO < z ∧ i1 < z ∧ i2 < z) (hz : IsZip s.heap z TI TO .none) (hI : LzI s.heap z TI TO i1 i2 l1 l2 xs ys 0) (hn : n = min xs.size ys.size) (hn2 : n ≤ sizeLine)
    (hQ : ∀ h' tk acc c as, (∀ b o, b ≠ z → b ≠ TO → b ≠ i1 → b ≠ i2 → s.heap.get? b = some o → h'.get? b = some o) → h'.get? s.heap.objs.size = some { cls := .type "list", dict := none, data := .seq acc c, slots := #[] } → as.length = n → LzG xs ys s.heap.objs.size h' as →
      acc.toList = as.map Value.ref → Q (.ref s.heap.objs.size) { s with heap := h', toks := tk }) :
    wpAny (model prog w) A (call (.type "list") [.ref z]) Q E s := by
  have hzs : z < s.heap.objs.size := Heap.lt_size hz
  have hl1 : l1 < s.heap.objs.size := by obtain ⟨o, e, _⟩ := hI.ls1; exact Heap.lt_size e
  have hl2 : l2 < s.heap.objs.size := by obtain ⟨o, e, _⟩ := hI.ls2; exact Heap.lt_size e
  refine callType_codes (Q₁ := fun obj s₁ => obj = .ref s.heap.objs.size ∧ s₁ = { s with heap := s.heap.push { cls := .type "list", data := .seq #[] } }) F.called_list (F.typeCall_list_1 _) F.entry_list_init
    (code_list_new _ ⟨rfl, rfl⟩) fun obj s₁ h₁ => ?_
  obtain ⟨rfl, rfl⟩ := h₁
  have hS : (s.heap.push { cls := .type "list", data := .seq #[] }).get? s.heap.objs.size = some { cls := .type "list", data := .seq #[] } := Heap.get?_push_size _ rfl
  have hSz : s.heap.objs.size ≠ z := Nat.ne_of_gt hzs
  have neS : ∀ {b : Addr}, b < s.heap.objs.size → b ≠ s.heap.objs.size := fun h => Nat.ne_of_lt h
  refine ⟨⟨_, hS, rfl⟩, F.args_list_init_2 _ _, ?_⟩
  show wpAny _ A.in1.in1 (do let old ← Builtin.List.listItems (.ref s.heap.objs.size); Builtin.List.listUpdate (.ref s.heap.objs.size) (fun _ => #[]); letGo old.toList.reverse; Builtin.List.listExtendWith (.ref s.heap.objs.size) (.ref z) .none) _ _ _
  refine wpAny_bind ?_
  unfold Builtin.List.listItems
  refine wpAny_bind (wpAny_seqItems hS rfl (wpAny_pure ?_))
  show wpAny _ A.in1.in1 (updateSeq s.heap.objs.size (fun _ => #[]) >>= fun _ => letGo (#[] : Array Value).toList.reverse >>= fun _ => Builtin.List.listExtendWith (.ref s.heap.objs.size) (.ref z) .none) _ _ _
  refine wpAny_bind (wpAny_updateSeq hS rfl ?_)
  have hS2 := Heap.get?_update_self (Obj.mapSeq (fun _ => (#[] : Array Value))) hS rfl
  refine wpAny_bind (wpAny_letGo ?_)
  unfold Builtin.List.listExtendWith
  have up : ∀ (h : Heap) (f : Obj → Obj), (∀ b o, b ≠ s.heap.objs.size → s.heap.get? b = some o → h.get? b = some o) → ∀ b o, b ≠ s.heap.objs.size → s.heap.get? b = some o → (h.update s.heap.objs.size f).get? b = some o := fun h f q b o hb e =>
    (Heap.get?_update_other _ _ (Ne.symm hb)).trans (q b o hb e)
  have k1 : ∀ b o, b ≠ s.heap.objs.size → s.heap.get? b = some o → (s.heap.push { cls := .type "list", data := .seq #[] }).get? b = some o := fun b o _ e => Heap.get?_push_of_some _ e
  have k2 := up _ (Obj.mapSeq (fun _ => (#[] : Array Value))) k1
  have zty : ∀ {h : Heap}, (∀ b o, b ≠ s.heap.objs.size → s.heap.get? b = some o → h.get? b = some o) → IsZip h z TI TO .none := fun {h} q => q _ _ hSz.symm hz
  have ztp : ∀ {h : Heap}, (∀ b o, b ≠ s.heap.objs.size → s.heap.get? b = some o → h.get? b = some o) → Shared.TypeIs { s with heap := h } (.ref z) "zip" := fun {h} q => ⟨_, zty q, rfl⟩
  refine wpAny_bind (wpAny_typeOf (ztp k2) ?_)
  have h1 : Builtin.List.listSameRef (.ref s.heap.objs.size) (.ref z) = false := by simp [Builtin.List.listSameRef, hSz]
  have h2 : (Value.type "zip" == Value.type "list") = false := by decide
  have h3 : (Value.type "zip" == Value.type "tuple") = false := by decide
  simp only [h1, h2, h3, Bool.or_false, Bool.false_eq_true, if_false]
  refine wpAny_bind (wpAny_pyIter_zip (s := { s with heap := _ }) (zty k2) ?_)
  refine wpAny_bind (wpAny_holding ?_)
  unfold Builtin.List.listLengthHint
  refine wpAny_bind (wpAny_specialOf (ztp k2) F0.zip_no_len ?_)
  show wpAny _ A.in1.in1 (specialOf (Value.ref z) (Str.ofString "__length_hint__") >>= _) _ _ _
  refine wpAny_bind (wpAny_specialOf (ztp k2) F0.zip_no_hint ?_)
  refine wpAny_pure ?_
  have key : ∀ (h : Heap) (c₁ tk : Nat), (∀ b o, b ≠ s.heap.objs.size → s.heap.get? b = some o → h.get? b = some o) → h.get? s.heap.objs.size = some { cls := .type "list", data := .seq #[] c₁ } →
      codeAny (model prog w) A.in1 (.builtin "list.extend.loop" ⟨[.ref s.heap.objs.size, .ref z, .none], []⟩) (wants (fun r s₂ => r = .none ∧ Q (.ref s.heap.objs.size) s₂) E) { s with heap := h, toks := tk } := by
    intro h c₁ tk hk hS₁
    refine lz_loop (s := s) (h₁ := h) (A := A.in1) hh D ⟨lt.2.1, lt.2.2.1, lt.2.2.2⟩ hzs (neS (Nat.lt_trans lt.1 hzs)) (neS hl1) (neS hl2) hn hn2 .none (fun h' tk' acc c as e1 e2 e3 e4 e5 => ?_)
      n 0 h tk c₁ #[] [] (Nat.sub_zero _) (Nat.zero_le _) (hI.keep hz ⟨neS hzs, neS (Nat.lt_trans lt.1 hzs), neS (Nat.lt_trans lt.2.1 hzs), neS (Nat.lt_trans lt.2.2.1 hzs), neS (Nat.lt_trans lt.2.2.2 hzs), neS hl1, neS hl2⟩ hk) (fun _ _ _ _ _ _ _ e => e) hS₁ rfl rfl
      ⟨List.Pairwise.nil, (fun _ ha => nomatch ha), (fun j a hj => by simp at hj)⟩
    exact ⟨rfl, hQ h' tk' acc c as (fun b o b1 b2 b3 b4 e => e1 b o (neS (Heap.lt_size e)) b1 b2 b3 b4 (hk b o (neS (Heap.lt_size e)) e)) e2 e3 e4 e5⟩
  refine wpAny_ite_split (fun _ => ?_) (fun _ => wpAny_pure ⟨plainId_quiet F.plain_extend_loop _, key _ _ _ k2 hS2⟩)
  refine wpAny_bind (wpAny_rule ?_)
  refine wpAny_bind ?_
  show wpAny _ _ (updateSeq s.heap.objs.size (·.push .none) >>= fun _ => updateSeq s.heap.objs.size (·.pop)) _ _ _
  refine wpAny_bind (wpAny_updateSeq hS2 rfl ?_)
  have hS3 := Heap.get?_update_self (Obj.mapSeq (·.push Value.none)) hS2 rfl
  refine wpAny_updateSeq (hz := by seq_fits) hS3 rfl ?_
  have hS4 := Heap.get?_update_self (Obj.mapSeq (·.pop)) hS3 rfl
  exact wpAny_pure ⟨plainId_quiet F.plain_extend_loop _, key _ _ _ (up _ (Obj.mapSeq (·.pop)) (up _ (Obj.mapSeq (·.push Value.none)) k2)) hS4⟩
end
/-- new tuples laid -/
def layT (H : Hp) : List Addr → List (List V) → Hp
  | a :: as, p :: ps => layT (upd H a (.tup p)) as ps
  | _, _ => H
theorem layT_not {b : Addr} : ∀ {as : List Addr} {ps : List (List V)} {H : Hp}, b ∉ as → layT H as ps b = H b
  | [], _, _, _ => by simp [layT]
  | a :: as, [], H, _ => by simp [layT]
  | a :: as, p :: ps, H, h => by
    show layT (upd H a (.tup p)) as ps b = _
    rw [layT_not (fun q => h (List.mem_cons_of_mem _ q)), upd_ne (fun q => h (by rw [q]; exact List.mem_cons_self))]
theorem layT_at : ∀ {as : List Addr} {ps : List (List V)} {H : Hp} {j : Nat} {a : Addr} {p : List V}, as.Nodup → as[j]? = some a → ps[j]? = some p → layT H as ps a = some (.tup p)
  | [], _, _, _, _, _, _, h, _ => by simp at h
  | _ :: _, [], _, _, _, _, _, _, h => by simp at h
  | a :: as, p :: ps, H, 0, b, q, nd, h1, h2 => by
    have e1 : a = b := by simpa using h1
    have e2 : p = q := by simpa using h2
    subst e1 e2
    show layT (upd H a (.tup p)) as ps a = _
    rw [layT_not (List.nodup_cons.mp nd).1, upd_same]
  | a :: as, p :: ps, H, j + 1, b, q, nd, h1, h2 => by
    have h1' : as[j]? = some b := by simpa using h1
    have h2' : ps[j]? = some q := by simpa using h2
    show layT (upd H a (.tup p)) as ps b = _
    exact layT_at (List.nodup_cons.mp nd).2 h1' h2'
theorem vals_refs : ∀ as : List Addr, Vals (as.map V.ref) (as.map Value.ref)
  | [] => .nil
  | _ :: as => .cons rfl (vals_refs as)
abbrev pairV (xs ys : List V) : List (List V) := List.zipWith (fun x y => [x, y]) xs ys
def tLstZip (K : PySem.W.Frag) (ta : TA) : TE := fun σ H Q => ta σ H fun vs H1 => ∃ a b xs ys, vs = [.ref a, .ref b] ∧ SqL K H1 a xs ∧ SqL K H1 b ys ∧
  ∀ as S, as.length = min xs.length ys.length → as.Nodup → (∀ x ∈ as, H1 x = none ∧ x ≠ S) → H1 S = none → Q (.ref S) (upd (layT H1 as (pairV xs ys)) S (.lst (as.map V.ref)))
section
variable {X : Cx} {e e2 : Expr} {p p2 pos pos2 : Pos}
theorem pe_lstZip {ta : TA} (hc : X.calm = true) (hgL : Gl X "list") (hmL : X.mg "list" = none) (hg : Gl X "zip") (hm : X.mg "zip" = none) (ha : PA X [e, e2] ta)
    (he : starEach [.Call (.Name "zip" p2) [e, e2] [] pos2] X.env = (false, eval (.Call (.Name "zip" p2) [e, e2] [] pos2) X.env) :: starEach [] X.env := by rfl)
    (hs : starEach [e, e2] X.env = (false, eval e X.env) :: starEach [e2] X.env := by rfl) (hpl : (backTo pos2 (starEach [e2] X.env)).any (·.1) = false := by rfl) :
    PE X (.Call (.Name "list" p) [.Call (.Name "zip" p2) [e, e2] [] pos2] [] pos) (tLstZip X.K ta) := by
  refine ⟨fun pins s σ H Q I hq => ?_⟩
  refine wpAny_Call_Name_kw (ld_blt I hgL hmL (by decide +kernel : bootBuiltins "list" = some (.type "list")) ?_)
  refine PyProof.Rows.callWith_type1 ?_ he rfl
  rw [he]
  show wpAny _ _ (spliced ((false, eval (.Call (.Name "zip" p2) [e, e2] [] pos2) X.env) :: backTo pos (starEach [] X.env))) _ _ s
  refine Calls.spliced_cons ?_
  refine Call_ (ld_blt I hg hm PyProof.Rows.boot_zip (PyProof.Rows.callWith_type1 (thn (ha.run pos2 pins s σ H _ I hq) fun us s1 ⟨vs, H1, I1, r1, q1⟩ => ?_) hs hpl))
  obtain ⟨a, b, xs, ys, ex, hqx, hqy, q⟩ := q1
  subst ex
  cases r1 with
  | cons r rr =>
    cases rr with
    | cons r' rr =>
      cases rr
      cases r
      cases r'
      obtain ⟨its, rv, p1, hz1⟩ := I1.list hqx
      obtain ⟨its2, rv2, p2', _⟩ := I1.list hqy
      refine call_zip_2 p1.isList p2'.isList fun h' hz hTI hTO h1 h2 hsz hk => ?_
      refine Calls.spliced_nil ?_
      have la : a < s1.heap.objs.size := p1.lt
      have lb : b < s1.heap.objs.size := p2'.lt
      have l1 := rv.length
      have l2 := rv2.length
      have D := PySem.W.ktu_apart s1.heap.objs.size a b la lb
      have N : ∀ i j : Nat, i < j → Nat.add s1.heap.objs.size i < Nat.add s1.heap.objs.size j := fun i j h => Nat.add_lt_add_left h _
      refine lz_call (s := { s1 with heap := h' }) (n := min xs.length ys.length) (xs := its.toArray) (ys := its2.toArray) (I1.ok.hd hc) D ⟨N 2 4 (by decide), N 3 4 (by decide), N 0 4 (by decide), N 1 4 (by decide)⟩ hz
        ⟨.inl ⟨hz, _, _, hTO⟩, hTI, h1, h2, p1.isList.at fun o e => hk _ o e, p2'.isList.at fun o e => hk _ o e⟩ (by rw [List.size_toArray, List.size_toArray, l1, l2]) (by omega) fun h2' tk acc c as k0 hS hal hG hacc => ?_
      dsimp only at k0 hS hG ⊢
      have big : ∀ {x : Addr}, h'.objs.size ≤ x → s1.heap.objs.size ≤ x := fun h => Nat.le_trans (by rw [hsz]; exact Nat.le_add_right _ _) h
      have keep : ∀ b o, s1.heap.get? b = some o → h2'.get? b = some o := fun b o e => by
        have hb := Heap.lt_size e
        have ne : ∀ i : Nat, b ≠ Nat.add s1.heap.objs.size i := fun i => Nat.ne_of_lt (Nat.lt_of_lt_of_le hb (Nat.le_add_right _ _))
        exact k0 b o (ne 4) (ne 3) (ne 0) (ne 1) (hk b o e)
      have nd : as.Nodup := hG.rise.imp fun h => Nat.ne_of_lt h
      have hSn : H1 h'.objs.size = none := I1.hok.fresh (big (Nat.le_refl _))
      have asn : ∀ x ∈ as, H1 x = none ∧ x ≠ h'.objs.size := fun x hx => ⟨I1.hok.fresh (big (Nat.le_of_lt (hG.above x hx))), Nat.ne_of_gt (hG.above x hx)⟩
      have eacc : acc = (as.map Value.ref).toArray := by rw [← hacc, Array.toArray_toList]
      have old : ∀ b u, H1 b = some u → b ∉ as ∧ b ≠ h'.objs.size := fun b u e => ⟨fun hb => (by rw [(asn b hb).1] at e; cases e), fun hb => (by rw [hb, hSn] at e; cases e)⟩
      have same : ∀ b, b ∉ as → b ≠ h'.objs.size → upd (layT H1 as (pairV xs ys)) h'.objs.size (.lst (as.map V.ref)) b = H1 b := fun b h1 h2 => by rw [upd_ne h2, layT_not h1]
      have oldS : ∀ b o, s1.heap.get? b = some o → b ∉ as ∧ b ≠ h'.objs.size := fun b o e => by
        have hb := Heap.lt_size e
        exact ⟨fun hm => absurd (Nat.lt_of_lt_of_le hb (big (Nat.le_of_lt (hG.above b hm)))) (Nat.lt_irrefl _), Nat.ne_of_lt (Nat.lt_of_lt_of_le hb (big (Nat.le_refl _)))⟩
      refine ⟨.ref h'.objs.size, upd (layT H1 as (pairV xs ys)) h'.objs.size (.lst (as.map V.ref)), ?_, rfl, q as h'.objs.size hal nd asn hSn⟩
      refine I1.call' (ch := []) rfl ⟨fun b o e _ _ _ => keep b o e, fun b o e _ _ _ => ⟨o.slots, keep b o e⟩, fun b o e n _ => ?_, fun b o e _ => ⟨o, keep b o e⟩, fun b ps e => ?_, fun b o u e => ?_, fun b ps e => ?_⟩ (fun b u e => ?_) I1.bare fun b hb => nomatch hb
      · obtain ⟨e1, e2⟩ := oldS b o e
        rw [same b e1 e2]; exact n
      · obtain ⟨e1, e2⟩ := old b _ e
        rw [same b e1 e2]; exact e
      · obtain ⟨e1, e2⟩ := old b _ e
        rw [same b e1 e2]; exact e
      · obtain ⟨e1, e2⟩ := old b _ e
        exact ⟨#[], by rw [same b e1 e2, e]; simp⟩
      · by_cases hb : b = h'.objs.size
        · subst hb
          rw [upd_same] at e
          cases e
          exact ⟨by rw [List.length_map, hal]; omega, as.map Value.ref, c, vals_refs as, by rw [hS, eacc]⟩
        · rw [upd_ne hb] at e
          by_cases hm : b ∈ as
          · obtain ⟨j, hj⟩ := List.mem_iff_getElem?.mp hm
            obtain ⟨x, y, e1, e2, e3⟩ := hG.pairs j b hj
            rw [List.getElem?_toArray] at e1 e2
            have jl : j < min xs.length ys.length := by have := (List.getElem?_eq_some_iff.mp hj).1; omega
            have hx := List.getElem?_eq_getElem (show j < xs.length by omega)
            have hy := List.getElem?_eq_getElem (show j < ys.length by omega)
            obtain ⟨x', ex, rx⟩ := rv.get hx
            obtain ⟨y', ey, ry⟩ := rv2.get hy
            rw [e1] at ex
            rw [e2] at ey
            cases ex
            cases ey
            rw [layT_at nd hj (p := [xs[j]'(by omega), ys[j]'(by omega)]) (by rw [List.getElem?_zipWith, hx, hy])] at e
            cases e
            exact ⟨by show 2 ≤ sizeLine; decide, [x, y], .cons rx (.cons ry .nil), ⟨_, e3, rfl, _, rfl⟩⟩
          · rw [layT_not hm] at e
            refine (I1.hok b u e).stay (fun c v _ q => keep c v q) (fun c q => ?_) fun c ps q => ?_
            · obtain ⟨e1, e2⟩ := old c _ q
              rw [same c e1 e2]; exact q
            · obtain ⟨e1, e2⟩ := old c _ q
              rw [same c e1 e2]; exact q
theorem lay_reps {K : PySem.W.Frag} {R : Hp} {M : Mp} : ∀ {as : List Addr} {xs ys : List V} {dx dy : List D} {F H : Hp}, At K R F M H → as.length = min xs.length ys.length → as.Nodup → (∀ x ∈ as, H x = none) → Reps K F dx xs → Reps K F dy ys →
    ∃ F2, Same F F2 ∧ At K R F2 M (layT H as (pairV xs ys)) ∧ Reps K F2 (List.zipWith (fun x y => D.tup [x, y]) dx dy) (as.map V.ref)
  | [], xs, ys, dx, dy, F, H, a, hl, _, _, rx, ry => by
    have lx := rx.length
    have ly := ry.length
    refine ⟨F, Same.refl F, by unfold layT; exact a, ?_⟩
    have : List.zipWith (fun x y => D.tup [x, y]) dx dy = [] := by
      apply List.eq_nil_of_length_eq_zero
      rw [List.length_zipWith]
      simp at hl
      omega
    rw [this]; rfl
  | a :: as, [], ys, dx, dy, F, H, _, hl, _, _, _, _ => by simp at hl
  | a :: as, _ :: _, [], dx, dy, F, H, _, hl, _, _, _, _ => by simp at hl
  | a :: as, x :: xs, y :: ys, [], dy, F, H, _, _, _, _, rx, _ => by cases rx
  | a :: as, x :: xs, y :: ys, _ :: _, [], F, H, _, _, _, _, _, ry => by cases ry
  | a :: as, x :: xs, y :: ys, d :: dx, g :: dy, F, H, at0, hl, nd, hn, rx, ry => by
    obtain ⟨x', xs', e1, r1, rx⟩ := rx
    obtain ⟨y', ys', e2, r2, ry⟩ := ry
    cases e1
    cases e2
    obtain ⟨F2, s1, a1, rt⟩ := new_pair at0 (hn a List.mem_cons_self) r1 r2
    have nd' := List.nodup_cons.mp nd
    obtain ⟨F3, s2, a2, rr⟩ := lay_reps (as := as) a1 (by simp at hl; omega) nd'.2 (fun z hz => by rw [upd_ne (fun q => nd'.1 (by rw [← q]; exact hz))]; exact hn z (List.mem_cons_of_mem _ hz)) (rx.mono s1) (ry.mono s1)
    exact ⟨F3, s1.trans s2, a2, _, _, rfl, rt.mono s2, rr⟩
/-- list(zip(a, b)) of two frozen lists -/
def dLstZip (t : DA) : DE := fun env M Q => t env M fun ds M1 => match ds with
  | [.lst xs, .lst ys] => Q (.lst (List.zipWith (fun x y => .tup [x, y]) xs ys)) M1
  | _ => False
theorem pd_lstZip {t : DA} (hmL : X.mg "list" = none) (hm : X.mg "zip" = none) (ha : PDA X [e, e2] t) (hc : X.calm = true := by rfl) (hgL : Gl X "list" := by rfl) (hg : Gl X "zip" := by rfl)
    (he : starEach [.Call (.Name "zip" p2) [e, e2] [] pos2] X.env = (false, eval (.Call (.Name "zip" p2) [e, e2] [] pos2) X.env) :: starEach [] X.env := by rfl)
    (hs : starEach [e, e2] X.env = (false, eval e X.env) :: starEach [e2] X.env := by rfl) (hpl : (backTo pos2 (starEach [e2] X.env)).any (·.1) = false := by rfl) :
    PDE X (.Call (.Name "list" p) [.Call (.Name "zip" p2) [e, e2] [] pos2] [] pos) (dLstZip t) := by
  refine pe_imp (pe_lstZip hc hgL hmL hg hm ha he hs hpl) fun σ H Q ⟨R, F, env, M, Qd, a, en, h, k⟩ => ⟨R, F, env, M, _, a, en, h, fun F1 H1 M1 ds vs s1 a1 r1 l1 q1 => ?_⟩
  split at q1
  · rename_i xs ys
    obtain ⟨_, _, rfl, ⟨P, vx, rfl, hx', rx⟩, _, _, rfl, ⟨P2, vy, rfl, hy', ry⟩, rfl⟩ := r1
    have hx : SqL X.K F1 P vx := SqL.of hx'
    have hy : SqL X.K F1 P2 vy := SqL.of hy'
    refine ⟨P, P2, vx, vy, rfl, a1.fz.seq hx, a1.fz.seq hy, fun as S hal nd asn hSn => ?_⟩
    obtain ⟨F2, s2, a2, r2⟩ := lay_reps a1 hal nd (fun x hx => (asn x hx).1) rx ry
    exact lst_new a2 r2 (k.mono (s1.trans s2)) q1 (by rw [layT_not fun hm => (asn S hm).2 rfl]; exact hSn)
  · exact q1.elim
end
end L3
set_option Elab.async false
set_option linter.all false
set_option maxRecDepth 100000
set_option maxHeartbeats 1000000
namespace L3
open PySem PySem.Spec PyProof.Rows L2 NS
local macro_rules | `(tactic| walk_at "w") => `(tactic| conv => whnf)
def onD : Option Str → D
  | none => .non
  | some n => .str n
def dfB (a b : Str) : Option Str → Bool
  | none => not (eqD (.str a) (.str b))
  | some n => not (eqD (.bl (eqD (.str a) (.str n))) (.bl (eqD (.str b) (.str n))))
def sp_differs : SpD := fun ds M Q _ => ∃ a b o, ds = [.str a, .str b, onD o] ∧ Q (.bl (dfB a b o)) M
def sp_law_differs : SpD := sp_differs
def t_differs : DS := (dRet (dIf (dTest (dBin (rIsD id) (dVar 2) (dC .non))) (dBin (rEqDD not) (dVar 0) (dVar 1)) (dBin (rEqDD not) (dBin (rEqDD id) (dVar 0) (dVar 2)) (dBin (rEqDD id) (dVar 1) (dVar 2)))))
def t_law_differs : DS := t_differs
theorem r_differs_any (xs : List Str) (hx : xs.length = 3) (ds : List D) (M : Mp) (Q : DK) (E : DX) (hl : ds.length = 3) (h : sp_differs ds M Q E) : t_differs { nx := fun _ M' => Q .non M', rt := Q } (startD xs ds) M := by
  obtain ⟨a, b, o, rfl, q⟩ := h
  match xs, hx with
  | [x0, x1, x2], _ =>
  cases o with
  | none =>
    walk_at "w"
    exact ⟨⟨rfl, rfl⟩, q⟩
  | some n =>
    walk_at "w"
    refine ⟨⟨rfl, rfl⟩, ?_⟩
    walk_at "w"
    refine ⟨⟨rfl, rfl⟩, ?_⟩
    walk_at "w"
    exact ⟨⟨rfl, rfl⟩, q⟩
theorem r_differs (ds : List D) (M : Mp) (Q : DK) (E : DX) (hl : ds.length = 3) (h : sp_differs ds M Q E) : t_differs { nx := fun _ M' => Q .non M', rt := Q } (startD ["one", "other", "name"] ds) M := r_differs_any _ rfl ds M Q E hl h
theorem r_law_differs (ds : List D) (M : Mp) (Q : DK) (E : DX) (hl : ds.length = 3) (h : sp_law_differs ds M Q E) : t_law_differs { nx := fun _ M' => Q .non M', rt := Q } (startD ["_law_one", "_law_other", "_law_own"] ds) M := r_differs_any _ rfl ds M Q E hl h
def stP (sg nm : Str) (d : D) : Bool := match d with
  | .tup [.str a, .str b, _] => eqD (.tup [.str a, .str b]) (.tup [.str sg, .str nm])
  | _ => false
def stV (d : D) : D := match d with
  | .tup [_, _, c] => c
  | _ => .non
def nxtS (ws : List Wr) (s : St) (sg nm : Str) : List St := ((stepS ws s).filter fun p => stP sg nm (stepSD p)).map (·.2.2)
theorem nxt_map (ws : List Wr) (s : St) (sg nm : Str) : (((stepS ws s).map stepSD).filter (stP sg nm)).map stV = (nxtS ws s sg nm).map stD := by
  unfold nxtS
  rw [List.filter_map, List.map_map, List.map_map]; rfl
theorem nxt_good {ws : List Wr} (hok : CrewOk ws) {s : St} (g : Good ws s) (sg nm : Str) : ∀ t ∈ nxtS ws s sg nm, Good ws t := fun t ht => by
  obtain ⟨p, hp, rfl⟩ := List.mem_map.mp ht
  exact steps_good hok g p (List.mem_filter.mp hp).1
def stepW (ws : List Wr) (o : Option (List St × St)) (p : Str × Str) : Option (List St × St) := match o with
  | none => none
  | some a => match nxtS ws a.2 p.1 p.2 with
    | [] => none
    | t :: _ => some (a.1 ++ [a.2], t)
def wk (ws : List Wr) (ps : List (Str × Str)) : Option (List St × St) := ps.foldl (stepW ws) (some ([], st0 ws.length))
theorem wk_take {ws : List Wr} {ps : List (Str × Str)} {i : Nat} {p : Str × Str} (h : ps[i]? = some p) : wk ws (ps.take (i + 1)) = stepW ws (wk ws (ps.take i)) p := by
  unfold wk
  rw [List.take_add_one, h, List.foldl_append]; rfl
theorem fold_none (ws : List Wr) : ∀ ps : List (Str × Str), ps.foldl (stepW ws) none = none
  | [] => rfl
  | _ :: ps => fold_none ws ps
theorem wk_none {ws : List Wr} {ps : List (Str × Str)} {i : Nat} (h : wk ws (ps.take i) = none) : wk ws ps = none := by
  unfold wk at h ⊢
  rw [← List.take_append_drop i ps, List.foldl_append, h]; exact fold_none ws _
structure WkOk (ws : List Wr) (n : Nat) (a : List St × St) : Prop where
  good : Good ws a.2
  all : ∀ x ∈ a.1, Good ws x
  len : a.1.length = n
theorem wk_ok {ws : List Wr} (hok : CrewOk ws) : ∀ (n : Nat) (ps : List (Str × Str)) (a : List St × St), ps.length = n → wk ws ps = some a → WkOk ws n a
  | 0, ps, a, hl, h => by
    rw [List.eq_nil_of_length_eq_zero hl] at h
    cases h
    exact ⟨good0 ws, fun _ h => (nomatch h), rfl⟩
  | n + 1, ps, a, hl, h => by
    have hn : n < ps.length := by omega
    have e := wk_take (ws := ws) (List.getElem?_eq_getElem hn)
    rw [List.take_of_length_le (by omega), h] at e
    cases c : wk ws (ps.take n) with
    | none => rw [c] at e; cases e
    | some b =>
      have ih := wk_ok hok n (ps.take n) b (by rw [List.length_take]; omega) c
      rw [c] at e
      have e' : some a = match nxtS ws b.2 ps[n].1 ps[n].2 with
        | [] => none
        | t :: _ => some (b.1 ++ [b.2], t) := e
      cases hN : nxtS ws b.2 ps[n].1 ps[n].2 with
      | nil => rw [hN] at e'; cases e'
      | cons t r =>
        rw [hN] at e'
        cases e'
        refine ⟨nxt_good hok ih.good _ _ t (by rw [hN]; exact List.mem_cons_self), fun x hx => ?_, by rw [List.length_append, ih.len]; rfl⟩
        rcases List.mem_append.mp hx with hx | hx
        · exact ih.all x hx
        · rw [List.mem_singleton.mp hx]; exact ih.good
def wkL (ws : List Wr) (strip names : List Str) : Option (List St) := if strip.length = names.length then (wk ws (strip.zip names)).map fun a => a.1 ++ [a.2] else none
def wkD : Option (List St) → D
  | none => .non
  | some l => .lst (l.map stD)
def TwoRow (d e : D) (xs ys : List D) : Prop := (d = .lst xs ∧ e = .lst ys) ∨ (d = .tup xs ∧ e = .tup ys)
theorem zip_str (xs ys : List Str) : List.zipWith (fun x y => D.tup [x, y]) (xs.map D.str) (ys.map D.str) = (xs.zip ys).map fun p => D.tup [.str p.1, .str p.2] := by
  rw [List.zipWith_map, List.zip_eq_zipWith, List.map_zipWith]
def sp_law_walked : SpD := fun ds M Q _ => ∃ ws, ∃ strip names : List Str, ds = [.lst (ws.map wrD), .lst (strip.map D.str), .lst (names.map D.str)] ∧ CrewOk ws ∧ strip.length ≤ 1000 ∧ ∀ M', Grown M M' → Q (wkD (wkL ws strip names)) M'
def t_law_walked_1 : DS := (dDrop (dAppend (dVar 3) (dBin rIxD (dVar 6) (dC (.int 0)))))
def t_law_walked_2 : DS := (dFrzN 3 (dRet (dVar 3)))
def t_law_walked_3 : DS := (dSeq (dFor (iZipD (dCons (dVar 1) (dCons (dVar 2) dNil))) (.tup [(.name 4), (.name 5)]) (dSeq (dSet 6 (dLc (iLst (dCall sp_law_steps (dCons (dVar 0) (dCons (dBin rIxD (dVar 3) (dUn rNegI (dC (.int 1)))) dNil)))) (.tup [(.name 7), (.name 8), (.name 9)]) (dTest (dBin (rEqDD id) (dTup (dCons (dVar 7) (dCons (dVar 8) dNil))) (dTup (dCons (dVar 4) (dCons (dVar 5) dNil))))) (dVar 9) [7, 8, 9]))
    (dSeq (dIfS (dTest (dBin (rEqDD id) (dVar 6) (dLst dNil))) (dRet (dC .non)) dNext)
    t_law_walked_1)))
    t_law_walked_2)
def t_law_walked : DS := (dSeq (dSet 3 (dLstM (dCons (dCall sp_law_begin (dCons (dVar 0) dNil)) dNil)))
    (dSeq (dIfS (dTest (dBin (rEqDD not) (dUn rLenD (dVar 1)) (dUn rLenD (dVar 2)))) (dRet (dC .non)) dNext)
    t_law_walked_3))
theorem lens_ne {M : Mp} {a b : Nat} : eqD (resD M (.int (a : Int))) (resD M (.int (b : Int))) = decide (a = b) := by
  show eqD (.int (a : Int)) (.int (b : Int)) = _
  rw [eqD_int, Bool.eq_iff_iff]; simp; omega
theorem walk_step {ws : List Wr} {s : St} {sg nm : Str} {M : Mp} {env : DEnv} {K1 : DK} {K2 : Mp → Prop} {p : Str × Str × St} (h0 : env.length = 10) (h4 : env[4]? = some (some (.str sg))) (h5 : env[5]? = some (some (.str nm)))
    (h1 : stP sg nm (stepSD p) = true → K1 (stV (stepSD p)) M) (h2 : stP sg nm (stepSD p) = false → K2 M) :
    Tg.bind (.tup [(.name 7), (.name 8), (.name 9)]) (stepSD p) env fun env1 => dTest (dBin (rEqDD id) (dTup (dCons (dVar 7) (dCons (dVar 8) dNil))) (dTup (dCons (dVar 4) (dCons (dVar 5) dNil)))) env1 M fun b M1 => brn b (dVar 9 env1 M1 K1) (K2 M1) := by
  match env, h0, h4, h5 with
  | [e0, e1, e2, e3, e4, e5, e6, e7, e8, e9], _, h4, h5 =>
    have h4' : e4 = some (.str sg) := Option.some.inj h4
    have h5' : e5 = some (.str nm) := Option.some.inj h5
    subst h4' h5'
    walk_at "w"
    refine ⟨⟨rfl, rfl⟩, ?_⟩
    exact brn_by (fun hc => h1 hc) fun hc => h2 hc
theorem r_law_walked (ds : List D) (M : Mp) (Q : DK) (E : DX) (hl : ds.length = 3) (h : sp_law_walked ds M Q E) : t_law_walked { nx := fun _ M' => Q .non M', rt := Q } (startD ["_law_m", "_law_strip", "_law_names_here", "_law_stands", "_law_sign", "_law_name", "_law_some", "_law_mark", "_law_one", "_law_later"] ds) M := by
  obtain ⟨ws, strip, names, rfl, hok, hs, q⟩ := h
  walk_at "w"
  refine ⟨ws, rfl, hok.few, ?_⟩
  walk_at "w"
  intro p hp
  have gr : ∀ o, Grown M (mupd M p o) := fun o => grown_new hp
  walk_at "w"
  refine ⟨⟨rfl, rfl⟩, ?_⟩
  rw [List.length_map, List.length_map, lens_ne]
  by_cases hlen : strip.length = names.length
  · rw [decide_eq_true hlen]
    have q' : ∀ M', Grown M M' → Q (wkD ((wk ws (strip.zip names)).map fun a => a.1 ++ [a.2])) M' := fun M' g => by
      have := q M' g
      unfold wkL at this
      rw [if_pos hlen] at this; exact this
    walk_at "w"
    rw [zip_str]
    refine for_inv (fun i env M' => ∃ a, wk ws ((strip.zip names).take i) = some a ∧ M' = mupd M p (.lst ((a.1 ++ [a.2]).map stD)) ∧ ∃ e4 e5 e6 e7 e8 e9, env = [some (.lst (ws.map wrD)), some (.lst (strip.map D.str)), some (.lst (names.map D.str)), some (.ref p), e4, e5, e6, e7, e8, e9])
      ⟨([], st0 ws.length), rfl, rfl, _, _, _, _, _, _, rfl⟩ (fun i x env M' K hx ⟨a, ha, eM, e4, e5, e6, e7, e8, e9, ee⟩ hK => ?_) fun env M' ⟨a, ha, eM, e4, e5, e6, e7, e8, e9, ee⟩ => ?_
    · subst ee
      rw [List.getElem?_map] at hx
      obtain ⟨y, hy, rfl⟩ := Option.map_eq_some_iff.mp hx
      have wt := wk_take (ws := ws) hy
      have hil := (List.getElem?_eq_some_iff.mp hy).1
      have ok := wk_ok hok i _ a (by rw [List.length_take]; omega) ha
      rw [ha] at wt
      have hal : (a.1 ++ [a.2]).length = i + 1 := by rw [List.length_append, ok.len]; rfl
      have hzl : (strip.zip names).length ≤ 1000 := by rw [List.length_zip]; omega
      walk_at "w"
      rw [eM, resD_of (mupd_same (M := M))]
      walk_at "w"
      rw [atI_end (xs := (a.1 ++ [a.2]).map stD) (x := stD a.2) (by simp)]
      refine ⟨ws, a.2, rfl, hok, ok.good.ok, ?_⟩
      rw [stepS_map]
      refine lc_filter (stP y.1 y.2) stV (fun d hd K1 K2 h1 h2 => ?_) ?_
      · obtain ⟨u, _, rfl⟩ := List.mem_map.mp hd
        exact walk_step (ws := ws) (s := a.2) rfl rfl rfl h1 h2
      rw [nxt_map]
      have wt' : wk ws ((strip.zip names).take (i + 1)) = match nxtS ws a.2 y.1 y.2 with
        | [] => none
        | t :: _ => some (a.1 ++ [a.2], t) := wt
      have hle : D.les 59 ((nxtS ws a.2 y.1 y.2).map stD) = true := les_of fun d hd => by
        obtain ⟨t, _, rfl⟩ := List.mem_map.mp hd
        exact le_mono (by omega) (st_le t)
      generalize hN : nxtS ws a.2 y.1 y.2 = N at wt' hle ⊢
      walk_at "w"
      refine ⟨⟨hle, rfl⟩, ?_⟩
      have e0 : eqD (resD (mupd M p (.lst ((a.1 ++ [a.2]).map stD))) (.lst (N.map stD))) (resD (mupd M p (.lst ((a.1 ++ [a.2]).map stD))) (.lst [])) = (N.map stD).isEmpty := eqD_nil
      rw [e0]
      cases N with
      | nil =>
        have := wk_none wt'
        rw [this] at q'
        exact q' _ (gr _)
      | cons t N =>
        walk_at "w"
        have ea : atI ((t :: N).map stD) 0 = some (stD t) := atI_0
        refine ⟨?_, ?_⟩
        · walk_at "w"
          rw [mupd_same]
          trivial
        walk_at "w"
        rw [ea]
        walk_at "w"
        rw [mupd_same]
        refine ⟨by rw [List.length_map, hal, sizeLine_eq]; omega, ?_⟩
        refine hK _ _ ⟨_, wt', ?_, _, _, _, _, _, _, rfl⟩
        rw [mupd_mupd, List.map_append (l₂ := [t])]; rfl
    · subst ee eM
      rw [List.length_map, List.take_length] at ha
      rw [ha] at q'
      walk_at "w"
      rw [mupd_same]
      walk_at "w"
      rw [mdel_mupd hp]
      exact q' M (Grown.refl M)
  · rw [decide_eq_false hlen]
    have := q
    unfold wkL at this
    rw [if_neg hlen] at this
    exact this _ (gr _)
def sp_stands_of : SpD := fun ds M Q _ => ∃ ws, ∃ strip names : List Str, ∃ d1 d2, ds = [coD ws, d1, d2] ∧ TwoRow d1 d2 (strip.map D.str) (names.map D.str) ∧ CrewOk ws ∧ strip.length ≤ 1000 ∧ ∀ M', Grown M M' → Q (wkD (wkL ws strip names)) M'
def t_stands_of_1 : DS := (dDrop (dAppend (dVar 3) (dBin rIxD (dVar 6) (dC (.int 0)))))
def t_stands_of_2 : DS := (dFrzN 3 (dRet (dVar 3)))
def t_stands_of_3 : DS := (dSeq (dSet 3 (dLstM (dCons (dMeth CCompany sp_Company_begin (dVar 0) dNil) dNil)))
    (dSeq (dFor (iZipD (dCons (dVar 1) (dCons (dVar 2) dNil))) (.tup [(.name 4), (.name 5)]) (dSeq (dSet 6 (dLc (iLst (dFrz (dMeth CCompany sp_Company_steps (dVar 0) (dCons (dBin rIxD (dVar 3) (dUn rNegI (dC (.int 1)))) dNil)))) (.tup [(.name 7), (.name 8), (.name 9)]) (dTest (dBin (rEqDD id) (dTup (dCons (dVar 7) (dCons (dVar 8) dNil))) (dTup (dCons (dVar 4) (dCons (dVar 5) dNil))))) (dVar 9) [7, 8, 9]))
    (dSeq (dIfS (dTest (dBin (rEqDD id) (dVar 6) (dLst dNil))) (dRet (dC .non)) dNext)
    t_stands_of_1)))
    t_stands_of_2))
def t_stands_of : DS := (dSeq (dIfS (dTest (dBin (rEqDD not) (dUn rLenD (dVar 2)) (dUn rLenD (dVar 1)))) (dRet (dC .non)) dNext)
    t_stands_of_3)
theorem r_stands_of (ds : List D) (M : Mp) (Q : DK) (E : DX) (hl : ds.length = 3) (h : sp_stands_of ds M Q E) : t_stands_of { nx := fun _ M' => Q .non M', rt := Q } (startD ["company", "strip", "names", "found", "sign", "name", "later", "seen", "other", "to"] ds) M := by
  obtain ⟨ws, strip, names, d1, d2, rfl, hd, hok, hs, q⟩ := h
  have loop : ∀ (d1 d2 : D) (E : DEnds) (env : DEnv), E.rt = Q → (∀ M1 p e4 e5 e6 e7 e8 e9 a, wk ws (strip.zip names) = some a → M1 = mupd M p (.lst ((a.1 ++ [a.2]).map stD)) → M p = none → E.nx [some (coD ws), some d1, some d2, some (.ref p), e4, e5, e6, e7, e8, e9] M1) → strip.length = names.length → ∀ p, M p = none → ∀ e4 e5 e6 e7 e8 e9,
      dForL (.tup [(.name 4), (.name 5)]) (dSeq (dSet 6 (dLc (iLst (dFrz (dMeth CCompany sp_Company_steps (dVar 0) (dCons (dBin rIxD (dVar 3) (dUn rNegI (dC (.int 1)))) dNil)))) (.tup [(.name 7), (.name 8), (.name 9)]) (dTest (dBin (rEqDD id) (dTup (dCons (dVar 7) (dCons (dVar 8) dNil))) (dTup (dCons (dVar 4) (dCons (dVar 5) dNil))))) (dVar 9) [7, 8, 9]))
    (dSeq (dIfS (dTest (dBin (rEqDD id) (dVar 6) (dLst dNil))) (dRet (dC .non)) dNext)
    t_stands_of_1)) ((strip.zip names).map fun p => D.tup [.str p.1, .str p.2]) E [some (coD ws), some d1, some d2, some (.ref p), e4, e5, e6, e7, e8, e9] (mupd M p (.lst [stD (st0 ws.length)])) := fun d1 d2 E env hE hK hlen p hp e4 e5 e6 e7 e8 e9 => by
    have gr : ∀ o, Grown M (mupd M p o) := fun o => grown_new hp
    have q' : ∀ M', Grown M M' → Q (wkD ((wk ws (strip.zip names)).map fun a => a.1 ++ [a.2])) M' := fun M' g => by
      have := q M' g
      unfold wkL at this
      rw [if_pos hlen] at this; exact this
    refine for_inv (fun i env M' => ∃ a, wk ws ((strip.zip names).take i) = some a ∧ M' = mupd M p (.lst ((a.1 ++ [a.2]).map stD)) ∧ ∃ e4 e5 e6 e7 e8 e9, env = [some (coD ws), some d1, some d2, some (.ref p), e4, e5, e6, e7, e8, e9])
      ⟨([], st0 ws.length), rfl, rfl, _, _, _, _, _, _, rfl⟩ (fun i x env M' K hx ⟨a, ha, eM, e4, e5, e6, e7, e8, e9, ee⟩ hK => ?_) fun env M' ⟨a, ha, eM, e4, e5, e6, e7, e8, e9, ee⟩ => ?_
    · subst ee
      rw [List.getElem?_map] at hx
      obtain ⟨y, hy, rfl⟩ := Option.map_eq_some_iff.mp hx
      have wt := wk_take (ws := ws) hy
      have hil := (List.getElem?_eq_some_iff.mp hy).1
      have ok := wk_ok hok i _ a (by rw [List.length_take]; omega) ha
      rw [ha] at wt
      have hal : (a.1 ++ [a.2]).length = i + 1 := by rw [List.length_append, ok.len]; rfl
      have hzl : (strip.zip names).length ≤ 1000 := by rw [List.length_zip]; omega
      walk_at "w"
      refine ⟨rfl, ?_⟩
      rw [eM]
      walk_at "w"
      rw [resD_of (mupd_same (M := M))]
      walk_at "w"
      rw [atI_end (xs := (a.1 ++ [a.2]).map stD) (x := stD a.2) (by simp)]
      refine ⟨ws, a.2, rfl, hok, ok.good.ok.pl, ok.good.ok.wt, fun p2 hp2 => ?_⟩
      walk_at "w"
      rw [mupd_same]
      walk_at "w"
      rw [mdel_mupd hp2, stepS_map]
      refine lc_filter (stP y.1 y.2) stV (fun d hd K1 K2 h1 h2 => ?_) ?_
      · obtain ⟨u, _, rfl⟩ := List.mem_map.mp hd
        exact walk_step (ws := ws) (s := a.2) rfl rfl rfl h1 h2
      rw [nxt_map]
      have wt' : wk ws ((strip.zip names).take (i + 1)) = match nxtS ws a.2 y.1 y.2 with
        | [] => none
        | t :: _ => some (a.1 ++ [a.2], t) := wt
      have hle : D.les 59 ((nxtS ws a.2 y.1 y.2).map stD) = true := les_of fun d hd => by
        obtain ⟨t, _, rfl⟩ := List.mem_map.mp hd
        exact le_mono (by omega) (st_le t)
      generalize hN : nxtS ws a.2 y.1 y.2 = N at wt' hle ⊢
      walk_at "w"
      refine ⟨⟨hle, rfl⟩, ?_⟩
      have e0 : eqD (resD (mupd M p (.lst ((a.1 ++ [a.2]).map stD))) (.lst (N.map stD))) (resD (mupd M p (.lst ((a.1 ++ [a.2]).map stD))) (.lst [])) = (N.map stD).isEmpty := eqD_nil
      rw [e0]
      cases N with
      | nil =>
        have := wk_none wt'
        rw [this] at q'
        show E.rt .non _
        rw [hE]
        exact q' _ (gr _)
      | cons t N =>
        walk_at "w"
        have ea : atI ((t :: N).map stD) 0 = some (stD t) := atI_0
        refine ⟨?_, ?_⟩
        · walk_at "w"
          rw [mupd_same]
          trivial
        walk_at "w"
        rw [ea]
        walk_at "w"
        rw [mupd_same]
        refine ⟨by rw [List.length_map, hal, sizeLine_eq]; omega, ?_⟩
        refine hK _ _ ⟨_, wt', ?_, _, _, _, _, _, _, rfl⟩
        rw [mupd_mupd, List.map_append (l₂ := [t])]; rfl
    · subst ee
      rw [List.length_map, List.take_length] at ha
      exact hK _ _ _ _ _ _ _ _ _ ha eM hp
  have tail : ∀ (d1 d2 : D), strip.length = names.length → ∀ M1 p e4 e5 e6 e7 e8 e9 a, wk ws (strip.zip names) = some a → M1 = mupd M p (.lst ((a.1 ++ [a.2]).map stD)) → M p = none → t_stands_of_2 { nx := fun _ M' => Q .non M', rt := Q } [some (coD ws), some d1, some d2, some (.ref p), e4, e5, e6, e7, e8, e9] M1 := fun d1 d2 hlen M1 p e4 e5 e6 e7 e8 e9 a ha eM hp => by
    have q' := q M (Grown.refl M)
    unfold wkL at q'
    rw [if_pos hlen, ha] at q'
    subst eM
    walk_at "w"
    rw [mupd_same]
    walk_at "w"
    rw [mdel_mupd hp]
    exact q'
  rcases hd with ⟨rfl, rfl⟩ | ⟨rfl, rfl⟩
  all_goals
    walk_at "w"
    refine ⟨⟨rfl, rfl⟩, ?_⟩
    rw [List.length_map, List.length_map, lens_ne]
    by_cases hlen : strip.length = names.length
    · rw [decide_eq_true hlen.symm]
      walk_at "w"
      refine ⟨rfl, ws, rfl, hok.few, ?_⟩
      walk_at "w"
      intro p hp
      walk_at "w"
      rw [zip_str]
      exact loop _ _ _ [] rfl (fun M1 p e4 e5 e6 e7 e8 e9 a h1 h2 h3 => tail _ _ hlen M1 p e4 e5 e6 e7 e8 e9 a h1 h2 h3) hlen p hp _ _ _ _ _ _
    · rw [decide_eq_false fun h => hlen h.symm]
      have := q
      unfold wkL at this
      rw [if_neg hlen] at this
      exact this _ (Grown.refl M)
def ThreeRow (d e g : D) (xs ys zs : List D) : Prop := (d = .lst xs ∧ e = .lst ys ∧ g = .lst zs) ∨ (d = .tup xs ∧ e = .tup ys ∧ g = .tup zs)
abbrev atS (xs : List Str) (i : Nat) : Str := xs.getD i Str.empty
def alks (ks : List Kind) (strip one other : List Str) : List Bool := (List.range strip.length).map fun i => alB ks (atS one i) (atS other i) (atS strip i)
theorem atS_some {xs : List Str} {i : Nat} (h : i < xs.length) : xs[i]? = some (atS xs i) := by
  unfold atS
  rw [List.getD_eq_getElem?_getD, List.getElem?_eq_getElem h]; rfl
theorem zipD3_some : ∀ {xs ys zs : List D} {i : Nat} {x y z : D}, xs[i]? = some x → ys[i]? = some y → zs[i]? = some z → (zipD3 xs ys zs)[i]? = some (.tup [x, y, z])
  | [], _, _, i, _, _, _, h, _, _ => by simp at h
  | _ :: _, [], _, i, _, _, _, _, h, _ => by simp at h
  | _ :: _, _ :: _, [], i, _, _, _, _, _, h => by simp at h
  | a :: xs, b :: ys, c :: zs, 0, x, y, z, h1, h2, h3 => by
    have e1 : a = x := by simpa using h1
    have e2 : b = y := by simpa using h2
    have e3 : c = z := by simpa using h3
    subst e1 e2 e3; rfl
  | a :: xs, b :: ys, c :: zs, i + 1, x, y, z, h1, h2, h3 => by
    have h1' : xs[i]? = some x := by simpa using h1
    have h2' : ys[i]? = some y := by simpa using h2
    have h3' : zs[i]? = some z := by simpa using h3
    have := zipD3_some h1' h2' h3'
    simpa [zipD3] using this
theorem zip3_rng {strip one other : List Str} (h1 : one.length = strip.length) (h2 : other.length = strip.length) : zipD3 (strip.map D.str) (one.map D.str) (other.map D.str) = (List.range strip.length).map fun i => D.tup [.str (atS strip i), .str (atS one i), .str (atS other i)] := by
  refine List.ext_getElem? fun i => ?_
  by_cases c : i < strip.length
  · rw [zipD3_some (x := .str (atS strip i)) (y := .str (atS one i)) (z := .str (atS other i)) (by rw [List.getElem?_map, atS_some c]; rfl) (by rw [List.getElem?_map, atS_some (by omega)]; rfl) (by rw [List.getElem?_map, atS_some (by omega)]; rfl)]
    rw [List.getElem?_map, List.getElem?_range c]; rfl
  · rw [List.getElem?_eq_none (by rw [zipD3_len, List.length_map, List.length_map, List.length_map]; omega), List.getElem?_eq_none (by rw [List.length_map, List.length_range]; omega)]
theorem wkL_len {ws : List Wr} {strip names : List Str} {l : List St} (h : wkL ws strip names = some l) : strip.length = names.length := by
  unfold wkL at h
  split at h
  · assumption
  · cases h
def twR (ws : List Wr) (ks : List Kind) (strip one other : List Str) : Option D := match wkL ws strip one, wkL ws strip other with
  | some l1, some l2 => if (alks ks strip one other).all id = true then some (.lst (List.zipWith (fun x y => .tup [x, y]) (l1.map stD) (l2.map stD))) else none
  | _, _ => none
def sp_twin_stands : SpD := fun ds M Q _ => ∃ ws, ∃ strip one other : List Str, ∃ d1 d2 d3 dk, ∃ ks : List Kind, ds = [coD ws, d1, d2, d3, dk] ∧ ThreeRow d1 d2 d3 (strip.map D.str) (one.map D.str) (other.map D.str) ∧ IsRow dk (ks.map kdD) ∧ ks.length ≤ 100 ∧ CrewOk ws ∧ strip.length ≤ 1000 ∧ ∀ M', Grown M M' → Q ((twR ws ks strip one other).getD .non) M'
def t_twin_stands_1 : DS := (dSeq (dSet 5 (dLc (iZip3D (dCons (dVar 1) (dCons (dVar 2) (dCons (dVar 3) dNil)))) (.tup [(.name 8), (.name 9), (.name 10)]) dYes (dCall sp_is_alike (dCons (dVar 9) (dCons (dVar 10) (dCons (dVar 8) (dCons (dVar 4) dNil))))) [8, 9, 10]))
    (dRet (dIf (dTru (dUn rAllD (dVar 5))) (dLstZip (dCons (dVar 6) (dCons (dVar 7) dNil))) (dC .non))))
def t_twin_stands : DS := (dSeq (dPar 6 7 (dCons (dCall sp_stands_of (dCons (dVar 0) (dCons (dVar 1) (dCons (dVar 2) dNil)))) (dCons (dCall sp_stands_of (dCons (dVar 0) (dCons (dVar 1) (dCons (dVar 3) dNil)))) dNil)))
    (dSeq (dIfS (dOr (dTest (dBin (rIsD id) (dVar 6) (dC .non))) (dTest (dBin (rIsD id) (dVar 7) (dC .non)))) (dRet (dC .non)) dNext)
    t_twin_stands_1))
theorem r_twin_stands (ds : List D) (M : Mp) (Q : DK) (E : DX) (hl : ds.length = 5) (h : sp_twin_stands ds M Q E) : t_twin_stands { nx := fun _ M' => Q .non M', rt := Q } (startD ["company", "strip", "one", "other", "stamps", "alike", "first", "second", "sign", "name", "beside"] ds) M := by
  obtain ⟨ws, strip, one, other, d1, d2, d3, dk, ks, rfl, hd, hk, hkl, hok, hs, q⟩ := h
  rcases hd with ⟨rfl, rfl, rfl⟩ | ⟨rfl, rfl, rfl⟩
  all_goals
    walk_at "w"
    refine ⟨ws, strip, one, _, _, rfl, (by first | exact .inl ⟨rfl, rfl⟩ | exact .inr ⟨rfl, rfl⟩), hok, hs, fun M1 g1 => ?_⟩
    walk_at "w"
    refine ⟨ws, strip, other, _, _, rfl, (by first | exact .inl ⟨rfl, rfl⟩ | exact .inr ⟨rfl, rfl⟩), hok, hs, fun M2 g2 => ?_⟩
    have q' := q M2 fun b o h => g2 b o (g1 b o h)
    unfold twR at q'
    cases c1 : wkL ws strip one with
    | none =>
      rw [c1] at q'
      exact q'
    | some l1 =>
      cases c2 : wkL ws strip other with
      | none =>
        rw [c1, c2] at q'
        exact q'
      | some l2 =>
        rw [c1, c2] at q'
        have e1 := wkL_len c1
        have e2 := wkL_len c2
        walk_at "w"
        refine lc_map (fun d => match d with
          | .tup [.str sg, .str a, .str b] => .bl (alB ks a b sg)
          | _ => .non) (fun d hd K1 K2 h1 => ?_) ?_
        · rw [zip3_rng e1.symm e2.symm] at hd
          obtain ⟨i, _, rfl⟩ := List.mem_map.mp hd
          walk_at "w"
          exact ⟨_, _, _, _, ks, rfl, hk, hkl, h1⟩
        rw [zip3_rng e1.symm e2.symm]
        rw [show ((List.range strip.length).map fun i => D.tup [.str (atS strip i), .str (atS one i), .str (atS other i)]).map (fun d => match d with
          | .tup [.str sg, .str a, .str b] => .bl (alB ks a b sg)
          | _ => .non) = (alks ks strip one other).map D.bl by unfold alks; rw [List.map_map, List.map_map]; rfl]
        walk_at "w"
        rw [asBls_map]
        walk_at "w"
        cases c3 : (alks ks strip one other).all id with
        | true =>
          have q2 : Q ((if (alks ks strip one other).all id = true then some (D.lst (List.zipWith (fun x y => .tup [x, y]) (l1.map stD) (l2.map stD))) else none).getD .non) M2 := q'
          rw [if_pos c3] at q2
          exact q2
        | false =>
          have q2 : Q ((if (alks ks strip one other).all id = true then some (D.lst (List.zipWith (fun x y => .tup [x, y]) (l1.map stD) (l2.map stD))) else none).getD .non) M2 := q'
          rw [if_neg (by rw [c3]; exact Bool.false_ne_true)] at q2
          exact q2
def dbB (ws : List Wr) (ks : List Kind) (strip one other : List Str) (many : Int) (o : Option Str) : Bool :=
  if many < 0 then false else if (strip.length : Int) - 1 - many < 0 then false else match wkL ws strip one, wkL ws strip other with
    | some _, some _ => if (alks ks strip one other).all id = true then dfB (atS one ((strip.length : Int) - 1 - many).toNat) (atS other ((strip.length : Int) - 1 - many).toNat) o else false
    | _, _ => false
def sp_is_doubt : SpD := fun ds M Q _ => ∃ ws, ∃ strip one other : List Str, ∃ d1 d2 d3 dk, ∃ many : Int, ∃ o, ∃ ks : List Kind, ds = [coD ws, d1, d2, d3, .int many, onD o, dk] ∧ ThreeRow d1 d2 d3 (strip.map D.str) (one.map D.str) (other.map D.str) ∧ IsRow dk (ks.map kdD) ∧ ks.length ≤ 100 ∧ CrewOk ws ∧ strip.length ≤ 1000 ∧ ∀ M', Grown M M' → Q (.bl (dbB ws ks strip one other many o)) M'
def t_is_doubt_1 : DS := (dRet (dCall sp_differs (dCons (dBin rIxD (dVar 2) (dVar 7)) (dCons (dBin rIxD (dVar 3) (dVar 7)) (dCons (dVar 5) dNil)))))
def t_is_doubt : DS := (dSeq (dSet 7 (dBin rSubI (dBin rSubI (dUn rLenD (dVar 1)) (dC (.int 1))) (dVar 4)))
    (dSeq (dIfS (dOr (dTest (dBin rLtI (dVar 4) (dC (.int 0)))) (dOr (dTest (dBin rLtI (dVar 7) (dC (.int 0)))) (dTest (dBin (rIsD id) (dCall sp_twin_stands (dCons (dVar 0) (dCons (dVar 1) (dCons (dVar 2) (dCons (dVar 3) (dCons (dVar 6) dNil)))))) (dC .non))))) (dRet (dC (.bl false))) dNext)
    t_is_doubt_1))
theorem atI_str {xs : List Str} {k : Int} (h0 : ¬ k < 0) (h1 : k < (xs.length : Int)) : atI (xs.map D.str) k = some (.str (atS xs k.toNat)) := by
  have e : (xs.map D.str)[k.toNat]? = some (.str (atS xs k.toNat)) := by rw [List.getElem?_map, atS_some (by omega)]; rfl
  have := atI_of e
  rwa [Int.toNat_of_nonneg (by omega)] at this
theorem r_is_doubt (ds : List D) (M : Mp) (Q : DK) (E : DX) (hl : ds.length = 7) (h : sp_is_doubt ds M Q E) : t_is_doubt { nx := fun _ M' => Q .non M', rt := Q } (startD ["company", "strip", "one", "other", "many", "who", "stamps", "at"] ds) M := by
  obtain ⟨ws, strip, one, other, d1, d2, d3, dk, many, o, ks, rfl, hd, hk, hkl, hok, hs, q⟩ := h
  rcases hd with ⟨rfl, rfl, rfl⟩ | ⟨rfl, rfl, rfl⟩
  all_goals
    walk_at "w"
    rw [List.length_map]
    refine brn_by (fun c => ?_) fun c => ?_
    · have hm : many < 0 := of_decide_eq_true c
      have q' := q M (Grown.refl M)
      unfold dbB at q'
      rw [if_pos hm] at q'
      exact q'
    have hm : ¬ many < 0 := of_decide_eq_false c
    walk_at "w"
    refine brn_by (fun c => ?_) fun c => ?_
    · have hm2 : (strip.length : Int) - 1 - many < 0 := of_decide_eq_true c
      have q' := q M (Grown.refl M)
      unfold dbB at q'
      rw [if_neg hm, if_pos hm2] at q'
      exact q'
    have hm2 : ¬ (strip.length : Int) - 1 - many < 0 := of_decide_eq_false c
    walk_at "w"
    refine ⟨ws, strip, one, other, _, _, _, dk, ks, rfl, (by first | exact .inl ⟨rfl, rfl, rfl⟩ | exact .inr ⟨rfl, rfl, rfl⟩), hk, hkl, hok, hs, fun M2 g2 => ?_⟩
    have q' := q M2 g2
    unfold dbB at q'
    rw [if_neg hm, if_neg hm2] at q'
    unfold twR
    cases c1 : wkL ws strip one with
    | none =>
      rw [c1] at q'
      exact q'
    | some l1 =>
      cases c2 : wkL ws strip other with
      | none =>
        rw [c1, c2] at q'
        exact q'
      | some l2 =>
        rw [c1, c2] at q'
        have e1 := wkL_len c1
        have e2 := wkL_len c2
        have q2 : Q (.bl (if (alks ks strip one other).all id = true then dfB (atS one ((strip.length : Int) - 1 - many).toNat) (atS other ((strip.length : Int) - 1 - many).toNat) o else false)) M2 := q'
        cases c3 : (alks ks strip one other).all id with
        | true =>
          rw [if_pos c3] at q2
          walk_at "w"
          rw [atI_str hm2 (by omega)]
          walk_at "w"
          rw [atI_str hm2 (by omega)]
          exact ⟨_, _, o, rfl, q2⟩
        | false =>
          rw [if_neg (by rw [c3]; exact Bool.false_ne_true)] at q2
          exact q2
def sp_law_doubt_ok : SpD := fun ds M Q _ => ∃ ws, ∃ strip one other : List Str, ∃ many : Int, ∃ o, ∃ ks : List Kind, ds = [.lst (ws.map wrD), .lst (strip.map D.str), .lst (one.map D.str), .lst (other.map D.str), .int many, onD o, .lst (ks.map kdD)] ∧ ks.length ≤ 100 ∧ CrewOk ws ∧ strip.length ≤ 1000 ∧ ∀ M', Grown M M' → Q (.bl (dbB ws ks strip one other many o)) M'
def t_law_doubt_ok_1 : DS := (dSeq (dSet 8 (dLc (iRange1 (dCons (dUn rLenD (dVar 1)) dNil)) (.name 9) dYes (dCall sp_law_alike (dCons (dBin rIxD (dVar 2) (dVar 9)) (dCons (dBin rIxD (dVar 3) (dVar 9)) (dCons (dBin rIxD (dVar 1) (dVar 9)) (dCons (dVar 6) dNil))))) [9]))
    (dRet (dAndV (dUn rAllD (dVar 8)) (dCall sp_law_differs (dCons (dBin rIxD (dVar 2) (dVar 7)) (dCons (dBin rIxD (dVar 3) (dVar 7)) (dCons (dVar 5) dNil)))))))
def t_law_doubt_ok : DS := (dSeq (dSet 7 (dBin rSubI (dBin rSubI (dUn rLenD (dVar 1)) (dC (.int 1))) (dVar 4)))
    (dSeq (dIfS (dOr (dTest (dBin rLtI (dVar 4) (dC (.int 0)))) (dOr (dTest (dBin rLtI (dVar 7) (dC (.int 0)))) (dOr (dTest (dBin (rIsD id) (dCall sp_law_walked (dCons (dVar 0) (dCons (dVar 1) (dCons (dVar 2) dNil)))) (dC .non))) (dTest (dBin (rIsD id) (dCall sp_law_walked (dCons (dVar 0) (dCons (dVar 1) (dCons (dVar 3) dNil)))) (dC .non)))))) (dRet (dC (.bl false))) dNext)
    t_law_doubt_ok_1))
theorem r_law_doubt_ok (ds : List D) (M : Mp) (Q : DK) (E : DX) (hl : ds.length = 7) (h : sp_law_doubt_ok ds M Q E) : t_law_doubt_ok { nx := fun _ M' => Q .non M', rt := Q } (startD ["_law_m", "_law_strip", "_law_one", "_law_other", "_law_many", "_law_own", "_law_marked", "_law_at", "_law_same_eye", "_law_k"] ds) M := by
  obtain ⟨ws, strip, one, other, many, o, ks, rfl, hkl, hok, hs, q⟩ := h
  walk_at "w"
  rw [List.length_map]
  refine brn_by (fun c => ?_) fun c => ?_
  · have hm : many < 0 := of_decide_eq_true c
    have q' := q M (Grown.refl M)
    unfold dbB at q'
    rw [if_pos hm] at q'
    exact q'
  have hm : ¬ many < 0 := of_decide_eq_false c
  walk_at "w"
  refine brn_by (fun c => ?_) fun c => ?_
  · have hm2 : (strip.length : Int) - 1 - many < 0 := of_decide_eq_true c
    have q' := q M (Grown.refl M)
    unfold dbB at q'
    rw [if_neg hm, if_pos hm2] at q'
    exact q'
  have hm2 : ¬ (strip.length : Int) - 1 - many < 0 := of_decide_eq_false c
  walk_at "w"
  refine ⟨ws, strip, one, rfl, hok, hs, fun M1 g1 => ?_⟩
  cases c1 : wkL ws strip one with
  | none =>
    have q' := q M1 g1
    unfold dbB at q'
    rw [if_neg hm, if_neg hm2, c1] at q'
    exact q'
  | some l1 =>
    walk_at "w"
    refine ⟨ws, strip, other, rfl, hok, hs, fun M2 g2 => ?_⟩
    have q' := q M2 fun b o h => g2 b o (g1 b o h)
    unfold dbB at q'
    rw [if_neg hm, if_neg hm2, c1] at q'
    cases c2 : wkL ws strip other with
    | none =>
      rw [c2] at q'
      exact q'
    | some l2 =>
      rw [c2] at q'
      have e1 := wkL_len c1
      have e2 := wkL_len c2
      have q2 : Q (.bl (if (alks ks strip one other).all id = true then dfB (atS one ((strip.length : Int) - 1 - many).toNat) (atS other ((strip.length : Int) - 1 - many).toNat) o else false)) M2 := q'
      walk_at "w"
      rw [List.length_map]
      refine ⟨⟨by omega, by omega⟩, ?_⟩
      rw [Int.toNat_natCast, rng0]
      refine lc_map (fun d => match d with
        | .int i => .bl (alB ks (atS one i.toNat) (atS other i.toNat) (atS strip i.toNat))
        | _ => .non) (fun d hd K1 K2 h1 => ?_) ?_
      · obtain ⟨i, hi, rfl⟩ := List.mem_map.mp hd
        have hi' := List.mem_range.mp hi
        walk_at "w"
        rw [atI_str (k := (i : Int)) (by omega) (by omega)]
        walk_at "w"
        rw [atI_str (k := (i : Int)) (by omega) (by omega)]
        walk_at "w"
        rw [atI_str (k := (i : Int)) (by omega) (by omega)]
        exact ⟨_, _, _, _, ks, rfl, .inl rfl, hkl, h1⟩
      rw [show ((List.range strip.length).map natI).map (fun d => match d with
        | .int i => .bl (alB ks (atS one i.toNat) (atS other i.toNat) (atS strip i.toNat))
        | _ => .non) = (alks ks strip one other).map D.bl by unfold alks; rw [List.map_map, List.map_map]; rfl]
      walk_at "w"
      rw [asBls_map]
      cases c3 : (alks ks strip one other).all id with
      | true =>
        rw [if_pos c3] at q2
        walk_at "w"
        rw [c3]
        walk_at "w"
        rw [atI_str hm2 (by omega)]
        walk_at "w"
        rw [atI_str hm2 (by omega)]
        exact ⟨_, _, o, rfl, q2⟩
      | false =>
        rw [if_neg (by rw [c3]; exact Bool.false_ne_true)] at q2
        walk_at "w"
        rw [c3]
        exact q2
end L3
set_option Elab.async false
set_option linter.all false
set_option maxRecDepth 100000
set_option maxHeartbeats 1000000
namespace L3
open PySem PySem.Spec PyProof.Rows L2
section
variable {X : Cx} {e : Expr}
def dPeekT (i : Nat) (t : DT) : DT := fun env M K => ∃ q d' M', env[i]? = some (some (.ref q)) ∧ Thaw M (.ref q) d' M' ∧ t (env.set i (some d')) (fun _ => none) fun b _ => K b M
theorem pdt_peekD (i : Nat) {t : DT} (he : PDT X e t) : PDT X e (dPeekT i t) := pt_imp he fun σ H Q ⟨R, F, env, M, Qd, a, e, h, k⟩ => by
  obtain ⟨q, d', M', hq, th, h⟩ := h
  obtain ⟨v, hv, rv⟩ := e.get i _ hq
  obtain ⟨F', s2, a', r'⟩ := thaw_ok th a rv
  have a2 : At X.K (fun b => match F' b with
      | some _ => none
      | none => match M b with
        | some _ => H b
        | none => R b) F' (fun _ => none) H := by
    refine ⟨a'.fz, fun b o ho => (by cases ho), fun b w hw => ?_⟩
    cases hF : F' b with
    | some o => simp only [hF] at hw; cases hw
    | none =>
      simp only [hF] at hw
      refine ⟨rfl, rfl, ?_⟩
      cases hM : M b with
      | some o => simp only [hM] at hw; exact hw
      | none => simp only [hM] at hw; exact (a.fr _ _ hw).2.2
  refine ⟨_, F', _, _, _, a2, (e.mono s2).reset hv r', h, fun F3 H3 M3 w s3 a3 q3 => ?_⟩
  have same : ∀ b u, H b = some u → (M b ≠ none ∨ R b ≠ none) → H3 b = some u := fun b u hu hb => by
    cases hF : F' b with
    | some o =>
      have := a'.fz _ _ hF
      rw [hu] at this; cases this
      exact a3.fz _ _ (s3 _ _ hF)
    | none =>
      refine (a3.fr b u ?_).2.2
      simp only [hF]
      cases hM : M b with
      | some o => exact hu
      | none =>
        rcases hb with z | z
        · exact absurd hM z
        · cases hR : R b with
          | none => exact absurd hR z
          | some o => have := (a.fr _ _ hR).2.2; rw [hu] at this; cases this; rfl
  refine k F H3 M w (Same.refl F) ⟨fun b w hw => a3.fz _ _ (s3 _ _ (s2 _ _ hw)), fun b o ho => ?_, fun b w hw => ?_⟩ q3
  · obtain ⟨h1, u2, h2, h3⟩ := a.mu _ _ ho
    exact ⟨h1, u2, same b u2 h2 (.inl (by rw [ho]; simp)), h3⟩
  · obtain ⟨h1, h2, h3⟩ := a.fr _ _ hw
    exact ⟨h1, h2, same b w h3 (.inr (by rw [hw]; simp))⟩
end
end L3
set_option Elab.async false
set_option linter.all false
set_option maxRecDepth 100000
set_option maxHeartbeats 1000000
namespace L3
open PySem PySem.Spec PyProof.Rows L2 NS
local macro_rules | `(tactic| walk_at "w") => `(tactic| conv => whnf)
structure Lin (l : List Ar) : Prop where
  ar : ∀ a ∈ l, ArOk a
  nd : l.Pairwise fun a b => kyD a ≠ kyD b
theorem arLt_ne {a b : Ar} (h : arLt a b) : kyD a ≠ kyD b := fun e => by
  obtain ⟨e1, e2⟩ := ky_inj e
  rcases h with q | ⟨_, q⟩
  · omega
  · rw [e2] at q; exact List.lt_irrefl _ q
theorem leD_ar {a b : Ar} (h : leD (arD a) (arD b) = true) : ¬ arLt b a := fun g => by
  have h' : (!PySem.W.dataLt (.tuple [.int b.at_, .str b.sg, .int b.to]) (.tuple [.int a.at_, .str a.sg, .int a.to])) = true := h
  rw [PySem.W.dataLt_tuple, PySem.W.dataLt_cons (by simp [PySem.W.alike]), PySem.W.dataLt_cons (by simp [PySem.W.alike]), PySem.W.dataLt_int, PySem.W.dataLt_str] at h'
  simp only [PyData.eqv] at h'
  rcases g with q | ⟨q1, q2⟩
  · have n1 : ¬ b.at_ = a.at_ := by omega
    simp [n1, q] at h'
  · have n2 : ¬ b.sg = a.sg := fun e => by rw [e] at q2; exact List.lt_irrefl _ q2
    simp [q1, n2, q2] at h'
def deAr (d : D) : Ar := match d with
  | .tup [.int a, .str s, .int t] => ⟨a, s, t⟩
  | _ => ⟨0, Str.empty, 0⟩
theorem sort_ars {l : List Ar} (h : Lin l) : ∃ ys : List Ar, sortD (l.map arD) = ys.map arD ∧ (∀ a ∈ ys, ArOk a) ∧ ys.Pairwise arLt := by
  have hm : sortD (l.map arD) = ((sortD (l.map arD)).map deAr).map arD := by
    rw [List.map_map]
    conv => lhs; rw [← List.map_id (sortD (l.map arD))]
    refine List.map_congr_left fun d hd => ?_
    obtain ⟨a, _, rfl⟩ := List.mem_map.mp ((sortD_perm _).mem_iff.mp hd)
    rfl
  have hp : ((sortD (l.map arD)).map deAr).Perm l := by
    have := (sortD_perm (l.map arD)).map deAr
    rw [List.map_map] at this
    have e : l.map (deAr ∘ arD) = l := by
      conv => rhs; rw [← List.map_id l]
      exact List.map_congr_left fun a _ => rfl
    rwa [e] at this
  refine ⟨(sortD (l.map arD)).map deAr, hm, fun a ha => h.ar a (hp.mem_iff.mp ha), ?_⟩
  have h1 := sortD_pw (l.map arD)
  rw [hm, List.pairwise_map] at h1
  have h2 : ((sortD (l.map arD)).map deAr).Pairwise fun a b => kyD a ≠ kyD b := (hp.pairwise_iff fun {a b} q e => q e.symm).mpr h.nd
  exact (h2.and h1).imp fun {a b} ⟨q1, q2⟩ => arLt_tri q1 (leD_ar q2)
theorem ars_srt (l : List Ar) : D.les 50 (l.map arD) = true ∧ SrtOk (l.map arD) := by
  refine ⟨les_of fun d hd => ?_, fun d hd d' hd' => ?_, .inl fun d hd => ?_⟩
  · obtain ⟨a, _, rfl⟩ := List.mem_map.mp hd; rfl
  · obtain ⟨x, hx, rfl⟩ := List.mem_map.mp hd
    obtain ⟨y, hy, rfl⟩ := List.mem_map.mp hd'
    obtain ⟨a, _, rfl⟩ := List.mem_map.mp hx
    obtain ⟨b, _, rfl⟩ := List.mem_map.mp hy
    simp only [arD, D.py, D.pys, PySem.W.alike, PySem.W.alikeAll, Bool.and_true]
  · obtain ⟨x, hx, rfl⟩ := List.mem_map.mp hd
    obtain ⟨a, _, rfl⟩ := List.mem_map.mp hx
    exact ⟨_, _, rfl⟩
def toD (d : D) : D := match d with
  | .tup [_, _, t] => t
  | _ => .non
def plD (d : D) : D := match d with
  | .tup [p, _, _] => p
  | _ => .non
theorem any_int {zs : List Int} {z : Int} : ((zs.map D.int).any fun y => eqD y (.int z)) = decide (z ∈ zs) := by
  rw [Bool.eq_iff_iff, List.any_eq_true, decide_eq_true_iff]
  constructor
  · rintro ⟨x, hx, h⟩
    obtain ⟨y, hy, rfl⟩ := List.mem_map.mp hx
    rw [eqD_int] at h
    have : y = z := by simpa using h
    rw [← this]; exact hy
  · intro h
    exact ⟨_, List.mem_map.mpr ⟨_, h, rfl⟩, by rw [eqD_int]; simp⟩
def sp_law_filled : SpD := fun ds M Q _ => ∃ w, ∃ cs : List Nat, ds = [wrD w, .lst (cs.map sgn)] ∧ WrOk w ∧ SgOk cs ∧ 0 < cs.length ∧ ∀ w', WrOk w' → w'.name = w.name → Q (wrD w') M
def t_law_filled_1 : DS := (dFrzN 2 (dRet (dBin rAddD (dTup (dCons (dBin rIxD (dVar 0) (dC (.int 0))) (dCons (dUn rTupleD (dSl (dUn rSortD (dVar 2)) dNoPart (dPart (dC (.int 9))))) dNil))) (dSl (dVar 0) (dPart (dC (.int 2))) dNoPart))))
def t_law_filled : DS := (dSeq (dSet 2 (dUn rListM (dBin rIxD (dVar 0) (dC (.int 1)))))
    (dSeq (dFor (iLst (dBin rAddD (dLst (dCons (dC (.int 0)) dNil)) (dLc (iTpl (dBin rIxD (dVar 0) (dC (.int 1)))) (.tup [(.name 4), (.name 5), (.name 6)]) dYes (dVar 6) [4, 5, 6]))) (.name 3) (dIfS (dPeekT 2 (dTest (dBin (rInDD not) (dVar 3) (dLc (iLst (dVar 2)) (.tup [(.name 4), (.name 5), (.name 6)]) dYes (dVar 4) [4, 5, 6])))) (dDrop (dAppend (dVar 2) (dTup (dCons (dVar 3) (dCons (dBin rIxD (dVar 1) (dC (.int 0))) (dCons (dC (.int 0)) dNil)))))) dNext))
    t_law_filled_1))
theorem r_law_filled (ds : List D) (M : Mp) (Q : DK) (E : DX) (hl : ds.length = 2) (h : sp_law_filled ds M Q E) : t_law_filled { nx := fun _ M' => Q .non M', rt := Q } (startD ["_law_writer_here", "_law_letters_here", "_law_lines", "_law_place", "_law_at", "_law_sign", "_law_to"] ds) M := by
  obtain ⟨w, cs, rfl, wok, hcs, hne, q⟩ := h
  obtain ⟨c0, hc0⟩ : ∃ c, cs[0]? = some c := ⟨_, List.getElem?_eq_getElem hne⟩
  walk_at "w"
  intro p hp
  walk_at "w"
  refine lc_map toD (fun d hd K1 K2 h1 => ?_) ?_
  · obtain ⟨a, _, rfl⟩ := List.mem_map.mp hd
    walk_at "w"
    exact h1
  rw [show (w.ar.map arD).map toD = (w.ar.map (·.to)).map D.int by rw [List.map_map, List.map_map]; rfl]
  walk_at "w"
  have hfew := wok.few
  refine ⟨by rw [List.length_map, List.length_map, sizeLine_eq]; show 1 + _ ≤ _; omega, ?_⟩
  show dForL _ _ ((0 :: w.ar.map (·.to)).map D.int) _ _ _
  have hlin : Lin w.ar := ⟨wok.ar, wok.up.imp arLt_ne⟩
  refine for_inv (fun i env M' => ∃ l, Lin l ∧ l.length ≤ 9 + i ∧ M' = mupd M p (.lst (l.map arD)) ∧ ∃ e3 e4 e5 e6, env = [some (wrD w), some (.lst (cs.map sgn)), some (.ref p), e3, e4, e5, e6]) ⟨w.ar, hlin, by omega, rfl, _, _, _, _, rfl⟩
    (fun i x env M' K hx ⟨l, hl, hll, eM, e3, e4, e5, e6, ee⟩ hK => ?_) fun env M' ⟨l, hl, hll, eM, e3, e4, e5, e6, ee⟩ => ?_
  · subst ee eM
    rw [List.getElem?_map] at hx
    obtain ⟨z, hz, rfl⟩ := Option.map_eq_some_iff.mp hx
    have hi : i < 10 := by
      have := (List.getElem?_eq_some_iff.mp hz).1
      simp at this
      omega
    have hz2 : 0 ≤ z ∧ z ≤ 2 := by
      rcases List.mem_cons.mp (List.mem_of_getElem? hz) with rfl | h
      · exact ⟨by decide, by decide⟩
      · obtain ⟨a, ha, rfl⟩ := List.mem_map.mp h
        exact ⟨(wok.ar a ha).to0, (wok.ar a ha).to1⟩
    walk_at "w"
    refine ⟨p, _, _, rfl, .lst mupd_same (thaws_keep _ _), ?_⟩
    walk_at "w"
    refine lc_map plD (fun d hd K1 K2 h1 => ?_) ?_
    · obtain ⟨a, _, rfl⟩ := List.mem_map.mp hd
      walk_at "w"
      exact h1
    rw [show (l.map arD).map plD = (l.map (·.at_)).map D.int by rw [List.map_map, List.map_map]; rfl]
    walk_at "w"
    refine ⟨⟨rfl, les_of fun d hd => by obtain ⟨x, _, rfl⟩ := List.mem_map.mp hd; rfl⟩, ?_⟩
    rw [any_int]
    by_cases c : z ∈ l.map (·.at_)
    · rw [decide_eq_true c]
      exact hK _ _ ⟨l, hl, by omega, rfl, _, _, _, _, rfl⟩
    · rw [decide_eq_false c]
      walk_at "w"
      refine ⟨?_, ?_⟩
      · walk_at "w"
        rw [mupd_same]
        trivial
      walk_at "w"
      rw [show atI (cs.map sgn) 0 = some (sgn c0) from atI_map (i := 0) hc0]
      walk_at "w"
      rw [mupd_same]
      refine ⟨by rw [List.length_map, sizeLine_eq]; omega, ?_⟩
      refine hK _ _ ⟨l ++ [⟨z, ⟨#[c0]⟩, 0⟩], ⟨fun a ha => ?_, ?_⟩, by rw [List.length_append]; show _ + 1 ≤ _; omega, by rw [mupd_mupd, List.map_append]; rfl, _, _, _, _, rfl⟩
      · rcases List.mem_append.mp ha with ha | ha
        · exact hl.ar a ha
        · rw [List.mem_singleton.mp ha]
          exact ⟨hz2.1, hz2.2, ⟨c0, rfl, hcs.let_ _ (List.mem_of_getElem? hc0)⟩, Int.le_refl 0, (show (0 : Int) ≤ 2 by decide)⟩
      · rw [List.pairwise_append]
        refine ⟨hl.nd, List.pairwise_singleton _ _, fun a ha b hb e => ?_⟩
        rw [List.mem_singleton.mp hb] at e
        obtain ⟨e1, _⟩ := ky_inj e
        exact c (List.mem_map.mpr ⟨a, ha, e1⟩)
  · subst ee eM
    obtain ⟨ys, e1, e2, e3'⟩ := sort_ars hl
    walk_at "w"
    rw [mupd_same]
    walk_at "w"
    rw [mdel_mupd hp]
    refine ⟨ars_srt l, ?_⟩
    rw [e1]
    walk_at "w"
    have ec : cut (ys.map arD) none (some 9) = (ys.take 9).map arD := by
      rw [show cut (ys.map arD) none (some 9) = (ys.map arD).take 9 from cut_to _ 9, List.map_take]
    rw [ec]
    refine ⟨by show 2 + 2 ≤ _; decide, ?_⟩
    refine q ⟨w.name, ys.take 9, w.pat, w.cap⟩ ⟨wok.name, by show (ys.take 9).length ≤ 9; rw [List.length_take]; omega, fun a ha => e2 a (List.mem_of_mem_take ha), e3'.sublist (List.take_sublist _ _), wok.pat0, wok.pat1, wok.cap0, wok.cap1⟩ rfl
def cutW (d : D) : D := match d with
  | .tup (a :: b :: _) => .tup [a, b, .int 0, .int 0]
  | _ => .non
def calmW (w : Wr) : Wr := ⟨w.name, w.ar, 0, 0⟩
theorem calm_ok {ws : List Wr} (h : CrewOk ws) : CrewOk ((ws.take 2).map calmW) := by
  refine ⟨fun w hw => ?_, ?_, ?_⟩
  · obtain ⟨v, hv, rfl⟩ := List.mem_map.mp hw
    have o := h.ok v (List.mem_of_mem_take hv)
    exact ⟨o.name, o.few, o.ar, o.up, Int.le_refl 0, (show (0 : Int) ≤ 3 by decide), Int.le_refl 0, (show (0 : Int) ≤ 3 by decide)⟩
  · rw [List.map_map]
    show ((ws.take 2).map (·.name)).Nodup
    rw [List.map_take]
    exact h.nd.sublist (List.take_sublist _ _)
  · rw [List.length_map, List.length_take]; omega
theorem calm_len {ws : List Wr} (h : 0 < ws.length) : 0 < ((ws.take 2).map calmW).length := by
  rw [List.length_map, List.length_take]; omega
theorem cut_calm (ws : List Wr) : (cut (ws.map wrD) none (some 2)).map cutW = ((ws.take 2).map calmW).map wrD := by
  rw [show cut (ws.map wrD) none (some 2) = (ws.map wrD).take 2 from cut_to _ 2, ← List.map_take, List.map_map, List.map_map]; rfl
/-- what comes of many stands -/
def tightP (ws ws' : List Wr) : Prop := ws' = ws ∨ ws' = (ws.take 2).map calmW
theorem tightP.ok {ws ws' : List Wr} (h : tightP ws ws') (hok : CrewOk ws) (hne : 0 < ws.length) : CrewOk ws' ∧ 0 < ws'.length := by
  rcases h with rfl | rfl
  · exact ⟨hok, hne⟩
  · exact ⟨calm_ok hok, calm_len hne⟩
def sp_law_tight : SpD := fun ds M Q _ => ∃ p b, ∃ cs : List Nat, ∃ n : Nat, ds = [.ref p, .lst (cs.map sgn), .int (n : Int)] ∧ M p = some (.lst (Bag.l b)) ∧ b.Ok ∧ SgOk cs ∧ 0 < cs.length ∧ n + 1 ≤ 61 ∧ ∀ ws b', Bag.Ok b' → CrewOk ws → 0 < ws.length → Q (.lst (ws.map wrD)) (mupd M p (.lst b'.l))
def t_law_tight_1 (wd : World) : DS := (dRet (dVar 3))
def t_law_tight_2 (wd : World) : DS := (dSeq (dIfS (dTest (dBin rGtI (dUn (rLenDk wd) (dCall (sp_law_ways wd) (dCons (dVar 3) (dCons (dBin rAddD (dVar 2) (dC (.int 1))) dNil)))) (dVar 2))) (dSet 3 (dLc (iLst (dSl (dVar 3) dNoPart (dPart (dC (.int 2))))) (.name 4) dYes (dBin rAddD (dSl (dVar 4) dNoPart (dPart (dC (.int 2)))) (dTup (dCons (dC (.int 0)) (dCons (dC (.int 0)) dNil)))) [4])) dNext)
    (t_law_tight_1 wd))
def t_law_tight (wd : World) : DS := (dSeq (dSet 3 (dCall sp_law_company (dCons (dVar 0) (dCons (dC (.int 3)) (dCons (dVar 1) dNil)))))
    (dSeq (dIfS (dTest (dBin rGtI (dCall sp_law_pull (dCons (dVar 0) (dCons (dC (.int 4)) dNil))) (dC (.int 0)))) (dSet 3 (dLc (iLst (dVar 3)) (.name 4) dYes (dCall sp_law_filled (dCons (dVar 4) (dCons (dVar 1) dNil))) [4])) dNext)
    (t_law_tight_2 wd)))
theorem r_law_tight_2 (wd : World) {ws : List Wr} (hok : CrewOk ws) {n : Nat} (hn : n + 1 ≤ 61) (e0 e1 e4 : Option D) (M : Mp) (Q : DK) (nx : DEnv → Mp → Prop) (q : ∀ ws', tightP ws ws' → Q (.lst (ws'.map wrD)) M) :
    t_law_tight_2 wd { nx := nx, rt := Q } [e0, e1, some (.int (n : Int)), some (.lst (ws.map wrD)), e4] M := by
  have hf := hok.few
  walk_at "w"
  refine ⟨ws, n + 1, rfl, hok, hn, ?_⟩
  walk_at "w"
  refine ⟨rfl, ?_⟩
  refine brn_by (fun _ => ?_) fun _ => ?_
  · walk_at "w"
    refine lc_map cutW (fun d hd K1 K2 h1 => ?_) ?_
    · have hd' := cut_mem hd
      obtain ⟨w, _, rfl⟩ := List.mem_map.mp hd'
      walk_at "w"
      exact ⟨by show 2 + 2 ≤ _; decide, h1⟩
    rw [cut_calm]
    exact q _ (.inr rfl)
  · exact q _ (.inl rfl)
theorem r_law_tight (wd : World) (ds : List D) (M : Mp) (Q : DK) (E : DX) (hl : ds.length = 3) (h : sp_law_tight ds M Q E) : t_law_tight wd { nx := fun _ M' => Q .non M', rt := Q } (startD ["_law_bag_here", "_law_letters_here", "_law_limit", "_law_m", "_law_writer_here"] ds) M := by
  obtain ⟨p, b, cs, n, rfl, hM, hb, hcs, hne, hn, q⟩ := h
  walk_at "w"
  refine ⟨p, b, 3, cs, rfl, hM, hb, by decide, by decide, hcs, fun ws b1 hb1 hok hw0 hle => ?_⟩
  walk_at "w"
  refine ⟨p, b1, 4, rfl, mupd_same, hb1, by decide, by decide, fun r b2 hb2 r0 r1 => ?_⟩
  rw [mupd_mupd]
  walk_at "w"
  have fin : ∀ (ws : List Wr) (e4 : Option D), CrewOk ws → 0 < ws.length → t_law_tight_2 wd { nx := fun _ M' => Q .non M', rt := Q } [some (.ref p), some (.lst (cs.map sgn)), some (.int (n : Int)), some (.lst (ws.map wrD)), e4] (mupd M p (.lst b2.l)) := fun ws e4 hok h0 =>
    r_law_tight_2 wd hok hn _ _ _ _ _ _ fun ws' h => q ws' b2 hb2 (h.ok hok h0).1 (h.ok hok h0).2
  refine brn_by (fun _ => ?_) fun _ => ?_
  · walk_at "w"
    refine lc_inv (fun i acc M' => M' = mupd M p (.lst b2.l) ∧ ∃ vs : List Wr, acc = vs.map wrD ∧ vs.map (·.name) = (ws.take i).map (·.name) ∧ ∀ v ∈ vs, WrOk v) ⟨rfl, [], rfl, rfl, fun _ h => (nomatch h)⟩ (fun i x acc M' K hx ⟨eM, vs, ea, en, ev⟩ hK => ?_) fun acc M' ⟨eM, vs, ea, en, ev⟩ => ?_
    · subst ea
      rw [List.getElem?_map] at hx
      obtain ⟨w, hw, rfl⟩ := Option.map_eq_some_iff.mp hx
      walk_at "w"
      refine ⟨w, cs, rfl, hok.ok w (List.mem_of_getElem? hw), hcs, hne, fun w' ok' e => ?_⟩
      refine hK _ _ ⟨eM, vs ++ [w'], by rw [List.map_append]; rfl, ?_, fun v hv => ?_⟩
      · rw [List.map_append, en, List.take_add_one, hw, List.map_append, List.map_cons, List.map_nil, e]; rfl
      · rcases List.mem_append.mp hv with hv | hv
        · exact ev v hv
        · rw [List.mem_singleton.mp hv]; exact ok'
    · subst ea eM
      rw [List.length_map, List.take_length] at en
      have hl : vs.length = ws.length := by have := congrArg List.length en; rwa [List.length_map, List.length_map] at this
      have hf := hok.few
      exact fin vs _ ⟨ev, by rw [en]; exact hok.nd, by omega⟩ (by omega)
  · exact fin ws _ hok hw0
def sp_law_taking_turns : SpD := fun ds M Q _ => ∃ p b, ∃ cs : List Nat, ds = [.ref p, .lst (cs.map sgn)] ∧ M p = some (.lst (Bag.l b)) ∧ b.Ok ∧ SgOk cs ∧ 0 < cs.length ∧ ∀ ws b', Bag.Ok b' → CrewOk ws → 0 < ws.length → Q (.lst (ws.map wrD)) (mupd M p (.lst b'.l))
def t_law_taking_turns_1 : DS := (dFrzN 3 (dRet (dVar 3)))
def t_law_taking_turns : DS := (dSeq (dSet 2 (dCall sp_law_of (dCons (dVar 0) (dCons (dLst (dCons (dC (.int 2)) (dCons (dC (.int 2)) (dCons (dC (.int 3)) dNil)))) dNil))))
    (dSeq (dSet 3 (dLstM dNil))
    (dSeq (dFor (iLst (dCall sp_law_names (dCons (dVar 0) (dCons (dVar 2) dNil)))) (.name 4) (dSeq (dSet 5 (dBin rAddD (dC (.int 1)) (dCall sp_law_pull (dCons (dVar 0) (dCons (dBin rSubI (dC (.int 5)) (dVar 2)) dNil)))))
    (dSeq (dSet 6 (dLc (iRange1 (dCons (dVar 5) dNil)) (.name 7) dYes (dTup (dCons (dVar 7) (dCons (dCall sp_law_of (dCons (dVar 0) (dCons (dVar 1) dNil))) (dCons (dBin rModI (dBin rAddD (dVar 7) (dC (.int 1))) (dVar 5)) dNil)))) [7]))
    (dDrop (dAppend (dVar 3) (dTup (dCons (dVar 4) (dCons (dUn rTupleD (dVar 6)) (dCons (dBin rSubI (dVar 2) (dC (.int 1))) (dCons (dC (.int 0)) dNil))))))))))
    t_law_taking_turns_1)))
theorem r_law_taking_turns (ds : List D) (M : Mp) (Q : DK) (E : DX) (hl : ds.length = 2) (h : sp_law_taking_turns ds M Q E) : t_law_taking_turns { nx := fun _ M' => Q .non M', rt := Q } (startD ["_law_bag_here", "_law_letters_here", "_law_many", "_law_found", "_law_name", "_law_places", "_law_lines", "_law_k"] ds) M := by
  obtain ⟨p, b, cs, rfl, hM, hb, hcs, hne, q⟩ := h
  have hcf := hcs.few
  walk_at "w"
  refine ⟨p, b, .lst [.int 2, .int 2, .int 3], [.int 2, .int 2, .int 3], rfl, hM, hb, by decide, by decide, .inl ⟨rfl, fun e => by cases e⟩, fun y b1 hb1 hy => ?_⟩
  obtain ⟨m, rfl, m2, m3⟩ : ∃ m : Int, y = .int m ∧ 2 ≤ m ∧ m ≤ 3 := by
    simp only [List.mem_cons, List.not_mem_nil, or_false] at hy
    rcases hy with rfl | rfl | rfl <;> exact ⟨_, rfl, by decide, by decide⟩
  walk_at "w"
  intro qa hqa
  have hpq : qa ≠ p := fun e => by rw [e, mupd_same] at hqa; cases hqa
  rw [mupd_ne hpq] at hqa
  walk_at "w"
  refine ⟨p, b1, m, rfl, by rw [mupd_ne (Ne.symm hpq), mupd_same], hb1, by omega, by omega, fun xs b2 hb2 hxl hxn hxd => ?_⟩
  rw [mupd_comm hpq, mupd_mupd]
  walk_at "w"
  refine for_inv (fun i env M' => ∃ e4 e5 e6 e7 b', ∃ ws : List Wr, env = [some (.ref p), some (.lst (cs.map sgn)), some (.int m), some (.ref qa), e4, e5, e6, e7] ∧ Bag.Ok b' ∧ M' = mupd (mupd M p (.lst b'.l)) qa (.lst (ws.map wrD)) ∧ ws.map (·.name) = xs.take i ∧ ∀ w ∈ ws, WrOk w)
    ⟨_, _, _, _, b2, [], rfl, hb2, rfl, by simp, by simp⟩ (fun i x env M' K hx ⟨e4, e5, e6, e7, b4, ws, ee, hb4, eM, en, ew⟩ hK => ?_) fun env M' ⟨e4, e5, e6, e7, b4, ws, ee, hb4, eM, en, ew⟩ => ?_
  · subst ee
    rw [List.getElem?_map] at hx
    obtain ⟨nm, hnm, rfl⟩ := Option.map_eq_some_iff.mp hx
    have hi : i < xs.length := (List.getElem?_eq_some_iff.mp hnm).1
    have hwl : ws.length = i := by have := congrArg List.length en; rw [List.length_map, List.length_take] at this; omega
    walk_at "w"
    refine ⟨p, b4, 5 - m, rfl, by rw [eM, mupd_ne (Ne.symm hpq), mupd_same], hb4, by omega, by omega, fun r b5 hb5 r0 r1 => ?_⟩
    rw [eM, mupd_comm hpq, mupd_mupd]
    walk_at "w"
    refine ⟨⟨by omega, by omega⟩, ?_⟩
    refine lc_inv (fun j acc M2 => ∃ b', Bag.Ok b' ∧ M2 = mupd (mupd M p (.lst b'.l)) qa (.lst (ws.map wrD)) ∧ ∃ as : List Ar, acc = as.map arD ∧ as.length = j ∧ (∀ a ∈ as, ArOk a ∧ a.at_ < (j : Int)) ∧ as.Pairwise arLt) ⟨b5, hb5, rfl, [], rfl, rfl, fun _ h => (nomatch h), List.Pairwise.nil⟩
      (fun j x acc M2 K2 hx ⟨b6, hb6, eM2, as, ea, el, ha, hup⟩ hK2 => ?_) fun acc M2 ⟨b6, hb6, eM2, as, ea, el, ha, hup⟩ => ?_
    · obtain ⟨hj, rfl⟩ := rng_at hx
      rw [Int.zero_add]
      walk_at "w"
      refine ⟨p, b6, .lst (cs.map sgn), cs.map sgn, rfl, by rw [eM2, mupd_ne (Ne.symm hpq), mupd_same], hb6, by rw [List.length_map]; exact hne, by rw [List.length_map]; omega, .inl ⟨rfl, fun e => by cases e⟩, fun y b7 hb7 hy => ?_⟩
      obtain ⟨c, hc, rfl⟩ := List.mem_map.mp hy
      rw [eM2, mupd_comm hpq, mupd_mupd]
      walk_at "w"
      refine ⟨by omega, ?_⟩
      have hmod : 0 ≤ ((j : Int) + 1) % (1 + r) ∧ ((j : Int) + 1) % (1 + r) < 1 + r := ⟨Int.emod_nonneg _ (by omega), Int.emod_lt_of_pos _ (by omega)⟩
      refine hK2 _ _ ⟨b7, hb7, rfl, as ++ [⟨(j : Int), ⟨#[c]⟩, ((j : Int) + 1) % (1 + r)⟩], by rw [ea, List.map_append]; rfl, by rw [List.length_append, el]; rfl, fun a h => ?_, ?_⟩
      · rcases List.mem_append.mp h with h | h
        · exact ⟨(ha a h).1, by have := (ha a h).2; omega⟩
        · rw [List.mem_singleton.mp h]
          exact ⟨⟨by show (0 : Int) ≤ j; omega, by show (j : Int) ≤ 2; omega, ⟨c, rfl, hcs.let_ _ hc⟩, hmod.1, by show ((j : Int) + 1) % (1 + r) ≤ 2; omega⟩, by show (j : Int) < _; omega⟩
      · rw [List.pairwise_append]
        refine ⟨hup, List.pairwise_singleton _ _, fun a h b hb => ?_⟩
        rw [List.mem_singleton.mp hb]
        exact .inl (ha a h).2
    · subst ea eM2
      rw [rng_length] at el ha
      walk_at "w"
      refine ⟨?_, ?_⟩
      · walk_at "w"
        rw [mupd_same]
        trivial
      walk_at "w"
      rw [mupd_same]
      refine ⟨by rw [List.length_map, sizeLine_eq]; omega, ?_⟩
      refine hK _ _ ⟨_, _, _, _, b6, ws ++ [⟨nm, as, m - 1, 0⟩], rfl, hb6, by rw [mupd_mupd, List.map_append]; rfl, ?_, fun z hz => ?_⟩
      · rw [List.map_append, en, List.take_add_one, hnm, List.map_cons, List.map_nil]; rfl
      · rcases List.mem_append.mp hz with hz | hz
        · exact ew z hz
        · rw [List.mem_singleton.mp hz]
          exact ⟨hxn nm (List.mem_of_getElem? hnm), by show as.length ≤ 9; omega, fun a h => (ha a h).1, hup, by show 0 ≤ m - 1; omega, by show m - 1 ≤ 3; omega, Int.le_refl 0, (show (0 : Int) ≤ 3 by decide)⟩
  · subst ee eM
    rw [List.length_map, List.take_length] at en
    walk_at "w"
    rw [mupd_same]
    walk_at "w"
    rw [mdel_mupd (by rw [mupd_ne hpq]; exact hqa)]
    have hlen : ws.length = xs.length := by rw [← en, List.length_map]
    exact q ws b4 hb4 ⟨ew, by rw [en]; exact hxd, by omega⟩ (by omega)
def sp_law_delayed : SpD := fun ds M Q _ => ∃ p b, ∃ cs : List Nat, ∃ n : Nat, ds = [.ref p, .lst (cs.map sgn), .int (n : Int)] ∧ M p = some (.lst (Bag.l b)) ∧ b.Ok ∧ SgOk cs ∧ 0 < cs.length ∧ n + 1 ≤ 61 ∧ ∀ ws b', Bag.Ok b' → CrewOk ws → 0 < ws.length → Q (.lst (ws.map wrD)) (mupd M p (.lst b'.l))
def t_law_delayed_1 (wd : World) : DS := (dRet (dVar 3))
def t_law_delayed_2 (wd : World) : DS := (dSeq (dSet 3 (dCall sp_law_taking_turns (dCons (dVar 0) (dCons (dVar 1) dNil))))
    (dSeq (dIfS (dTest (dBin rGtI (dUn (rLenDk wd) (dCall (sp_law_ways wd) (dCons (dVar 3) (dCons (dBin rAddD (dVar 2) (dC (.int 1))) dNil)))) (dVar 2))) (dSet 3 (dLc (iLst (dSl (dVar 3) dNoPart (dPart (dC (.int 2))))) (.name 4) dYes (dBin rAddD (dSl (dVar 4) dNoPart (dPart (dC (.int 2)))) (dTup (dCons (dC (.int 0)) (dCons (dC (.int 0)) dNil)))) [4])) dNext)
    (t_law_delayed_1 wd)))
def t_law_delayed (wd : World) : DS := (dSeq (dIfS (dTest (dBin (rEqDD id) (dCall sp_law_pull (dCons (dVar 0) (dCons (dC (.int 2)) dNil))) (dC (.int 0)))) (dRet (dCall sp_law_tight (dCons (dVar 0) (dCons (dVar 1) (dCons (dVar 2) dNil))))) dNext)
    (t_law_delayed_2 wd))
theorem r_law_delayed (wd : World) (ds : List D) (M : Mp) (Q : DK) (E : DX) (hl : ds.length = 3) (h : sp_law_delayed ds M Q E) : t_law_delayed wd { nx := fun _ M' => Q .non M', rt := Q } (startD ["_law_bag_here", "_law_letters_here", "_law_limit", "_law_m", "_law_writer_here"] ds) M := by
  obtain ⟨p, b, cs, n, rfl, hM, hb, hcs, hne, hn, q⟩ := h
  walk_at "w"
  refine ⟨p, b, 2, rfl, hM, hb, by decide, by decide, fun r b1 hb1 r0 r1 => ?_⟩
  walk_at "w"
  refine ⟨⟨rfl, rfl⟩, ?_⟩
  refine brn_by (fun _ => ?_) fun _ => ?_
  · walk_at "w"
    refine ⟨p, b1, cs, n, rfl, mupd_same, hb1, hcs, hne, hn, fun ws b2 hb2 hok h0 => ?_⟩
    rw [mupd_mupd]
    exact q ws b2 hb2 hok h0
  · walk_at "w"
    refine ⟨p, b1, cs, rfl, mupd_same, hb1, hcs, hne, fun ws b2 hb2 hok h0 => ?_⟩
    rw [mupd_mupd]
    have hf := hok.few
    walk_at "w"
    refine ⟨ws, n + 1, rfl, hok, hn, ?_⟩
    walk_at "w"
    refine ⟨rfl, ?_⟩
    refine brn_by (fun _ => ?_) fun _ => ?_
    · walk_at "w"
      refine lc_map cutW (fun d hd K1 K2 h1 => ?_) ?_
      · have hd' := cut_mem hd
        obtain ⟨w, _, rfl⟩ := List.mem_map.mp hd'
        walk_at "w"
        exact ⟨by show 2 + 2 ≤ _; decide, h1⟩
      rw [cut_calm]
      exact q _ b2 hb2 (calm_ok hok) (calm_len h0)
    · exact q _ b2 hb2 hok h0
end L3
set_option Elab.async false
set_option linter.all false
set_option maxRecDepth 100000
set_option maxHeartbeats 1000000
set_option Elab.async false
set_option linter.all false
set_option maxRecDepth 100000
set_option maxHeartbeats 1000000
namespace L3
open PySem PySem.Spec PyProof.Rows L2 NS
local macro_rules | `(tactic| walk_at "w") => `(tactic| conv => whnf)
theorem twS_good {ws : List Wr} (hok : CrewOk ws) {ks : List Kind} {s t : St} (gs : Good ws s) (gt : Good ws t) {x : Tw} (h : x ∈ twS ws ks s t) : Good ws x.2.2.2.1 ∧ Good ws x.2.2.2.2 := by
  unfold twS at h
  obtain ⟨p, hp, h⟩ := List.mem_flatMap.mp h
  obtain ⟨q, hq, h⟩ := List.mem_filterMap.mp h
  unfold twAt at h
  split at h
  · cases h
    exact ⟨steps_good hok gs p hp, steps_good hok gt q hq⟩
  · cases h
theorem twLs_le (ts : List Tw) : D.les 59 (ts.map twL) = true := les_of fun d hd => by
  obtain ⟨t, _, rfl⟩ := List.mem_map.mp hd
  show D.le 59 (.tup [_, _, .tup [stD _, stD _], _]) = true
  have h3 := fun s => le_mono (show 3 ≤ 57 by omega) (st_le s)
  simp [D.le, D.les, h3]
structure Tr (M : Mp) (p a b c : Addr) (bg : Bag) (x y z : List D) (M' : Mp) : Prop where
  bag : M' p = some (.lst (Bag.l bg))
  fa : M' a = some (.lst x)
  fb : M' b = some (.lst y)
  fc : M' c = some (.lst z)
  out : ∀ u, u ≠ p → u ≠ a → u ≠ b → u ≠ c → M' u = M u
structure Ap4 (p a b c : Addr) : Prop where
  pa : p ≠ a
  pb : p ≠ b
  pc : p ≠ c
  ab : a ≠ b
  ac : a ≠ c
  bc : b ≠ c
section
variable {M M' : Mp} {p a b c : Addr} {bg : Bag} {x y z : List D}
theorem Tr.putP (h : Tr M p a b c bg x y z M') (d : Ap4 p a b c) (bg' : Bag) : Tr M p a b c bg' x y z (mupd M' p (.lst (Bag.l bg'))) :=
  ⟨mupd_same, by rw [mupd_ne d.pa.symm]; exact h.fa, by rw [mupd_ne d.pb.symm]; exact h.fb, by rw [mupd_ne d.pc.symm]; exact h.fc, fun u h1 h2 h3 h4 => by rw [mupd_ne h1]; exact h.out u h1 h2 h3 h4⟩
theorem Tr.putA (h : Tr M p a b c bg x y z M') (d : Ap4 p a b c) (x' : List D) : Tr M p a b c bg x' y z (mupd M' a (.lst x')) :=
  ⟨by rw [mupd_ne d.pa]; exact h.bag, mupd_same, by rw [mupd_ne d.ab.symm]; exact h.fb, by rw [mupd_ne d.ac.symm]; exact h.fc, fun u h1 h2 h3 h4 => by rw [mupd_ne h2]; exact h.out u h1 h2 h3 h4⟩
theorem Tr.putB (h : Tr M p a b c bg x y z M') (d : Ap4 p a b c) (y' : List D) : Tr M p a b c bg x y' z (mupd M' b (.lst y')) :=
  ⟨by rw [mupd_ne d.pb]; exact h.bag, by rw [mupd_ne d.ab]; exact h.fa, mupd_same, by rw [mupd_ne d.bc.symm]; exact h.fc, fun u h1 h2 h3 h4 => by rw [mupd_ne h3]; exact h.out u h1 h2 h3 h4⟩
theorem Tr.putC (h : Tr M p a b c bg x y z M') (d : Ap4 p a b c) (z' : List D) : Tr M p a b c bg x y z' (mupd M' c (.lst z')) :=
  ⟨by rw [mupd_ne d.pc]; exact h.bag, by rw [mupd_ne d.ac]; exact h.fa, by rw [mupd_ne d.bc]; exact h.fb, mupd_same, fun u h1 h2 h3 h4 => by rw [mupd_ne h4]; exact h.out u h1 h2 h3 h4⟩
theorem Tr.done (h : Tr M p a b c bg x y z M') (d : Ap4 p a b c) (ha : M a = none) (hb : M b = none) (hc : M c = none) : mdel (mdel (mdel M' c) b) a = mupd M p (.lst (Bag.l bg)) := by
  funext u
  by_cases e1 : u = a
  · subst e1; rw [mdel_same, mupd_ne d.pa.symm, ha]
  rw [mdel_ne e1]
  by_cases e2 : u = b
  · subst e2; rw [mdel_same, mupd_ne d.pb.symm, hb]
  rw [mdel_ne e2]
  by_cases e3 : u = c
  · subst e3; rw [mdel_same, mupd_ne d.pc.symm, hc]
  rw [mdel_ne e3]
  by_cases e4 : u = p
  · subst e4; rw [mupd_same, h.bag]
  rw [mupd_ne e4, h.out u e4 e1 e2 e3]
end
def sp_law_twin_rows : SpD := fun ds M Q _ => ∃ p b, ∃ ws : List Wr, ∃ n : Int, ds = [.ref p, .lst (ws.map wrD), .int n] ∧ M p = some (.lst (Bag.l b)) ∧ b.Ok ∧ CrewOk ws ∧ 0 ≤ n ∧ n ≤ 100 ∧
  ∀ (strip one other : List Str) b', Bag.Ok b' → one.length = strip.length → other.length = strip.length → strip.length ≤ 101 → Q (.tup [.lst (strip.map D.str), .lst (one.map D.str), .lst (other.map D.str)]) (mupd M p (.lst b'.l))
def t_law_twin_rows_1 : DS := (dFrzN 7 (dFrzN 6 (dFrzN 5 (dRet (dTup (dCons (dVar 5) (dCons (dVar 6) (dCons (dVar 7) dNil))))))))
def t_law_twin_rows : DS := (dSeq (dAsg (dTup (dCons (dTup (dCons (dCall sp_law_begin (dCons (dVar 1) dNil)) (dCons (dCall sp_law_begin (dCons (dVar 1) dNil)) dNil))) (dCons (dLstM dNil) (dCons (dLstM dNil) (dCons (dLstM dNil) dNil))))) (.tup [(.name 4), (.name 5), (.name 6), (.name 7)]))
    (dSeq (dFor (iRange1 (dCons (dCall sp_law_pull (dCons (dVar 0) (dCons (dBin rAddD (dVar 2) (dC (.int 1))) dNil))) dNil)) (.name 3) (dSeq (dSet 8 (dCall sp_law_twin_steps (dCons (dVar 1) (dCons (dVar 4) (dCons (dLst dNil) dNil)))))
    (dIfS (dTest (dBin (rEqDD not) (dVar 8) (dLst dNil))) (dSeq (dAsg (dCall sp_law_of (dCons (dVar 0) (dCons (dVar 8) dNil))) (.tup [(.name 9), (.name 10), (.name 4), (.name 11)]))
    (dSeq (dDrop (dAppend (dVar 5) (dVar 11)))
    (dSeq (dDrop (dAppend (dVar 6) (dVar 9)))
    (dDrop (dAppend (dVar 7) (dVar 10)))))) dNext)))
    t_law_twin_rows_1))
theorem r_law_twin_rows (ds : List D) (M : Mp) (Q : DK) (E : DX) (hl : ds.length = 3) (h : sp_law_twin_rows ds M Q E) : t_law_twin_rows { nx := fun _ M' => Q .non M', rt := Q } (startD ["_law_bag_here", "_law_m", "_law_limit", "_law_k", "_law_pair", "_law_strip", "_law_first", "_law_second", "_law_some", "_law_one", "_law_other", "_law_sign"] ds) M := by
  obtain ⟨p, bg, ws, n, rfl, hM, hb, hok, n0, n1, q⟩ := h
  have hf := hok.few
  walk_at "w"
  refine ⟨ws, rfl, hf, ?_⟩
  walk_at "w"
  refine ⟨ws, rfl, hf, ?_⟩
  walk_at "w"
  intro a ha
  walk_at "w"
  intro b hb1
  walk_at "w"
  intro c hc1
  have hba : b ≠ a := fun e => by rw [e, mupd_same] at hb1; cases hb1
  have hb0 : M b = none := by rw [mupd_ne hba] at hb1; exact hb1
  have hcb : c ≠ b := fun e => by rw [e, mupd_same] at hc1; cases hc1
  have hca : c ≠ a := fun e => by rw [e, mupd_ne hba.symm, mupd_same] at hc1; cases hc1
  have hc0 : M c = none := by rw [mupd_ne hcb, mupd_ne hca] at hc1; exact hc1
  have npa : ∀ {u}, M u = none → p ≠ u := fun h e => by rw [← e, hM] at h; cases h
  have d : Ap4 p a b c := ⟨npa ha, npa hb0, npa hc0, hba.symm, hca.symm, hcb.symm⟩
  have tr0 : Tr M p a b c bg [] [] [] (mupd (mupd (mupd M a (.lst [])) b (.lst [])) c (.lst [])) :=
    ⟨by rw [mupd_ne d.pc, mupd_ne d.pb, mupd_ne d.pa]; exact hM, by rw [mupd_ne d.ac, mupd_ne d.ab, mupd_same], by rw [mupd_ne d.bc, mupd_same], mupd_same, fun u h1 h2 h3 h4 => by rw [mupd_ne h4, mupd_ne h3, mupd_ne h2]⟩
  generalize mupd (mupd (mupd M a (.lst [])) b (.lst [])) c (.lst []) = M0 at tr0 ⊢
  walk_at "w"
  refine ⟨p, bg, n + 1, rfl, tr0.bag, hb, by omega, by omega, fun r b2 hb2 r0 r1 => ?_⟩
  have tr1 := tr0.putP d b2
  generalize mupd M0 p (.lst (Bag.l b2)) = M1 at tr1 ⊢
  walk_at "w"
  refine ⟨⟨by omega, by omega⟩, ?_⟩
  refine for_inv (fun i env M' => ∃ e3 s t e8 e9 e10 e11 b', ∃ strip one other : List Str, env = [some (.ref p), some (.lst (ws.map wrD)), some (.int n), e3, some (.tup [stD s, stD t]), some (.ref a), some (.ref b), some (.ref c), e8, e9, e10, e11] ∧ Good ws s ∧ Good ws t ∧ Bag.Ok b' ∧ one.length = strip.length ∧ other.length = strip.length ∧ strip.length ≤ i ∧ Tr M p a b c b' (strip.map D.str) (one.map D.str) (other.map D.str) M')
    ⟨_, _, _, _, _, _, _, b2, [], [], [], rfl, good0 ws, good0 ws, hb2, rfl, rfl, Nat.le_refl _, tr1⟩ (fun i x env M' K hx ⟨e3, s, t, e8, e9, e10, e11, b', strip, one, other, ee, gs, gt, hb', l1, l2, l3, tr⟩ hK => ?_) fun env M' ⟨e3, s, t, e8, e9, e10, e11, b', strip, one, other, ee, gs, gt, hb', l1, l2, l3, tr⟩ => ?_
  · subst ee
    obtain ⟨hi, rfl⟩ := rng_at hx
    walk_at "w"
    refine ⟨ws, s, t, .lst [], [], rfl, .inl rfl, by decide, hok, gs, gt, ?_⟩
    have good := fun x (h : x ∈ twS ws [] s t) => twS_good hok gs gt h
    have tlen := twS_len hok [] s t
    generalize twS ws [] s t = ts at good tlen ⊢
    walk_at "w"
    refine ⟨⟨twLs_le ts, rfl⟩, ?_⟩
    rw [show eqD (resD M' (.lst (ts.map twL))) (resD M' (.lst [])) = (ts.map twL).isEmpty from eqD_nil]
    cases ts with
    | nil => exact hK _ _ ⟨_, _, _, _, _, _, _, b', strip, one, other, rfl, gs, gt, hb', l1, l2, by omega, tr⟩
    | cons t0 ts =>
      walk_at "w"
      refine ⟨p, b', .lst ((t0 :: ts).map twL), (t0 :: ts).map twL, rfl, tr.bag, hb', by rw [List.length_map]; exact Nat.succ_pos _, by rw [List.length_map]; omega, .inl ⟨rfl, fun e => by cases e⟩, fun y b3 hb3 hy => ?_⟩
      obtain ⟨tw, htw, rfl⟩ := List.mem_map.mp hy
      obtain ⟨g1, g2⟩ := good tw htw
      have tr2 := tr.putP d b3
      generalize mupd M' p (.lst (Bag.l b3)) = M2 at tr2 ⊢
      unfold twL
      walk_at "w"
      refine ⟨?_, ?_⟩
      · walk_at "w"
        rw [tr2.fa]
        trivial
      walk_at "w"
      rw [tr2.fa]
      refine ⟨by rw [List.length_map, sizeLine_eq]; omega, ?_⟩
      have tr3 := tr2.putA d (strip.map D.str ++ [.str tw.1])
      generalize mupd M2 a (.lst (strip.map D.str ++ [.str tw.1])) = M3 at tr3 ⊢
      walk_at "w"
      refine ⟨?_, ?_⟩
      · walk_at "w"
        rw [tr3.fb]
        trivial
      walk_at "w"
      rw [tr3.fb]
      refine ⟨by rw [List.length_map, sizeLine_eq]; omega, ?_⟩
      have tr4 := tr3.putB d (one.map D.str ++ [.str tw.2.1])
      generalize mupd M3 b (.lst (one.map D.str ++ [.str tw.2.1])) = M4 at tr4 ⊢
      walk_at "w"
      refine ⟨?_, ?_⟩
      · walk_at "w"
        rw [tr4.fc]
        trivial
      walk_at "w"
      rw [tr4.fc]
      refine ⟨by rw [List.length_map, sizeLine_eq]; omega, ?_⟩
      have tr5 := tr4.putC d (other.map D.str ++ [.str tw.2.2.1])
      refine hK _ _ ⟨_, tw.2.2.2.1, tw.2.2.2.2, _, _, _, _, b3, strip ++ [tw.1], one ++ [tw.2.1], other ++ [tw.2.2.1], rfl, g1, g2, hb3, by rw [List.length_append, List.length_append, l1]; rfl, by rw [List.length_append, List.length_append, l2]; rfl, by rw [List.length_append]; show _ + 1 ≤ _; omega, ?_⟩
      rw [List.map_append, List.map_append, List.map_append]
      exact tr5
  · subst ee
    rw [rng_length] at l3
    walk_at "w"
    rw [tr.fc]
    walk_at "w"
    rw [mdel_ne d.bc, tr.fb]
    walk_at "w"
    rw [mdel_ne d.ab, mdel_ne d.ac, tr.fa]
    walk_at "w"
    rw [tr.done d ha hb0 hc0]
    exact q strip one other b' hb' l1 l2 (by omega)
theorem strs_all (xs : List Str) : PyData.eqvAll (D.pys (xs.map D.str)) (D.pys (xs.map D.str)) = true := by
  induction xs with
  | nil => rfl
  | cons x xs ih => simp [D.pys, D.py, PyData.eqvAll, PyData.eqv, ih]
theorem three_self (xs ys zs : List Str) : eqD (.lst [.lst (xs.map D.str), .lst (ys.map D.str), .lst (zs.map D.str)]) (.lst [.lst (xs.map D.str), .lst (ys.map D.str), .lst (zs.map D.str)]) = true := by
  unfold eqD
  simp [D.pys, D.py, PyData.eqvAll, PyData.eqv, strs_all]
theorem three_le (xs ys zs : List Str) : D.le 60 (.lst [.lst (xs.map D.str), .lst (ys.map D.str), .lst (zs.map D.str)]) = true := by
  have h : ∀ xs : List Str, D.les 58 (xs.map D.str) = true := fun xs => les_of fun d hd => by obtain ⟨x, _, rfl⟩ := List.mem_map.mp hd; rfl
  simp [D.le, D.les, h]
theorem onD_of {w : Str} {y : D} (h : y ∈ [D.non, D.non, D.str w, D.str "nobody"]) : ∃ o, y = onD o := by
  simp only [List.mem_cons, List.not_mem_nil, or_false] at h
  rcases h with rfl | rfl | rfl | rfl
  · exact ⟨none, rfl⟩
  · exact ⟨none, rfl⟩
  · exact ⟨some _, rfl⟩
  · exact ⟨some _, rfl⟩
def t_law_1 : DS := (dSeq (dSet 7 (dCall sp_law_doubt_ok (dCons (dVar 4) (dCons (dVar 11) (dCons (dVar 12) (dCons (dVar 13) (dCons (dVar 6) (dCons (dVar 10) (dCons (dVar 9) dNil)))))))))
    (dSeq (dPar 16 17 (dCons (dFrz (dMake CCompany sp_Company___init__ [] (dCons (dVar 4) dNil))) (dCons (dLst (dCons (dUn rListD (dVar 11)) (dCons (dUn rListD (dVar 12)) (dCons (dUn rListD (dVar 13)) dNil)))) dNil)))
    (dSeq (dSet 8 (dLstM (dCons (dCallG sp_is_doubt (fun (ds es : List D) => ds ++ es) (dCons (dVar 16) (dCons (dBin rIxD (dVar 17) (dC (.int 0))) (dCons (dBin rIxD (dVar 17) (dC (.int 1))) (dCons (dBin rIxD (dVar 17) (dC (.int 2))) (dCons (dVar 6) dNil))))) (dCons (dVar 10) (dCons (dVar 9) dNil))) dNil)))
    (dSeq (dDrop (dAppend (dVar 8) (dCallG sp_is_doubt (fun (ds es : List D) => ds ++ es.reverse) (dCons (dVar 16) (dCons (dUn rTupleD (dVar 11)) (dCons (dUn rTupleD (dVar 12)) (dCons (dUn rTupleD (dVar 13)) (dCons (dVar 6) dNil))))) (dCons (dUn rTupleD (dVar 9)) (dCons (dVar 10) dNil)))))
    (dFrzN 8 (dIfS (dOr (dNot (dTru (dCall (sp_law_like 8) (dCons (dVar 8) (dCons (dLst (dCons (dVar 7) (dCons (dVar 7) dNil))) dNil))))) (dTest (dBin (rEqDD not) (dVar 17) (dLst (dCons (dVar 11) (dCons (dVar 12) (dCons (dVar 13) dNil))))))) (dRet (dC (.bl false))) dNext))))))
def t_law_2 : DS := (dSeq (dIfS (dTest (dBin (rEqDD id) (dVar 14) (dC (.int 1)))) (dSet 12 (dBin rAddD (dBin rAddD (dSl (dVar 12) dNoPart (dPart (dVar 15))) (dLst (dCons (dCall sp_law_of (dCons (dVar 1) (dCons (dLc (iLst (dVar 4)) (.name 18) dYes (dBin rIxD (dVar 18) (dC (.int 0))) [18]) dNil))) dNil))) (dSl (dVar 12) (dPart (dBin rAddD (dVar 15) (dC (.int 1)))) dNoPart))) dNext)
    t_law_1)
def t_law_3 : DS := (dRet (dC (.bl true)))
def t_law : DS := (dSeq (dSet 1 (dCall sp_law_bag (dCons (dVar 0) dNil)))
    (dSeq (dFor (iRange1 (dCons (dC (.int 4)) dNil)) (.name 2) (dSeq (dSet 3 (dCall sp_law_signs (dCons (dVar 1) (dCons (dC (.int 2)) dNil))))
    (dSeq (dSet 4 (dCall sp_law_delayed (dCons (dVar 1) (dCons (dVar 3) (dCons (dC (.int 30)) dNil)))))
    (dSeq (dPar 9 10 (dCons (dCall sp_law_kinds (dCons (dVar 1) (dCons (dVar 4) (dCons (dVar 3) dNil)))) (dCons (dCall sp_law_of (dCons (dVar 1) (dCons (dLst (dCons (dC .non) (dCons (dC .non) (dCons (dBin rIxD (dBin rIxD (dVar 4) (dC (.int 0))) (dC (.int 0))) (dCons (dC (.str "nobody")) dNil))))) dNil))) dNil)))
    (dSeq (dAsg (dCall sp_law_twin_rows (dCons (dVar 1) (dCons (dVar 4) (dCons (dC (.int 8)) dNil)))) (.tup [(.name 11), (.name 12), (.name 13)]))
    (dSeq (dSet 5 (dLc (iRange1 (dCons (dUn rLenD (dVar 11)) dNil)) (.name 15) (dTest (dBin (rEqDD not) (dBin rIxD (dVar 12) (dVar 15)) (dBin rIxD (dVar 13) (dVar 15)))) (dBin rSubI (dBin rSubI (dUn rLenD (dVar 11)) (dC (.int 1))) (dVar 15)) [15]))
    (dSeq (dSet 6 (dBin rAddD (dCall sp_law_of (dCons (dVar 1) (dCons (dBin rAddD (dVar 5) (dLst (dCons (dC (.int 0)) (dCons (dC (.int 1)) dNil)))) dNil))) (dCall sp_law_of (dCons (dVar 1) (dCons (dLst (dCons (dC (.int 0)) (dCons (dC (.int 0)) (dCons (dC (.int 0)) (dCons (dC (.int 1)) (dCons (dUn rNegI (dC (.int 1))) dNil)))))) dNil)))))
    (dSeq (dPar 14 15 (dCons (dCall sp_law_pull (dCons (dVar 1) (dCons (dC (.int 6)) dNil))) (dCons (dCall sp_law_pull (dCons (dVar 1) (dCons (dBin rAddD (dUn rLenD (dVar 11)) (dC (.int 1))) dNil))) dNil)))
    (dSeq (dIfS (dTest (dBin (rEqDD id) (dVar 14) (dC (.int 0)))) (dSet 13 (dBin rAddD (dSl (dVar 13) dNoPart (dPart (dVar 15))) (dSl (dVar 13) (dPart (dBin rAddD (dVar 15) (dC (.int 1)))) dNoPart))) dNext)
    t_law_2)))))))))
    t_law_3))
abbrev Fin32 (p : Addr) (K : DEnv → Mp → Prop) (Mx : Mp) : Prop := ∀ M' env', Grown Mx M' → env'.length = 19 → env'[1]? = some (some (.ref p)) → K env' M'
theorem r_law_1 {p : Addr} {ws : List Wr} {ks : List Kind} {strip one other : List Str} {many : Int} {o : Option Str} (hok : CrewOk ws) (hkl : ks.length ≤ 100) (hs : strip.length ≤ 1000) (e0 e2 e3 e5 e7 e8 e14 e15 e16 e17 e18 : Option D) (M : Mp) (E : DEnds)
    (hK : Fin32 p E.nx M) : t_law_1 E [e0, some (.ref p), e2, e3, some (.lst (ws.map wrD)), e5, some (.int many), e7, e8, some (.lst (ks.map kdD)), some (onD o), some (.lst (strip.map D.str)), some (.lst (one.map D.str)), some (.lst (other.map D.str)), e14, e15, e16, e17, e18] M := by
  walk_at "w"
  refine ⟨ws, strip, one, other, many, o, ks, rfl, hkl, hok, hs, fun M1 g1 => ?_⟩
  walk_at "w"
  intro qa hqa
  refine ⟨qa, .lst (ws.map wrD), ws, rfl, .inl rfl, hok, mupd_same, rfl, ?_⟩
  rw [mupd_mupd]
  walk_at "w"
  rw [mupd_same]
  walk_at "w"
  rw [mdel_mupd hqa]
  walk_at "w"
  refine ⟨ws, strip, one, other, _, _, _, _, many, o, ks, rfl, .inl ⟨rfl, rfl, rfl⟩, .inl rfl, hkl, hok, hs, fun M2 g2 => ?_⟩
  walk_at "w"
  intro pf hpf
  walk_at "w"
  refine ⟨?_, ?_⟩
  · walk_at "w"
    rw [mupd_same]
    trivial
  walk_at "w"
  refine ⟨ws, strip, one, other, _, _, _, _, many, o, ks, rfl, .inr ⟨rfl, rfl, rfl⟩, .inr rfl, hkl, hok, hs, fun M3 g3 => ?_⟩
  have f3 : M3 pf = some (.lst [.bl (dbB ws ks strip one other many o)]) := g3 _ _ mupd_same
  walk_at "w"
  rw [f3]
  refine ⟨by show 1 < sizeLine; rw [sizeLine_eq]; decide, ?_⟩
  walk_at "w"
  rw [mupd_same]
  walk_at "w"
  have l1 : D.le 7 (.lst [.bl (dbB ws ks strip one other many o), .bl (dbB ws ks strip one other many o)]) = true := rfl
  refine ⟨_, _, rfl, l1, l1, by decide, ?_⟩
  rw [show sameD (.lst ([.bl (dbB ws ks strip one other many o)] ++ [.bl (dbB ws ks strip one other many o)])) (.lst [.bl (dbB ws ks strip one other many o), .bl (dbB ws ks strip one other many o)]) = true from same_self l1]
  walk_at "w"
  refine ⟨⟨three_le _ _ _, three_le _ _ _⟩, ?_⟩
  rw [show eqD (resD (mdel (mupd M3 pf (.lst ([.bl (dbB ws ks strip one other many o)] ++ [.bl (dbB ws ks strip one other many o)]))) pf) (.lst [.lst (strip.map D.str), .lst (one.map D.str), .lst (other.map D.str)])) (resD (mdel (mupd M3 pf (.lst ([.bl (dbB ws ks strip one other many o)] ++ [.bl (dbB ws ks strip one other many o)]))) pf) (.lst [.lst (strip.map D.str), .lst (one.map D.str), .lst (other.map D.str)])) = true from three_self _ _ _]
  refine hK _ _ (fun u v h => ?_) rfl rfl
  have h2 := g2 _ _ (g1 _ _ h)
  have hne : u ≠ pf := fun e => by rw [e, hpf] at h2; cases h2
  rw [mdel_ne hne, mupd_ne hne]
  refine g3 _ _ ?_
  rw [mupd_ne hne]; exact h2
theorem r_law_2 {p : Addr} {bg : Bag} {ws : List Wr} {ks : List Kind} {strip one other : List Str} {many : Int} {o : Option Str} (hok : CrewOk ws) (h0 : 0 < ws.length) (hkl : ks.length ≤ 100) (hs : strip.length ≤ 1000) (hone : one.length ≤ 1000) (at_ : Int) (pick : Int) (e0 e2 e3 e5 e7 e8 e16 e17 e18 : Option D) (M : Mp) (hM : M p = some (.lst (Bag.l bg))) (hb : bg.Ok) (E : DEnds)
    (hK : ∀ b', Bag.Ok b' → Fin32 p E.nx (mupd M p (.lst (Bag.l b')))) : t_law_2 E [e0, some (.ref p), e2, e3, some (.lst (ws.map wrD)), e5, some (.int many), e7, e8, some (.lst (ks.map kdD)), some (onD o), some (.lst (strip.map D.str)), some (.lst (one.map D.str)), some (.lst (other.map D.str)), some (.int pick), some (.int at_), e16, e17, e18] M := by
  have hf := hok.few
  walk_at "w"
  refine ⟨⟨rfl, rfl⟩, ?_⟩
  refine brn_by (fun _ => ?_) fun _ => ?_
  · walk_at "w"
    refine lc_map (fun d => match d with
      | .tup (a :: _) => a
      | _ => .non) (fun d hd K1 K2 h1 => ?_) ?_
    · obtain ⟨w, _, rfl⟩ := List.mem_map.mp hd
      walk_at "w"
      exact h1
    rw [show (ws.map wrD).map (fun d => match d with
      | .tup (a :: _) => a
      | _ => .non) = (ws.map (·.name)).map D.str by rw [List.map_map, List.map_map]; rfl]
    walk_at "w"
    refine ⟨p, bg, .lst ((ws.map (·.name)).map D.str), (ws.map (·.name)).map D.str, rfl, hM, hb, by rw [List.length_map, List.length_map]; exact h0, by rw [List.length_map, List.length_map]; omega, .inl ⟨rfl, fun e => by cases e⟩, fun y b1 hb1 hy => ?_⟩
    obtain ⟨nm, _, rfl⟩ := List.mem_map.mp hy
    walk_at "w"
    rw [cut_map]
    have c1 := cut_le one none (some at_)
    have c2 := cut_le one (some (at_ + 1)) none
    refine ⟨by rw [List.length_map, sizeLine_eq]; show _ + 1 ≤ _; omega, ?_⟩
    walk_at "w"
    rw [cut_map]
    refine ⟨by rw [List.length_append, List.length_map, List.length_map, sizeLine_eq]; show _ + 1 + _ ≤ _; omega, ?_⟩
    rw [show (cut one none (some at_)).map D.str ++ [D.str nm] ++ (cut one (some (at_ + 1)) none).map D.str = (cut one none (some at_) ++ [nm] ++ cut one (some (at_ + 1)) none).map D.str by rw [List.map_append, List.map_append]; rfl]
    exact r_law_1 hok hkl hs _ _ _ _ _ _ _ _ _ _ _ _ _ (hK b1 hb1)
  · refine r_law_1 hok hkl hs _ _ _ _ _ _ _ _ _ _ _ _ _ ?_
    have := hK bg hb
    rwa [show mupd M p (.lst (Bag.l bg)) = M from mupd_id hM] at this
theorem r_law (ds : List D) (M : Mp) (Q : DK) (E : DX) (hl : ds.length = 1) (h : sp_law ds M Q E) : t_law { nx := fun _ M' => Q .non M', rt := Q } (startD ["_law_script", "_law_bag_here", "_law_turn", "_law_letters_here", "_law_m", "_law_apart", "_law_many", "_law_due", "_law_found", "_law_kinds_here", "_law_own", "_law_strip", "_law_one", "_law_other", "_law_pick", "_law_at", "_law_company_here", "_law_handed", "_law_writer_here"] ds) M := by
  obtain ⟨ns, rfl, q⟩ := h
  walk_at "w"
  refine ⟨ns, rfl, fun p b hp hb => ?_⟩
  walk_at "w"
  refine ⟨⟨by decide, by decide⟩, ?_⟩
  walk_at "w"
  refine for_inv (fun i env M' => env.length = 19 ∧ env[1]? = some (some (.ref p)) ∧ ∃ b', Bag.Ok b' ∧ M' p = some (.lst b'.l)) ⟨rfl, rfl, b, hb, mupd_same⟩ (fun i x env M' K hx ⟨h1, h2, b', hb', hM⟩ hK => ?_) fun env M' ⟨h1, h2, b', hb', e⟩ => q _
  match env, h1, h2 with
  | [e0, e1, e2, e3, e4, e5, e6, e7, e8, e9, e10, e11, e12, e13, e14, e15, e16, e17, e18], _, h2 =>
    have h2' : e1 = some (.ref p) := Option.some.inj h2
    subst h2'
    walk_at "w"
    refine ⟨p, b', 2, rfl, hM, hb', by decide, by decide, fun cs b1 hb1 hcs hc0 hcl => ?_⟩
    walk_at "w"
    refine ⟨p, b1, cs, 30, rfl, mupd_same, hb1, hcs, hc0, by decide, fun ws b2 hb2 hok h0 => ?_⟩
    rw [mupd_mupd]
    have hf := hok.few
    have hcf := hcs.few
    walk_at "w"
    refine ⟨p, b2, ws, cs, rfl, mupd_same, hb2, hf, hcf, fun ks b3 hb3 hkl => ?_⟩
    rw [mupd_mupd]
    obtain ⟨w0, hw0⟩ : ∃ w, ws[0]? = some w := ⟨_, List.getElem?_eq_getElem h0⟩
    walk_at "w"
    rw [show atI (ws.map wrD) 0 = some (wrD w0) from atI_map (i := 0) hw0]
    walk_at "w"
    refine ⟨p, b3, .lst [.non, .non, .str w0.name, .str "nobody"], [.non, .non, .str w0.name, .str "nobody"], rfl, mupd_same, hb3, (by show 0 < 4; decide), (by show 4 < 1000000; decide), .inl ⟨rfl, fun e => by cases e⟩, fun y b4 hb4 hy => ?_⟩
    obtain ⟨o, rfl⟩ := onD_of hy
    rw [mupd_mupd]
    walk_at "w"
    refine ⟨p, b4, ws, 8, rfl, mupd_same, hb4, hok, by decide, by decide, fun strip one other b5 hb5 l1 l2 l3 => ?_⟩
    rw [mupd_mupd]
    walk_at "w"
    rw [List.length_map]
    refine ⟨⟨by omega, by omega⟩, ?_⟩
    refine lc_inv (fun i acc M2 => M2 = mupd M' p (.lst b5.l) ∧ ∃ zs : List Int, acc = zs.map D.int ∧ zs.length ≤ i) ⟨rfl, [], rfl, Nat.le_refl _⟩ (fun i x acc M2 K2 hx ⟨eM, zs, ea, hz⟩ hK2 => ?_) fun acc M2 ⟨eM, zs, ea, hz⟩ => ?_
    · subst eM ea
      obtain ⟨hi, rfl⟩ := rng_at hx
      rw [Int.zero_add]
      walk_at "w"
      rw [atI_str (k := (i : Int)) (by omega) (by omega)]
      walk_at "w"
      rw [atI_str (k := (i : Int)) (by omega) (by omega)]
      walk_at "w"
      refine ⟨⟨rfl, rfl⟩, ?_⟩
      refine brn_by (fun _ => ?_) fun _ => ?_
      · walk_at "w"
        exact hK2 _ _ ⟨rfl, zs ++ [((strip.map D.str).length : Int) - 1 - (i : Int)], by rw [List.map_append]; rfl, by rw [List.length_append]; show _ + 1 ≤ _; omega⟩
      · exact hK2 _ _ ⟨rfl, zs, rfl, by omega⟩
    · subst eM ea
      rw [rng_length, Int.toNat_natCast] at hz
      walk_at "w"
      refine ⟨by rw [List.length_map, sizeLine_eq]; show _ + 2 ≤ _; omega, ?_⟩
      refine ⟨p, b5, .lst (zs.map D.int ++ [.int 0, .int 1]), zs.map D.int ++ [.int 0, .int 1], rfl, mupd_same, hb5, by rw [List.length_append]; show 0 < _ + 2; omega, by rw [List.length_append, List.length_map]; show _ + 2 < _; omega, .inl ⟨rfl, fun e => by cases e⟩, fun y b6 hb6 hy => ?_⟩
      obtain ⟨m1, rfl⟩ : ∃ m : Int, y = .int m := by
        rcases List.mem_append.mp hy with hy | hy
        · obtain ⟨z, _, rfl⟩ := List.mem_map.mp hy
          exact ⟨z, rfl⟩
        · simp only [List.mem_cons, List.not_mem_nil, or_false] at hy
          rcases hy with rfl | rfl <;> exact ⟨_, rfl⟩
      rw [mupd_mupd]
      walk_at "w"
      refine ⟨p, b6, .lst [.int 0, .int 0, .int 0, .int 1, .int (-1)], [.int 0, .int 0, .int 0, .int 1, .int (-1)], rfl, mupd_same, hb6, by decide, by decide, .inl ⟨rfl, fun e => by cases e⟩, fun y b7 hb7 hy => ?_⟩
      obtain ⟨m2, rfl⟩ : ∃ m : Int, y = .int m := by
        simp only [List.mem_cons, List.not_mem_nil, or_false] at hy
        rcases hy with rfl | rfl | rfl | rfl | rfl <;> exact ⟨_, rfl⟩
      rw [mupd_mupd]
      walk_at "w"
      refine ⟨p, b7, 6, rfl, mupd_same, hb7, by decide, by decide, fun pick b8 hb8 k0 k1 => ?_⟩
      rw [mupd_mupd]
      walk_at "w"
      refine ⟨p, b8, ((strip.map D.str).length : Int) + 1, rfl, mupd_same, hb8, by omega, by rw [List.length_map]; omega, fun at_ b9 hb9 a0 a1 => ?_⟩
      rw [mupd_mupd]
      have fin : ∀ b', Bag.Ok b' → Fin32 p K (mupd (mupd M' p (.lst b9.l)) p (.lst (Bag.l b'))) := fun b' hb' M2 env' g h1 h2 => hK _ _ ⟨h1, h2, b', hb', g _ _ mupd_same⟩
      walk_at "w"
      refine ⟨⟨rfl, rfl⟩, ?_⟩
      refine brn_by (fun _ => ?_) fun _ => ?_
      · walk_at "w"
        rw [cut_map, cut_map]
        have c1 := cut_le other none (some at_)
        have c2 := cut_le other (some (at_ + 1)) none
        refine ⟨by rw [List.length_map, List.length_map, sizeLine_eq]; omega, ?_⟩
        rw [← List.map_append]
        exact r_law_2 hok h0 hkl (by omega) (by omega) at_ pick _ _ _ _ _ _ _ _ _ _ mupd_same hb9 _ fin
      · exact r_law_2 hok h0 hkl (by omega) (by omega) at_ pick _ _ _ _ _ _ _ _ _ _ mupd_same hb9 _ fin
end L3
set_option Elab.async false
set_option linter.all false
set_option maxRecDepth 100000
set_option maxHeartbeats 0
namespace L3
open PySem PySem.Spec PyProof.Rows L2
abbrev N_law_bag : List Str := ["_law_script", "_law_salt", "_law_cell"]
theorem sc_law_bag : FnScope N_law_bag ["_law_script"] (defScope s_law_bag) := ⟨rfl, rfl, rfl, by decide +kernel, rfl, by decide +kernel, by decide +kernel⟩
abbrev N_law_pull : List Str := ["_law_bag_here", "_law_many", "_law_seed", "_law_cell", "_law_got"]
theorem sc_law_pull : FnScope N_law_pull ["_law_bag_here", "_law_many"] (defScope s_law_pull) := ⟨rfl, rfl, rfl, by decide +kernel, rfl, by decide +kernel, by decide +kernel⟩
abbrev N_law_of : List Str := ["_law_bag_here", "_law_things"]
theorem sc_law_of : FnScope N_law_of ["_law_bag_here", "_law_things"] (defScope s_law_of) := ⟨rfl, rfl, rfl, by decide +kernel, rfl, by decide +kernel, by decide +kernel⟩
abbrev N_law_letters : List Str := []
theorem sc_law_letters : FnScope N_law_letters [] (defScope s_law_letters) := ⟨rfl, rfl, rfl, by decide +kernel, rfl, by decide +kernel, by decide +kernel⟩
abbrev N_law_signs : List Str := ["_law_bag_here", "_law_limit", "_law_start", "_law_step", "_law_many", "_law_letters_here", "_law_k"]
theorem sc_law_signs : FnScope N_law_signs ["_law_bag_here", "_law_limit"] (defScope s_law_signs) := ⟨rfl, rfl, rfl, by decide +kernel, rfl, by decide +kernel, by decide +kernel⟩
abbrev N_law_names : List Str := ["_law_bag_here", "_law_many", "_law_step", "_law_k", "_law_size", "_law_letters_here", "_law_at", "_law_start", "_law_base", "_law_found", "_law_sign", "_law_name"]
theorem sc_law_names : FnScope N_law_names ["_law_bag_here", "_law_many"] (defScope s_law_names) := ⟨rfl, rfl, rfl, by decide +kernel, rfl, by decide +kernel, by decide +kernel⟩
abbrev N_law_writer : List Str := ["_law_bag_here", "_law_name", "_law_places", "_law_signs_here", "_law_thick", "_law_lines", "_law_place", "_law_counts", "_law_sign"]
theorem sc_law_writer : FnScope N_law_writer ["_law_bag_here", "_law_name", "_law_places", "_law_signs_here", "_law_thick"] (defScope s_law_writer) := ⟨rfl, rfl, rfl, by decide +kernel, rfl, by decide +kernel, by decide +kernel⟩
abbrev N_law_company : List Str := ["_law_bag_here", "_law_limit", "_law_signs_here", "_law_name", "_law_thick", "_law_found"]
theorem sc_law_company : FnScope N_law_company ["_law_bag_here", "_law_limit", "_law_signs_here"] (defScope s_law_company) := ⟨rfl, rfl, rfl, by decide +kernel, rfl, by decide +kernel, by decide +kernel⟩
abbrev N_law_filled : List Str := ["_law_writer_here", "_law_letters_here", "_law_lines", "_law_place", "_law_at", "_law_sign", "_law_to"]
theorem sc_law_filled : FnScope N_law_filled ["_law_writer_here", "_law_letters_here"] (defScope s_law_filled) := ⟨rfl, rfl, rfl, by decide +kernel, rfl, by decide +kernel, by decide +kernel⟩
abbrev N_law_begin : List Str := ["_law_m"]
theorem sc_law_begin : FnScope N_law_begin ["_law_m"] (defScope s_law_begin) := ⟨rfl, rfl, rfl, by decide +kernel, rfl, by decide +kernel, by decide +kernel⟩
abbrev N_law_arrows : List Str := ["_law_writer_here", "_law_place", "_law_at", "_law_sign", "_law_to"]
theorem sc_law_arrows : FnScope N_law_arrows ["_law_writer_here", "_law_place"] (defScope s_law_arrows) := ⟨rfl, rfl, rfl, by decide +kernel, rfl, by decide +kernel, by decide +kernel⟩
abbrev N_law_waits_count : List Str := ["_law_m", "_law_places", "_law_at"]
theorem sc_law_waits_count : FnScope N_law_waits_count ["_law_m", "_law_places", "_law_at"] (defScope s_law_waits_count) := ⟨rfl, rfl, rfl, by decide +kernel, rfl, by decide +kernel, by decide +kernel⟩
abbrev N_law_can : List Str := ["_law_m", "_law_stand", "_law_spot", "_law_others", "_law_places", "_law_waits", "_law_run", "_law_at"]
theorem sc_law_can : FnScope N_law_can ["_law_m", "_law_stand", "_law_spot"] (defScope s_law_can) := ⟨rfl, rfl, rfl, by decide +kernel, rfl, by decide +kernel, by decide +kernel⟩
abbrev N_law_after : List Str := ["_law_m", "_law_stand", "_law_spot", "_law_to", "_law_later", "_law_many", "_law_fresh", "_law_places", "_law_waits", "_law_run", "_law_at", "_law_wait"]
theorem sc_law_after : FnScope N_law_after ["_law_m", "_law_stand", "_law_spot", "_law_to"] (defScope s_law_after) := ⟨rfl, rfl, rfl, by decide +kernel, rfl, by decide +kernel, by decide +kernel⟩
abbrev N_law_steps : List Str := ["_law_m", "_law_stand", "_law_found", "_law_spot", "_law_some", "_law_sign", "_law_later", "_law_to"]
theorem sc_law_steps : FnScope N_law_steps ["_law_m", "_law_stand"] (defScope s_law_steps) := ⟨rfl, rfl, rfl, by decide +kernel, rfl, by decide +kernel, by decide +kernel⟩
abbrev N_law_ways : List Str := ["_law_m", "_law_limit", "_law_turn", "_law_ways_here", "_law_waiting", "_law_sign", "_law_name", "_law_later"]
theorem sc_law_ways : FnScope N_law_ways ["_law_m", "_law_limit"] (defScope s_law_ways) := ⟨rfl, rfl, rfl, by decide +kernel, rfl, by decide +kernel, by decide +kernel⟩
abbrev N_law_tight : List Str := ["_law_bag_here", "_law_letters_here", "_law_limit", "_law_m", "_law_writer_here"]
theorem sc_law_tight : FnScope N_law_tight ["_law_bag_here", "_law_letters_here", "_law_limit"] (defScope s_law_tight) := ⟨rfl, rfl, rfl, by decide +kernel, rfl, by decide +kernel, by decide +kernel⟩
abbrev N_law_taking_turns : List Str := ["_law_bag_here", "_law_letters_here", "_law_many", "_law_found", "_law_name", "_law_places", "_law_lines", "_law_k"]
theorem sc_law_taking_turns : FnScope N_law_taking_turns ["_law_bag_here", "_law_letters_here"] (defScope s_law_taking_turns) := ⟨rfl, rfl, rfl, by decide +kernel, rfl, by decide +kernel, by decide +kernel⟩
abbrev N_law_delayed : List Str := ["_law_bag_here", "_law_letters_here", "_law_limit", "_law_m", "_law_writer_here"]
theorem sc_law_delayed : FnScope N_law_delayed ["_law_bag_here", "_law_letters_here", "_law_limit"] (defScope s_law_delayed) := ⟨rfl, rfl, rfl, by decide +kernel, rfl, by decide +kernel, by decide +kernel⟩
abbrev N_law_kinds : List Str := ["_law_bag_here", "_law_m", "_law_letters_here", "_law_writer_here", "_law_kinds_here", "_law_thick", "_law_sign"]
theorem sc_law_kinds : FnScope N_law_kinds ["_law_bag_here", "_law_m", "_law_letters_here"] (defScope s_law_kinds) := ⟨rfl, rfl, rfl, by decide +kernel, rfl, by decide +kernel, by decide +kernel⟩
abbrev N_law_alike : List Str := ["_law_one", "_law_other", "_law_sign", "_law_marked"]
theorem sc_law_alike : FnScope N_law_alike ["_law_one", "_law_other", "_law_sign", "_law_marked"] (defScope s_law_alike) := ⟨rfl, rfl, rfl, by decide +kernel, rfl, by decide +kernel, by decide +kernel⟩
abbrev N_law_twin_steps : List Str := ["_law_m", "_law_pair", "_law_marked", "_law_found", "_law_second", "_law_sign", "_law_one", "_law_to", "_law_mark", "_law_other", "_law_later"]
theorem sc_law_twin_steps : FnScope N_law_twin_steps ["_law_m", "_law_pair", "_law_marked"] (defScope s_law_twin_steps) := ⟨rfl, rfl, rfl, by decide +kernel, rfl, by decide +kernel, by decide +kernel⟩
abbrev N_law_twin_rows : List Str := ["_law_bag_here", "_law_m", "_law_limit", "_law_k", "_law_pair", "_law_strip", "_law_first", "_law_second", "_law_some", "_law_one", "_law_other", "_law_sign"]
theorem sc_law_twin_rows : FnScope N_law_twin_rows ["_law_bag_here", "_law_m", "_law_limit"] (defScope s_law_twin_rows) := ⟨rfl, rfl, rfl, by decide +kernel, rfl, by decide +kernel, by decide +kernel⟩
abbrev N_law_walked : List Str := ["_law_m", "_law_strip", "_law_names_here", "_law_stands", "_law_sign", "_law_name", "_law_some", "_law_mark", "_law_one", "_law_later"]
theorem sc_law_walked : FnScope N_law_walked ["_law_m", "_law_strip", "_law_names_here"] (defScope s_law_walked) := ⟨rfl, rfl, rfl, by decide +kernel, rfl, by decide +kernel, by decide +kernel⟩
abbrev N_law_differs : List Str := ["_law_one", "_law_other", "_law_own"]
theorem sc_law_differs : FnScope N_law_differs ["_law_one", "_law_other", "_law_own"] (defScope s_law_differs) := ⟨rfl, rfl, rfl, by decide +kernel, rfl, by decide +kernel, by decide +kernel⟩
abbrev N_law_doubt_ok : List Str := ["_law_m", "_law_strip", "_law_one", "_law_other", "_law_many", "_law_own", "_law_marked", "_law_at", "_law_same_eye", "_law_k"]
theorem sc_law_doubt_ok : FnScope N_law_doubt_ok ["_law_m", "_law_strip", "_law_one", "_law_other", "_law_many", "_law_own", "_law_marked"] (defScope s_law_doubt_ok) := ⟨rfl, rfl, rfl, by decide +kernel, rfl, by decide +kernel, by decide +kernel⟩
abbrev N_is_name : List Str := ["text", "sign"]
theorem sc_is_name : FnScope N_is_name ["text"] (defScope s_is_name) := ⟨rfl, rfl, rfl, by decide +kernel, rfl, by decide +kernel, by decide +kernel⟩
abbrev N_is_sign : List Str := ["text"]
theorem sc_is_sign : FnScope N_is_sign ["text"] (defScope s_is_sign) := ⟨rfl, rfl, rfl, by decide +kernel, rfl, by decide +kernel, by decide +kernel⟩
abbrev N_is_arrow : List Str := ["arrow", "place", "sign", "to"]
theorem sc_is_arrow : FnScope N_is_arrow ["arrow"] (defScope s_is_arrow) := ⟨rfl, rfl, rfl, by decide +kernel, rfl, by decide +kernel, by decide +kernel⟩
abbrev N_is_writer : List Str := ["thing", "keys", "name", "arrows", "patience", "cap", "arrow"]
theorem sc_is_writer : FnScope N_is_writer ["thing"] (defScope s_is_writer) := ⟨rfl, rfl, rfl, by decide +kernel, rfl, by decide +kernel, by decide +kernel⟩
abbrev N_need_writers : List Str := ["writers", "names", "at", "writer", "name"]
theorem sc_need_writers : FnScope N_need_writers ["writers"] (defScope s_need_writers) := ⟨rfl, rfl, rfl, by decide +kernel, rfl, by decide +kernel, by decide +kernel⟩
abbrev N_Company___init__ : List Str := ["self", "writers"]
theorem sc_Company___init__ : FnScope N_Company___init__ ["self", "writers"] (defScope s_Company___init__) := ⟨rfl, rfl, rfl, by decide +kernel, rfl, by decide +kernel, by decide +kernel⟩
abbrev N_Company_begin : List Str := ["self"]
theorem sc_Company_begin : FnScope N_Company_begin ["self"] (defScope s_Company_begin) := ⟨rfl, rfl, rfl, by decide +kernel, rfl, by decide +kernel, by decide +kernel⟩
abbrev N_arrows_at : List Str := ["writer", "place", "at", "sign", "to"]
theorem sc_arrows_at : FnScope N_arrows_at ["writer", "place"] (defScope s_arrows_at) := ⟨rfl, rfl, rfl, by decide +kernel, rfl, by decide +kernel, by decide +kernel⟩
abbrev N_is_done : List Str := ["writer", "place"]
theorem sc_is_done : FnScope N_is_done ["writer", "place"] (defScope s_is_done) := ⟨rfl, rfl, rfl, by decide +kernel, rfl, by decide +kernel, by decide +kernel⟩
abbrev N_Company_counts : List Str := ["self", "spot", "place"]
theorem sc_Company_counts : FnScope N_Company_counts ["self", "spot", "place"] (defScope s_Company_counts) := ⟨rfl, rfl, rfl, by decide +kernel, rfl, by decide +kernel, by decide +kernel⟩
abbrev N_Company_may_write : List Str := ["self", "stand", "spot", "cap", "others", "places", "waits", "run", "at"]
theorem sc_Company_may_write : FnScope N_Company_may_write ["self", "stand", "spot"] (defScope s_Company_may_write) := ⟨rfl, rfl, rfl, by decide +kernel, rfl, by decide +kernel, by decide +kernel⟩
abbrev N_Company_behind : List Str := ["self", "stand", "spot", "to", "later", "counted", "run", "places", "waits", "last", "many", "at", "wait"]
theorem sc_Company_behind : FnScope N_Company_behind ["self", "stand", "spot", "to"] (defScope s_Company_behind) := ⟨rfl, rfl, rfl, by decide +kernel, rfl, by decide +kernel, by decide +kernel⟩
abbrev N_Company_steps : List Str := ["self", "stand", "found", "spot", "writer", "sign", "to", "later"]
theorem sc_Company_steps : FnScope N_Company_steps ["self", "stand"] (defScope s_Company_steps) := ⟨rfl, rfl, rfl, by decide +kernel, rfl, by decide +kernel, by decide +kernel⟩
abbrev N_stands_of : List Str := ["company", "strip", "names", "found", "sign", "name", "later", "seen", "other", "to"]
theorem sc_stands_of : FnScope N_stands_of ["company", "strip", "names"] (defScope s_stands_of) := ⟨rfl, rfl, rfl, by decide +kernel, rfl, by decide +kernel, by decide +kernel⟩
abbrev N_is_alike : List Str := ["one", "other", "sign", "stamps"]
theorem sc_is_alike : FnScope N_is_alike ["one", "other", "sign", "stamps"] (defScope s_is_alike) := ⟨rfl, rfl, rfl, by decide +kernel, rfl, by decide +kernel, by decide +kernel⟩
abbrev N_twin_stands : List Str := ["company", "strip", "one", "other", "stamps", "alike", "first", "second", "sign", "name", "beside"]
theorem sc_twin_stands : FnScope N_twin_stands ["company", "strip", "one", "other", "stamps"] (defScope s_twin_stands) := ⟨rfl, rfl, rfl, by decide +kernel, rfl, by decide +kernel, by decide +kernel⟩
abbrev N_differs : List Str := ["one", "other", "name"]
theorem sc_differs : FnScope N_differs ["one", "other", "name"] (defScope s_differs) := ⟨rfl, rfl, rfl, by decide +kernel, rfl, by decide +kernel, by decide +kernel⟩
abbrev N_is_doubt : List Str := ["company", "strip", "one", "other", "many", "who", "stamps", "at"]
theorem sc_is_doubt : FnScope N_is_doubt ["company", "strip", "one", "other", "many", "who", "stamps"] (defScope s_is_doubt) := ⟨rfl, rfl, rfl, by decide +kernel, rfl, by decide +kernel, by decide +kernel⟩
abbrev N_law_like : List Str := ["_law_found", "_law_due", "_law_one", "_law_other"]
theorem sc_law_like : FnScope N_law_like ["_law_found", "_law_due"] (defScope s_law_like) := ⟨rfl, rfl, rfl, by decide +kernel, rfl, by decide +kernel, by decide +kernel⟩
abbrev N_law : List Str := ["_law_script", "_law_bag_here", "_law_turn", "_law_letters_here", "_law_m", "_law_apart", "_law_many", "_law_due", "_law_found", "_law_kinds_here", "_law_own", "_law_strip", "_law_one", "_law_other", "_law_pick", "_law_at", "_law_company_here", "_law_handed", "_law_writer_here"]
theorem sc_law : FnScope N_law ["_law_script"] (defScope s_law) := ⟨rfl, rfl, rfl, by decide +kernel, rfl, by decide +kernel, by decide +kernel⟩
structure Txt (K : PySem.W.Frag) (mg : Str → Option Value) : Prop where
  c_LETTERS : ∃ t, mg "LETTERS" = some (.str "abcdefghijklmnopqrstuvwxyz" t)
  c_LONGEST : ∃ t, mg "LONGEST" = some (.int 6 t)
  c_MOST_ARROWS : ∃ t, mg "MOST_ARROWS" = some (.int 9 t)
  c_MOST_COUNT : ∃ t, mg "MOST_COUNT" = some (.int 3 t)
  c_MOST_PLACE : ∃ t, mg "MOST_PLACE" = some (.int 2 t)
  c_MOST_WRITERS : ∃ t, mg "MOST_WRITERS" = some (.int 3 t)
  c_NOBODY : mg "NOBODY" = some (.ref (He.ga K "NOBODY")) ∧ ∀ F, Rep K F (.tup [(.int (-1)), (.int 0)]) (.ref (He.ga K "NOBODY"))
  g_all : mg "all" = none
  g_bool : mg "bool" = none
  g_enumerate : mg "enumerate" = none
  g_int : mg "int" = none
  g_isinstance : mg "isinstance" = none
  g_len : mg "len" = none
  g_list : mg "list" = none
  g_max : mg "max" = none
  g_range : mg "range" = none
  g_set : mg "set" = none
  g_sorted : mg "sorted" = none
  g_str : mg "str" = none
  g_tuple : mg "tuple" = none
  g_zip : mg "zip" = none
  k_Company : ClsT K CCompany
  d_law_bag : DefAt K mg "_law_bag" s_law_bag
  d_law_pull : DefAt K mg "_law_pull" s_law_pull
  d_law_of : DefAt K mg "_law_of" s_law_of
  d_law_letters : DefAt K mg "_law_letters" s_law_letters
  d_law_signs : DefAt K mg "_law_signs" s_law_signs
  d_law_names : DefAt K mg "_law_names" s_law_names
  d_law_writer : DefAt K mg "_law_writer" s_law_writer
  d_law_company : DefAt K mg "_law_company" s_law_company
  d_law_filled : DefAt K mg "_law_filled" s_law_filled
  d_law_begin : DefAt K mg "_law_begin" s_law_begin
  d_law_arrows : DefAt K mg "_law_arrows" s_law_arrows
  d_law_waits_count : DefAt K mg "_law_waits_count" s_law_waits_count
  d_law_can : DefAt K mg "_law_can" s_law_can
  d_law_after : DefAt K mg "_law_after" s_law_after
  d_law_steps : DefAt K mg "_law_steps" s_law_steps
  d_law_ways : DefAt K mg "_law_ways" s_law_ways
  d_law_tight : DefAt K mg "_law_tight" s_law_tight
  d_law_taking_turns : DefAt K mg "_law_taking_turns" s_law_taking_turns
  d_law_delayed : DefAt K mg "_law_delayed" s_law_delayed
  d_law_kinds : DefAt K mg "_law_kinds" s_law_kinds
  d_law_alike : DefAt K mg "_law_alike" s_law_alike
  d_law_twin_steps : DefAt K mg "_law_twin_steps" s_law_twin_steps
  d_law_twin_rows : DefAt K mg "_law_twin_rows" s_law_twin_rows
  d_law_walked : DefAt K mg "_law_walked" s_law_walked
  d_law_differs : DefAt K mg "_law_differs" s_law_differs
  d_law_doubt_ok : DefAt K mg "_law_doubt_ok" s_law_doubt_ok
  d_is_name : DefAt K mg "is_name" s_is_name
  d_is_sign : DefAt K mg "is_sign" s_is_sign
  d_is_arrow : DefAt K mg "is_arrow" s_is_arrow
  d_is_writer : DefAt K mg "is_writer" s_is_writer
  d_need_writers : DefAt K mg "need_writers" s_need_writers
  d_Company___init__ : InitAt K mg CCompany "Company.__init__" s_Company___init__ [(.tup [])]
  d_Company_begin : MethAt K CCompany "begin" "Company.begin" s_Company_begin
  d_arrows_at : DefAt K mg "arrows_at" s_arrows_at
  d_is_done : DefAt K mg "is_done" s_is_done
  d_Company_counts : MethAt K CCompany "counts" "Company.counts" s_Company_counts
  d_Company_may_write : MethAt K CCompany "may_write" "Company.may_write" s_Company_may_write
  d_Company_behind : MethAt K CCompany "behind" "Company.behind" s_Company_behind
  d_Company_steps : MethAt K CCompany "steps" "Company.steps" s_Company_steps
  d_stands_of : DefAt K mg "stands_of" s_stands_of
  d_is_alike : DefAt K mg "is_alike" s_is_alike
  d_twin_stands : DefAt K mg "twin_stands" s_twin_stands
  d_differs : DefAt K mg "differs" s_differs
  d_is_doubt : FnKAt K mg "is_doubt" s_is_doubt [("who", .non), ("stamps", (.tup []))]
  d_law_like : DefAt K mg "_law_like" s_law_like
  d_law : DefAt K mg "law" s_law
section
variable {P : Program} {w : World} {K : PySem.W.Frag} {mg : Str → Option Value} {base : Heap}
theorem ok_law_bag (T : Txt K mg) : DefOk P w K mg base (1) "_law_bag" 1 sp_law_bag :=
  have sc := sc_law_bag
  def_ok (N := N_law_bag) (t := t_law_bag) T.d_law_bag sc (fun _ _ _ _ _ _ us hl => match us, hl with | [_], _ => rfl) (fun f cdv A outer s H E hr => (pdss_cons (pds_set (i := 1) sc.nd pd_int)
    (pdss_cons (pds_for PassesOwn.never (pdi_lst (pd_slice (dv 0) pdo_none (pdo_some pd_int))) (pdg_name (i := 2) sc.nd) (pdss_one (pds_set (i := 1) sc.nd (pd_op opd_mod (pd_op opd_add (pd_op opd_add (pd_op opd_mulI (dv 1) pd_int) (pd_op opd_mod (dv 2) pd_int)) pd_int) pd_int))))
    (pdss_one (pds_ret (pd_lstM (pda_cons (pd_type calld_list T.g_list (pd_slice (dv 0) pdo_none (pdo_some pd_int))) (pda_cons pd_int (pda_cons pd_int (pda_cons (dv 1) pda_nil)))))))))) r_law_bag
theorem ok_law_pull (T : Txt K mg) : DefOk P w K mg base (1) "_law_pull" 2 sp_law_pull :=
  have sc := sc_law_pull
  def_ok (N := N_law_pull) (t := t_law_pull) T.d_law_pull sc (fun _ _ _ _ _ _ us hl => match us, hl with | [_, _], _ => rfl) (fun f cdv A outer s H E hr => (pdss_cons (pds_if (PW.pt (pdw_and (pdt_cmp (opd_eq hr) (pd_ix hr (dv 0) pd_int) pd_int) (pdw_and1 (pdt_cmp opd_lt (pd_ix hr (dv 0) pd_int) (pd_bltn calld_len T.g_len (pd_ix hr (dv 0) pd_int)))))) (pdss_cons (pds_set (i := 3) sc.nd (pd_ix hr (pd_ix hr (dv 0) pd_int) (pd_ix hr (dv 0) pd_int)))
    (pdss_cons (pds_setIx hr (pd_op opd_add (pd_ix hr (dv 0) pd_int) pd_int) (dv 0) pd_int)
    (pdss_one (pds_if (pdt_cmp opd_ge (dv 3) (pd_op opd_pow pd_int pd_int)) (pdss_one (pds_setIx hr (pd_op opd_subI (dv 3) (pd_op opd_pow pd_int pd_int)) (dv 0) pd_int)) (pdss_one (pds_setIx hr (pd_op opd_mod (pd_op opd_add (pd_op opd_add (pd_op opd_mulI (pd_ix hr (dv 0) pd_int) pd_int) (pd_op opd_mulI (pd_op opd_mod (dv 3) pd_int) pd_int)) pd_int) pd_int) (dv 0) pd_int)))))) pdss_nil)
    (pdss_cons (pds_if (pdt_cmp opd_gt (pd_ix hr (dv 0) pd_int) pd_int) (pdss_cons (pds_set (i := 4) sc.nd (pd_op opd_mod (pd_ix hr (dv 0) pd_int) (dv 1)))
    (pdss_cons (pds_setIx hr (pd_op opd_fdivW (pd_ix hr (dv 0) pd_int) (dv 1)) (dv 0) pd_int)
    (pdss_one (pds_ret (dv 4))))) pdss_nil)
    (pdss_cons (pds_set (i := 2) sc.nd (pd_ix hr (dv 0) pd_int))
    (pdss_cons (pds_setIx hr (pd_op opd_mod (pd_op opd_add (pd_op opd_add (pd_op opd_mulI (pd_op opd_mulI (dv 2) (dv 2)) pd_int) (pd_op opd_mulI (dv 2) pd_int)) pd_int) pd_int) (dv 0) pd_int)
    (pdss_one (pds_ret (pd_op opd_mod (pd_op opd_add (pd_op opd_fdivW (pd_ix hr (dv 0) pd_int) pd_int) (pd_op opd_mulI (pd_op opd_mod (pd_ix hr (dv 0) pd_int) pd_int) pd_int)) (dv 1))))))))) r_law_pull
theorem ok_law_of (T : Txt K mg) (o_law_pull : DefOk P w K mg base (1) "_law_pull" 2 sp_law_pull) : DefOk P w K mg base (2) "_law_of" 2 sp_law_of :=
  have sc := sc_law_of
  def_ok (N := N_law_of) (t := t_law_of) T.d_law_of sc (fun _ _ _ _ _ _ us hl => match us, hl with | [_, _], _ => rfl) (fun f cdv A outer s H E hr => (pdss_one (pds_ret (pd_ix hr (dv 1) (pd_call (o_law_pull.mono (by decide)) hr (pda_cons (dv 0) (pda_cons (pd_bltn calld_len T.g_len (dv 1)) pda_nil))))))) r_law_of
theorem ok_law_letters (T : Txt K mg) : DefOk P w K mg base (1) "_law_letters" 0 sp_law_letters :=
  have sc := sc_law_letters
  def_ok (N := N_law_letters) (t := t_law_letters) T.d_law_letters sc (fun _ _ _ _ _ _ us hl => match us, hl with | [], _ => rfl) (fun f cdv A outer s H E hr => (pdss_one (pds_ret pd_str))) r_law_letters
theorem ok_law_signs (T : Txt K mg) (o_law_pull : DefOk P w K mg base (1) "_law_pull" 2 sp_law_pull) (o_law_of : DefOk P w K mg base (2) "_law_of" 2 sp_law_of) (o_law_letters : DefOk P w K mg base (1) "_law_letters" 0 sp_law_letters) : DefOk P w K mg base (3) "_law_signs" 2 sp_law_signs :=
  have sc := sc_law_signs
  def_ok (N := N_law_signs) (t := t_law_signs) T.d_law_signs sc (fun _ _ _ _ _ _ us hl => match us, hl with | [_, _], _ => rfl) (fun f cdv A outer s H E hr => (pdss_cons (pds_asg (pd_tup (pda_cons (pd_call (o_law_pull.mono (by decide)) hr (pda_cons (dv 0) (pda_cons pd_int pda_nil))) (pda_cons (pd_call (o_law_of.mono (by decide)) hr (pda_cons (dv 0) (pda_cons (pd_lst (pda_cons pd_int (pda_cons pd_int (pda_cons pd_int (pda_cons pd_int pda_nil))))) pda_nil))) pda_nil))) (pdg_tup (pdgs_cons (pdg_name (i := 2) sc.nd) (pdgs_cons (pdg_name (i := 3) sc.nd) pdgs_nil))))
    (pdss_cons (pds_asg (pd_tup (pda_cons (pd_op opd_add pd_int (pd_call (o_law_pull.mono (by decide)) hr (pda_cons (dv 0) (pda_cons (dv 1) pda_nil)))) (pda_cons (pd_call0 (o_law_letters.mono (by decide)) hr) pda_nil))) (pdg_tup (pdgs_cons (pdg_name (i := 4) sc.nd) (pdgs_cons (pdg_name (i := 5) sc.nd) pdgs_nil))))
    (pdss_one (pds_ret (pd_bltn (calld_sort hr) T.g_sorted (pd_lc (own := [("_law_k", 6)]) sc.nd (pdi_range1 T.g_range (pda_cons (dv 4) pda_nil)) (blkOk_by (own := [("_law_k", 6)]) (N := N_law_signs) (sc := defScope s_law_signs) (by decide +kernel)) (fun _ _ _ _ _ => (pdg_name (i := 6) sc.nd)) (fun _ _ _ _ _ => pdts_nil) (fun _ _ _ _ _ => (pd_ix hr (dv 5) (pd_op opd_mod (pd_op opd_add (dv 2) (pd_op opd_mulI (dv 3) (dv 6))) pd_int)))))))))) r_law_signs
theorem ok_law_names (T : Txt K mg) (o_law_pull : DefOk P w K mg base (1) "_law_pull" 2 sp_law_pull) (o_law_letters : DefOk P w K mg base (1) "_law_letters" 0 sp_law_letters) (o_law_of : DefOk P w K mg base (2) "_law_of" 2 sp_law_of) : DefOk P w K mg base (3) "_law_names" 2 sp_law_names :=
  have sc := sc_law_names
  def_ok (N := N_law_names) (t := t_law_names) T.d_law_names sc (fun _ _ _ _ _ _ us hl => match us, hl with | [_, _], _ => rfl) (fun f cdv A outer s H E hr => (pdss_cons (pds_asg (pd_tup (pda_cons (pd_op opd_add pd_int (pd_call (o_law_pull.mono (by decide)) hr (pda_cons (dv 0) (pda_cons pd_int pda_nil)))) (pda_cons (pd_call0 (o_law_letters.mono (by decide)) hr) pda_nil))) (pdg_tup (pdgs_cons (pdg_name (i := 4) sc.nd) (pdgs_cons (pdg_name (i := 5) sc.nd) pdgs_nil))))
    (pdss_cons (pds_par (i := 6) (j := 7) sc.nd (pda_cons (pd_call (o_law_pull.mono (by decide)) hr (pda_cons (dv 0) (pda_cons (dv 4) pda_nil))) (pda_cons (pd_call (o_law_pull.mono (by decide)) hr (pda_cons (dv 0) (pda_cons pd_int pda_nil))) pda_nil)))
    (pdss_cons (pds_set (i := 2) sc.nd (pd_call (o_law_of.mono (by decide)) hr (pda_cons (dv 0) (pda_cons (pd_lst (pda_cons pd_int (pda_cons pd_int (pda_cons pd_int (pda_cons pd_int pda_nil))))) pda_nil))))
    (pdss_cons (pds_par (i := 8) (j := 9) sc.nd (pda_cons (pd_join pd_str (pd_lc (own := [("_law_k", 3)]) sc.nd (pdi_range1 T.g_range (pda_cons (dv 4) pda_nil)) (blkOk_by (own := [("_law_k", 3)]) (N := N_law_names) (sc := defScope s_law_names) (by decide +kernel)) (fun _ _ _ _ _ => (pdg_name (i := 3) sc.nd)) (fun _ _ _ _ _ => pdts_nil) (fun _ _ _ _ _ => (pd_call (o_law_of.mono (by decide)) hr (pda_cons (dv 0) (pda_cons (dv 5) pda_nil)))))) (pda_cons (pd_lstM pda_nil) pda_nil)))
    (pdss_cons (pds_for PassesOwn.never (pdi_range1 T.g_range (pda_cons (dv 1) pda_nil)) (pdg_name (i := 3) sc.nd) (pdss_cons (pds_set (i := 10) sc.nd (pd_ix hr (dv 5) (pd_op opd_mod (pd_op opd_add (dv 7) (pd_op opd_mulI (dv 2) (dv 3))) pd_int)))
    (pdss_cons (pds_set (i := 11) sc.nd (pd_op opd_add (pd_op opd_add (pd_slice (dv 8) pdo_none (pdo_some (dv 6))) (dv 10)) (pd_slice (dv 8) (pdo_some (pd_op opd_add (dv 6) pd_int)) pdo_none)))
    (pdss_one (pds_expr (pd_append (dv 9) (pd_if (pdt_cmp (opd_eq hr) (pd_call (o_law_pull.mono (by decide)) hr (pda_cons (dv 0) (pda_cons pd_int pda_nil))) pd_int) (pd_slice (dv 11) pdo_none (pdo_some (pd_bltn2 calld_max T.g_max (pd_op opd_add (dv 6) pd_int) (pd_op opd_subI (dv 4) (dv 3))))) (dv 11))))))))
    (pdss_one (pds_frz 9 (pds_ret (dv 9)))))))))) r_law_names
theorem ok_law_writer (T : Txt K mg) (o_law_pull : DefOk P w K mg base (1) "_law_pull" 2 sp_law_pull) (o_law_of : DefOk P w K mg base (2) "_law_of" 2 sp_law_of) : DefOk P w K mg base (3) "_law_writer" 5 sp_law_writer :=
  have sc := sc_law_writer
  def_ok (N := N_law_writer) (t := t_law_writer) T.d_law_writer sc (fun _ _ _ _ _ _ us hl => match us, hl with | [_, _, _, _, _], _ => rfl) (fun f cdv A outer s H E hr => (pdss_cons (pds_set (i := 5) sc.nd (pd_lstM pda_nil))
    (pdss_cons (pds_for PassesOwn.never (pdi_range1 T.g_range (pda_cons (dv 2) pda_nil)) (pdg_name (i := 6) sc.nd) (pdss_one (pds_for PassesOwn.never (pdi_lst (dv 3)) (pdg_name (i := 8) sc.nd) (pdss_one (pds_if (PW.pt (pdw_and (pdt_cmp opd_lt (pd_bltn calld_len T.g_len (dv 5)) pd_int) (pdw_and1 (pdt_cmp opd_lt (pd_call (o_law_pull.mono (by decide)) hr (pda_cons (dv 0) (pda_cons pd_int pda_nil))) (dv 4))))) (pdss_one (pds_expr (pd_append (dv 5) (pd_tup (pda_cons (dv 6) (pda_cons (dv 8) (pda_cons (pd_call (o_law_pull.mono (by decide)) hr (pda_cons (dv 0) (pda_cons (dv 2) pda_nil))) pda_nil))))))) pdss_nil)))))
    (pdss_cons (pds_frz 5 (pds_set (i := 7) sc.nd (pd_lst (pda_cons pd_int (pda_cons pd_int (pda_cons pd_int (pda_cons pd_int (pda_cons pd_int (pda_cons pd_int pda_nil)))))))))
    (pdss_one (pds_ret (pd_tup (pda_cons (dv 1) (pda_cons (pd_type calld_tuple T.g_tuple (dv 5)) (pda_cons (pd_call (o_law_of.mono (by decide)) hr (pda_cons (dv 0) (pda_cons (dv 7) pda_nil))) (pda_cons (pd_call (o_law_of.mono (by decide)) hr (pda_cons (dv 0) (pda_cons (dv 7) pda_nil))) pda_nil))))))))))) r_law_writer
theorem ok_law_company (T : Txt K mg) (o_law_of : DefOk P w K mg base (2) "_law_of" 2 sp_law_of) (o_law_names : DefOk P w K mg base (3) "_law_names" 2 sp_law_names) (o_law_pull : DefOk P w K mg base (1) "_law_pull" 2 sp_law_pull) (o_law_writer : DefOk P w K mg base (3) "_law_writer" 5 sp_law_writer) : DefOk P w K mg base (4) "_law_company" 3 sp_law_company :=
  have sc := sc_law_company
  def_ok (N := N_law_company) (t := t_law_company) T.d_law_company sc (fun _ _ _ _ _ _ us hl => match us, hl with | [_, _, _], _ => rfl) (fun f cdv A outer s H E hr => (pdss_cons (pds_par (i := 4) (j := 5) sc.nd (pda_cons (pd_call (o_law_of.mono (by decide)) hr (pda_cons (dv 0) (pda_cons (pd_lst (pda_cons pd_int (pda_cons pd_int (pda_cons pd_int (pda_cons pd_int pda_nil))))) pda_nil))) (pda_cons (pd_lstM pda_nil) pda_nil)))
    (pdss_cons (pds_for PassesOwn.never (pdi_lst (pd_call (o_law_names.mono (by decide)) hr (pda_cons (dv 0) (pda_cons (pd_op opd_add pd_int (pd_call (o_law_pull.mono (by decide)) hr (pda_cons (dv 0) (pda_cons (dv 1) pda_nil)))) pda_nil)))) (pdg_name (i := 3) sc.nd) (pdss_one (pds_expr (pd_append (dv 5) (pd_call (o_law_writer.mono (by decide)) hr (pda_cons (dv 0) (pda_cons (dv 3) (pda_cons (pd_op opd_add pd_int (pd_call (o_law_pull.mono (by decide)) hr (pda_cons (dv 0) (pda_cons pd_int pda_nil)))) (pda_cons (dv 2) (pda_cons (dv 4) pda_nil))))))))))
    (pdss_one (pds_frz 5 (pds_ret (dv 5))))))) r_law_company
theorem ok_law_filled (T : Txt K mg) : DefOk P w K mg base (1) "_law_filled" 2 sp_law_filled :=
  have sc := sc_law_filled
  def_ok (N := N_law_filled) (t := t_law_filled) T.d_law_filled sc (fun _ _ _ _ _ _ us hl => match us, hl with | [_, _], _ => rfl) (fun f cdv A outer s H E hr => (pdss_cons (pds_set (i := 2) sc.nd (pd_type calld_listM T.g_list (pd_ix hr (dv 0) pd_int)))
    (pdss_cons (pds_for PassesOwn.never (pdi_lst (pd_op opd_add (pd_lst (pda_cons pd_int pda_nil)) (pd_lc (own := [("_law_at", 4), ("_law_sign", 5), ("_law_to", 6)]) sc.nd (pdi_tup (pd_ix hr (dv 0) pd_int)) (blkOk_by (own := [("_law_at", 4), ("_law_sign", 5), ("_law_to", 6)]) (N := N_law_filled) (sc := defScope s_law_filled) (by decide +kernel)) (fun _ _ _ _ _ => (pdg_tup (pdgs_cons (pdg_name (i := 4) sc.nd) (pdgs_cons (pdg_name (i := 5) sc.nd) (pdgs_cons (pdg_name (i := 6) sc.nd) pdgs_nil))))) (fun _ _ _ _ _ => pdts_nil) (fun _ _ _ _ _ => (dv 6))))) (pdg_name (i := 3) sc.nd) (pdss_one (pds_if (pdt_peekD 2 (pdt_cmp (opd_notin hr) (dv 3) (pd_lc (own := [("_law_at", 4), ("_law_sign", 5), ("_law_to", 6)]) sc.nd (pdi_lst (dv 2)) (blkOk_by (own := [("_law_at", 4), ("_law_sign", 5), ("_law_to", 6)]) (N := N_law_filled) (sc := defScope s_law_filled) (by decide +kernel)) (fun _ _ _ _ _ => (pdg_tup (pdgs_cons (pdg_name (i := 4) sc.nd) (pdgs_cons (pdg_name (i := 5) sc.nd) (pdgs_cons (pdg_name (i := 6) sc.nd) pdgs_nil))))) (fun _ _ _ _ _ => pdts_nil) (fun _ _ _ _ _ => (dv 4))))) (pdss_one (pds_expr (pd_append (dv 2) (pd_tup (pda_cons (dv 3) (pda_cons (pd_ix hr (dv 1) pd_int) (pda_cons pd_int pda_nil))))))) pdss_nil)))
    (pdss_one (pds_frz 2 (pds_ret (pd_op opd_add (pd_tup (pda_cons (pd_ix hr (dv 0) pd_int) (pda_cons (pd_type calld_tuple T.g_tuple (pd_slice (pd_bltn (calld_sort hr) T.g_sorted (dv 2)) pdo_none (pdo_some pd_int))) pda_nil))) (pd_slice (dv 0) (pdo_some pd_int) pdo_none)))))))) r_law_filled
theorem ok_law_begin (T : Txt K mg) : DefOk P w K mg base (1) "_law_begin" 1 sp_law_begin :=
  have sc := sc_law_begin
  def_ok (N := N_law_begin) (t := t_law_begin) T.d_law_begin sc (fun _ _ _ _ _ _ us hl => match us, hl with | [_], _ => rfl) (fun f cdv A outer s H E hr => (pdss_one (pds_ret (pd_tup (pda_cons (pd_op opd_mulD (pd_tup (pda_cons pd_int pda_nil)) (pd_bltn calld_len T.g_len (dv 0))) (pda_cons (pd_op opd_mulD (pd_tup (pda_cons pd_int pda_nil)) (pd_bltn calld_len T.g_len (dv 0))) (pda_cons (pd_tup (pda_cons (pd_neg pd_int) (pda_cons pd_int pda_nil))) pda_nil))))))) r_law_begin
theorem ok_law_arrows (T : Txt K mg) : DefOk P w K mg base (1) "_law_arrows" 2 sp_law_arrows :=
  have sc := sc_law_arrows
  def_ok (N := N_law_arrows) (t := t_law_arrows) T.d_law_arrows sc (fun _ _ _ _ _ _ us hl => match us, hl with | [_, _], _ => rfl) (fun f cdv A outer s H E hr => (pdss_one (pds_ret (pd_lc (own := [("_law_at", 2), ("_law_sign", 3), ("_law_to", 4)]) sc.nd (pdi_tup (pd_ix hr (dv 0) pd_int)) (blkOk_by (own := [("_law_at", 2), ("_law_sign", 3), ("_law_to", 4)]) (N := N_law_arrows) (sc := defScope s_law_arrows) (by decide +kernel)) (fun _ _ _ _ _ => (pdg_tup (pdgs_cons (pdg_name (i := 2) sc.nd) (pdgs_cons (pdg_name (i := 3) sc.nd) (pdgs_cons (pdg_name (i := 4) sc.nd) pdgs_nil))))) (fun _ _ _ _ _ => (pdts_one (pdt_cmp (opd_eq hr) (dv 2) (dv 1)))) (fun _ _ _ _ _ => (pd_tup (pda_cons (dv 3) (pda_cons (dv 4) pda_nil)))))))) r_law_arrows
theorem ok_law_waits_count (T : Txt K mg) (o_law_arrows : DefOk P w K mg base (1) "_law_arrows" 2 sp_law_arrows) : DefOk P w K mg base (2) "_law_waits_count" 3 sp_law_waits_count :=
  have sc := sc_law_waits_count
  def_ok (N := N_law_waits_count) (t := t_law_waits_count) T.d_law_waits_count sc (fun _ _ _ _ _ _ us hl => match us, hl with | [_, _, _], _ => rfl) (fun f cdv A outer s H E hr => (pdss_one (pds_ret (pd_and (pd_cmp opd_gt (pd_ix hr (pd_ix hr (dv 0) (dv 2)) pd_int) pd_int) (pd_one (pd_cmp (opd_ne hr) (pd_call (o_law_arrows.mono (by decide)) hr (pda_cons (pd_ix hr (dv 0) (dv 2)) (pda_cons (pd_ix hr (dv 1) (dv 2)) pda_nil))) (pd_lst pda_nil))))))) r_law_waits_count
theorem ok_law_can (T : Txt K mg) (o_law_waits_count : DefOk P w K mg base (2) "_law_waits_count" 3 sp_law_waits_count) : DefOk P w K mg base (3) "_law_can" 3 sp_law_can :=
  have sc := sc_law_can
  def_ok (N := N_law_can) (t := t_law_can) T.d_law_can sc (fun _ _ _ _ _ _ us hl => match us, hl with | [_, _, _], _ => rfl) (fun f cdv A outer s H E hr => (pdss_cons (pds_asg (dv 1) (pdg_tup (pdgs_cons (pdg_name (i := 4) sc.nd) (pdgs_cons (pdg_name (i := 5) sc.nd) (pdgs_cons (pdg_name (i := 6) sc.nd) pdgs_nil)))))
    (pdss_cons (pds_if (PW.pt (pdw_and (pdt_cmp opd_gt (pd_ix hr (pd_ix hr (dv 0) (dv 2)) pd_int) pd_int) (pdw_and1 (pdt_cmp (opd_eq hr) (dv 6) (pd_tup (pda_cons (dv 2) (pda_cons (pd_ix hr (pd_ix hr (dv 0) (dv 2)) pd_int) pda_nil))))))) (pdss_one (pds_ret pd_bl)) pdss_nil)
    (pdss_cons (pds_setLc (i := 3) (own := [("_law_at", 7)]) sc.nd (sw_true rfl rfl rfl (by decide +kernel)) (pdi_range1 T.g_range (pda_cons (pd_bltn calld_len T.g_len (dv 0)) pda_nil)) (blkOk_by (own := [("_law_at", 7)]) (N := N_law_can) (sc := defScope s_law_can) (by decide +kernel)) (fun _ _ _ _ _ => (pdg_name (i := 7) sc.nd)) (fun _ _ _ _ _ => (pdts_one (PW.pt (pdw_and (pdt_cmp (opd_ne hr) (dv 7) (dv 2)) (pdw_and1 (pdt (pd_call (o_law_waits_count.mono (by decide)) hr (pda_cons (dv 0) (pda_cons (dv 4) (pda_cons (dv 7) pda_nil)))))))))) (fun _ _ _ _ _ => (dv 7)))
    (pdss_one (pds_ret (pd_bltn calld_all T.g_all (pd_lc (own := [("_law_at", 7)]) sc.nd (pdi_lst (dv 3)) (blkOk_by (own := [("_law_at", 7)]) (N := N_law_can) (sc := defScope s_law_can) (by decide +kernel)) (fun _ _ _ _ _ => (pdg_name (i := 7) sc.nd)) (fun _ _ _ _ _ => pdts_nil) (fun _ _ _ _ _ => (pd_cmp opd_lt (pd_ix hr (dv 5) (dv 7)) (pd_ix hr (pd_ix hr (dv 0) (dv 7)) pd_int))))))))))) r_law_can
theorem ok_law_after (T : Txt K mg) (o_law_waits_count : DefOk P w K mg base (2) "_law_waits_count" 3 sp_law_waits_count) : DefOk P w K mg base (3) "_law_after" 4 sp_law_after :=
  have sc := sc_law_after
  def_ok (N := N_law_after) (t := t_law_after) T.d_law_after sc (fun _ _ _ _ _ _ us hl => match us, hl with | [_, _, _, _], _ => rfl) (fun f cdv A outer s H E hr => (pdss_cons (pds_asg (dv 1) (pdg_tup (pdgs_cons (pdg_name (i := 7) sc.nd) (pdgs_cons (pdg_name (i := 8) sc.nd) (pdgs_cons (pdg_name (i := 9) sc.nd) pdgs_nil)))))
    (pdss_cons (pds_setLcM (i := 4) (own := [("_law_at", 10), ("_law_wait", 11)]) sc.nd (sw_true rfl rfl rfl (by decide +kernel)) (pdi_enumA T.g_enumerate (pda_cons (dv 8) pda_nil)) (blkOk_by (own := [("_law_at", 10), ("_law_wait", 11)]) (N := N_law_after) (sc := defScope s_law_after) (by decide +kernel)) (fun _ _ _ _ _ => (pdg_tup (pdgs_cons (pdg_name (i := 10) sc.nd) (pdgs_cons (pdg_name (i := 11) sc.nd) pdgs_nil)))) (fun _ _ _ _ _ => pdts_nil) (fun _ _ _ _ _ => (pd_op opd_add (dv 11) (pd_type calld_intB T.g_int (pd_call (o_law_waits_count.mono (by decide)) hr (pda_cons (dv 0) (pda_cons (dv 7) (pda_cons (dv 10) pda_nil))))))))
    (pdss_cons (pds_setIx hr pd_int (dv 4) (dv 2))
    (pdss_cons (pds_set (i := 5) sc.nd (pd_if (pdt_cmp (opd_eq hr) (pd_ix hr (dv 9) pd_int) (dv 2)) (pd_op opd_add (pd_ix hr (dv 9) pd_int) pd_int) pd_int))
    (pdss_cons (pds_set (i := 6) sc.nd (pd_if (pdt_cmp opd_gt (pd_ix hr (pd_ix hr (dv 0) (dv 2)) pd_int) pd_int) (pd_tup (pda_cons (dv 2) (pda_cons (dv 5) pda_nil))) (pd_tup (pda_cons (pd_neg pd_int) (pda_cons pd_int pda_nil)))))
    (pdss_one (pds_frz 4 (pds_ret (pd_tup (pda_cons (pd_op opd_add (pd_op opd_add (pd_slice (dv 7) pdo_none (pdo_some (dv 2))) (pd_tup (pda_cons (dv 3) pda_nil))) (pd_slice (dv 7) (pdo_some (pd_op opd_add (dv 2) pd_int)) pdo_none)) (pda_cons (pd_type calld_tuple T.g_tuple (dv 4)) (pda_cons (dv 6) pda_nil))))))))))))) r_law_after
theorem ok_law_steps (T : Txt K mg) (o_law_can : DefOk P w K mg base (3) "_law_can" 3 sp_law_can) (o_law_arrows : DefOk P w K mg base (1) "_law_arrows" 2 sp_law_arrows) (o_law_after : DefOk P w K mg base (3) "_law_after" 4 sp_law_after) : DefOk P w K mg base (4) "_law_steps" 2 sp_law_steps :=
  have sc := sc_law_steps
  def_ok (N := N_law_steps) (t := t_law_steps) T.d_law_steps sc (fun _ _ _ _ _ _ us hl => match us, hl with | [_, _], _ => rfl) (fun f cdv A outer s H E hr => (pdss_cons (pds_set (i := 2) sc.nd (pd_lst pda_nil))
    (pdss_cons (pds_for PassesOwn.never (pdi_range1 T.g_range (pda_cons (pd_bltn calld_len T.g_len (dv 0)) pda_nil)) (pdg_name (i := 3) sc.nd) (pdss_one (pds_if (pdt (pd_call (o_law_can.mono (by decide)) hr (pda_cons (dv 0) (pda_cons (dv 1) (pda_cons (dv 3) pda_nil))))) (pdss_cons (pds_set (i := 4) sc.nd (pd_call (o_law_arrows.mono (by decide)) hr (pda_cons (pd_ix hr (dv 0) (dv 3)) (pda_cons (pd_ix hr (pd_ix hr (dv 1) pd_int) (dv 3)) pda_nil))))
    (pdss_one (pds_set (i := 2) sc.nd (pd_op opd_add (dv 2) (pd_lc (own := [("_law_sign", 5), ("_law_to", 7)]) sc.nd (pdi_lst (dv 4)) (blkOk_by (own := [("_law_sign", 5), ("_law_to", 7)]) (N := N_law_steps) (sc := defScope s_law_steps) (by decide +kernel)) (fun _ _ _ _ _ => (pdg_tup (pdgs_cons (pdg_name (i := 5) sc.nd) (pdgs_cons (pdg_name (i := 7) sc.nd) pdgs_nil)))) (fun _ _ _ _ _ => pdts_nil) (fun _ _ _ _ _ => (pd_tup (pda_cons (dv 5) (pda_cons (dv 3) (pda_cons (pd_call (o_law_after.mono (by decide)) hr (pda_cons (dv 0) (pda_cons (dv 1) (pda_cons (dv 3) (pda_cons (dv 7) pda_nil))))) pda_nil)))))))))) pdss_nil)))
    (pdss_one (pds_ret (pd_lc (own := [("_law_sign", 5), ("_law_spot", 3), ("_law_later", 6)]) sc.nd (pdi_lst (pd_bltn (calld_sort hr) T.g_sorted (dv 2))) (blkOk_by (own := [("_law_sign", 5), ("_law_spot", 3), ("_law_later", 6)]) (N := N_law_steps) (sc := defScope s_law_steps) (by decide +kernel)) (fun _ _ _ _ _ => (pdg_tup (pdgs_cons (pdg_name (i := 5) sc.nd) (pdgs_cons (pdg_name (i := 3) sc.nd) (pdgs_cons (pdg_name (i := 6) sc.nd) pdgs_nil))))) (fun _ _ _ _ _ => pdts_nil) (fun _ _ _ _ _ => (pd_tup (pda_cons (dv 5) (pda_cons (pd_ix hr (pd_ix hr (dv 0) (dv 3)) pd_int) (pda_cons (dv 6) pda_nil))))))))))) r_law_steps
theorem ok_law_ways (T : Txt K mg) (o_law_begin : DefOk P w K mg base (1) "_law_begin" 1 sp_law_begin) (o_law_steps : DefOk P w K mg base (4) "_law_steps" 2 sp_law_steps) : DefOk P w K mg base (5) "_law_ways" 2 (sp_law_ways w) :=
  have sc := sc_law_ways
  def_ok (N := N_law_ways) (t := (t_law_ways w)) T.d_law_ways sc (fun _ _ _ _ _ _ us hl => match us, hl with | [_, _], _ => rfl) (fun f cdv A outer s H E hr => (pdss_cons (pds_par (i := 3) (j := 4) sc.nd (pda_cons (pd_dk1 hr (pd_call (o_law_begin.mono (by decide)) hr (pda_cons (dv 0) pda_nil)) (pd_tup pda_nil)) (pda_cons (pd_lstM (pda_cons (pd_call (o_law_begin.mono (by decide)) hr (pda_cons (dv 0) pda_nil)) pda_nil)) pda_nil)))
    (pdss_cons (pds_for PassesOwn.never (pdi_range1 T.g_range (pda_cons (dv 1) pda_nil)) (pdg_name (i := 2) sc.nd) (pdss_one (pds_if (pdt_cmp opd_lt (dv 2) (pd_bltn calld_len T.g_len (dv 4))) (pdss_one (pds_for PassesOwn.never (pdi_lst (pd_call (o_law_steps.mono (by decide)) hr (pda_cons (dv 0) (pda_cons (pd_ix hr (dv 4) (dv 2)) pda_nil)))) (pdg_tup (pdgs_cons (pdg_name (i := 5) sc.nd) (pdgs_cons (pdg_name (i := 6) sc.nd) (pdgs_cons (pdg_name (i := 7) sc.nd) pdgs_nil)))) (pdss_one (pds_if (pdt_cmp (opd_notinDk hr) (dv 7) (dv 3)) (pdss_cons (pds_setDk hr (pd_op opd_add (pd_ixDk hr (dv 3) (pd_ix hr (dv 4) (dv 2))) (pd_tup (pda_cons (dv 5) pda_nil))) (dv 3) (dv 7))
    (pdss_one (pds_expr (pd_append (dv 4) (dv 7))))) pdss_nil)))) pdss_nil)))
    (pdss_one (pds_frz 4 (pds_frz 3 (pds_ret (dv 3)))))))) (r_law_ways w)
theorem ok_law_tight (T : Txt K mg) (o_law_company : DefOk P w K mg base (4) "_law_company" 3 sp_law_company) (o_law_pull : DefOk P w K mg base (1) "_law_pull" 2 sp_law_pull) (o_law_filled : DefOk P w K mg base (1) "_law_filled" 2 sp_law_filled) (o_law_ways : DefOk P w K mg base (5) "_law_ways" 2 (sp_law_ways w)) : DefOk P w K mg base (6) "_law_tight" 3 sp_law_tight :=
  have sc := sc_law_tight
  def_ok (N := N_law_tight) (t := (t_law_tight w)) T.d_law_tight sc (fun _ _ _ _ _ _ us hl => match us, hl with | [_, _, _], _ => rfl) (fun f cdv A outer s H E hr => (pdss_cons (pds_set (i := 3) sc.nd (pd_call (o_law_company.mono (by decide)) hr (pda_cons (dv 0) (pda_cons pd_int (pda_cons (dv 1) pda_nil)))))
    (pdss_cons (pds_if (pdt_cmp opd_gt (pd_call (o_law_pull.mono (by decide)) hr (pda_cons (dv 0) (pda_cons pd_int pda_nil))) pd_int) (pdss_one (pds_setLc (i := 3) (own := [("_law_writer_here", 4)]) sc.nd (sw_true rfl rfl rfl (by decide +kernel)) (pdi_lst (dv 3)) (blkOk_by (own := [("_law_writer_here", 4)]) (N := N_law_tight) (sc := defScope s_law_tight) (by decide +kernel)) (fun _ _ _ _ _ => (pdg_name (i := 4) sc.nd)) (fun _ _ _ _ _ => pdts_nil) (fun _ _ _ _ _ => (pd_call (o_law_filled.mono (by decide)) hr (pda_cons (dv 4) (pda_cons (dv 1) pda_nil)))))) pdss_nil)
    (pdss_cons (pds_if (pdt_cmp opd_gt (pd_bltn calld_lenDk T.g_len (pd_call (o_law_ways.mono (by decide)) hr (pda_cons (dv 3) (pda_cons (pd_op opd_add (dv 2) pd_int) pda_nil)))) (dv 2)) (pdss_one (pds_setLc (i := 3) (own := [("_law_writer_here", 4)]) sc.nd (sw_true rfl rfl rfl (by decide +kernel)) (pdi_lst (pd_slice (dv 3) pdo_none (pdo_some pd_int))) (blkOk_by (own := [("_law_writer_here", 4)]) (N := N_law_tight) (sc := defScope s_law_tight) (by decide +kernel)) (fun _ _ _ _ _ => (pdg_name (i := 4) sc.nd)) (fun _ _ _ _ _ => pdts_nil) (fun _ _ _ _ _ => (pd_op opd_add (pd_slice (dv 4) pdo_none (pdo_some pd_int)) (pd_tup (pda_cons pd_int (pda_cons pd_int pda_nil))))))) pdss_nil)
    (pdss_one (pds_ret (dv 3))))))) (r_law_tight w)
theorem ok_law_taking_turns (T : Txt K mg) (o_law_of : DefOk P w K mg base (2) "_law_of" 2 sp_law_of) (o_law_names : DefOk P w K mg base (3) "_law_names" 2 sp_law_names) (o_law_pull : DefOk P w K mg base (1) "_law_pull" 2 sp_law_pull) : DefOk P w K mg base (4) "_law_taking_turns" 2 sp_law_taking_turns :=
  have sc := sc_law_taking_turns
  def_ok (N := N_law_taking_turns) (t := t_law_taking_turns) T.d_law_taking_turns sc (fun _ _ _ _ _ _ us hl => match us, hl with | [_, _], _ => rfl) (fun f cdv A outer s H E hr => (pdss_cons (pds_set (i := 2) sc.nd (pd_call (o_law_of.mono (by decide)) hr (pda_cons (dv 0) (pda_cons (pd_lst (pda_cons pd_int (pda_cons pd_int (pda_cons pd_int pda_nil)))) pda_nil))))
    (pdss_cons (pds_set (i := 3) sc.nd (pd_lstM pda_nil))
    (pdss_cons (pds_for PassesOwn.never (pdi_lst (pd_call (o_law_names.mono (by decide)) hr (pda_cons (dv 0) (pda_cons (dv 2) pda_nil)))) (pdg_name (i := 4) sc.nd) (pdss_cons (pds_set (i := 5) sc.nd (pd_op opd_add pd_int (pd_call (o_law_pull.mono (by decide)) hr (pda_cons (dv 0) (pda_cons (pd_op opd_subI pd_int (dv 2)) pda_nil)))))
    (pdss_cons (pds_setLc (i := 6) (own := [("_law_k", 7)]) sc.nd (sw_true rfl rfl rfl (by decide +kernel)) (pdi_range1 T.g_range (pda_cons (dv 5) pda_nil)) (blkOk_by (own := [("_law_k", 7)]) (N := N_law_taking_turns) (sc := defScope s_law_taking_turns) (by decide +kernel)) (fun _ _ _ _ _ => (pdg_name (i := 7) sc.nd)) (fun _ _ _ _ _ => pdts_nil) (fun _ _ _ _ _ => (pd_tup (pda_cons (dv 7) (pda_cons (pd_call (o_law_of.mono (by decide)) hr (pda_cons (dv 0) (pda_cons (dv 1) pda_nil))) (pda_cons (pd_op opd_mod (pd_op opd_add (dv 7) pd_int) (dv 5)) pda_nil))))))
    (pdss_one (pds_expr (pd_append (dv 3) (pd_tup (pda_cons (dv 4) (pda_cons (pd_type calld_tuple T.g_tuple (dv 6)) (pda_cons (pd_op opd_subI (dv 2) pd_int) (pda_cons pd_int pda_nil)))))))))))
    (pdss_one (pds_frz 3 (pds_ret (dv 3)))))))) r_law_taking_turns
theorem ok_law_delayed (T : Txt K mg) (o_law_pull : DefOk P w K mg base (1) "_law_pull" 2 sp_law_pull) (o_law_tight : DefOk P w K mg base (6) "_law_tight" 3 sp_law_tight) (o_law_taking_turns : DefOk P w K mg base (4) "_law_taking_turns" 2 sp_law_taking_turns) (o_law_ways : DefOk P w K mg base (5) "_law_ways" 2 (sp_law_ways w)) : DefOk P w K mg base (7) "_law_delayed" 3 sp_law_delayed :=
  have sc := sc_law_delayed
  def_ok (N := N_law_delayed) (t := (t_law_delayed w)) T.d_law_delayed sc (fun _ _ _ _ _ _ us hl => match us, hl with | [_, _, _], _ => rfl) (fun f cdv A outer s H E hr => (pdss_cons (pds_if (pdt_cmp (opd_eq hr) (pd_call (o_law_pull.mono (by decide)) hr (pda_cons (dv 0) (pda_cons pd_int pda_nil))) pd_int) (pdss_one (pds_ret (pd_call (o_law_tight.mono (by decide)) hr (pda_cons (dv 0) (pda_cons (dv 1) (pda_cons (dv 2) pda_nil)))))) pdss_nil)
    (pdss_cons (pds_set (i := 3) sc.nd (pd_call (o_law_taking_turns.mono (by decide)) hr (pda_cons (dv 0) (pda_cons (dv 1) pda_nil))))
    (pdss_cons (pds_if (pdt_cmp opd_gt (pd_bltn calld_lenDk T.g_len (pd_call (o_law_ways.mono (by decide)) hr (pda_cons (dv 3) (pda_cons (pd_op opd_add (dv 2) pd_int) pda_nil)))) (dv 2)) (pdss_one (pds_setLc (i := 3) (own := [("_law_writer_here", 4)]) sc.nd (sw_true rfl rfl rfl (by decide +kernel)) (pdi_lst (pd_slice (dv 3) pdo_none (pdo_some pd_int))) (blkOk_by (own := [("_law_writer_here", 4)]) (N := N_law_delayed) (sc := defScope s_law_delayed) (by decide +kernel)) (fun _ _ _ _ _ => (pdg_name (i := 4) sc.nd)) (fun _ _ _ _ _ => pdts_nil) (fun _ _ _ _ _ => (pd_op opd_add (pd_slice (dv 4) pdo_none (pdo_some pd_int)) (pd_tup (pda_cons pd_int (pda_cons pd_int pda_nil))))))) pdss_nil)
    (pdss_one (pds_ret (dv 3))))))) (r_law_delayed w)
theorem ok_law_kinds (T : Txt K mg) (o_law_of : DefOk P w K mg base (2) "_law_of" 2 sp_law_of) (o_law_pull : DefOk P w K mg base (1) "_law_pull" 2 sp_law_pull) : DefOk P w K mg base (3) "_law_kinds" 3 sp_law_kinds :=
  have sc := sc_law_kinds
  def_ok (N := N_law_kinds) (t := t_law_kinds) T.d_law_kinds sc (fun _ _ _ _ _ _ us hl => match us, hl with | [_, _, _], _ => rfl) (fun f cdv A outer s H E hr => (pdss_cons (pds_asg (pd_tup (pda_cons (pd_lst pda_nil) (pda_cons (pd_call (o_law_of.mono (by decide)) hr (pda_cons (dv 0) (pda_cons (pd_lst (pda_cons pd_int (pda_cons pd_int (pda_cons pd_int (pda_cons pd_int pda_nil))))) pda_nil))) pda_nil))) (pdg_tup (pdgs_cons (pdg_name (i := 4) sc.nd) (pdgs_cons (pdg_name (i := 5) sc.nd) pdgs_nil))))
    (pdss_cons (pds_for PassesOwn.never (pdi_lst (dv 1)) (pdg_name (i := 3) sc.nd) (pdss_one (pds_set (i := 4) sc.nd (pd_op opd_add (dv 4) (pd_lc (own := [("_law_sign", 6)]) sc.nd (pdi_lst (dv 2)) (blkOk_by (own := [("_law_sign", 6)]) (N := N_law_kinds) (sc := defScope s_law_kinds) (by decide +kernel)) (fun _ _ _ _ _ => (pdg_name (i := 6) sc.nd)) (fun _ _ _ _ _ => (pdts_one (pdt_cmp opd_lt (pd_call (o_law_pull.mono (by decide)) hr (pda_cons (dv 0) (pda_cons pd_int pda_nil))) (dv 5)))) (fun _ _ _ _ _ => (pd_tup (pda_cons (pd_ix hr (dv 3) pd_int) (pda_cons (dv 6) pda_nil)))))))))
    (pdss_one (pds_ret (dv 4)))))) r_law_kinds
theorem ok_law_alike (T : Txt K mg) : DefOk P w K mg base (1) "_law_alike" 4 sp_law_alike :=
  have sc := sc_law_alike
  def_ok (N := N_law_alike) (t := t_law_alike) T.d_law_alike sc (fun _ _ _ _ _ _ us hl => match us, hl with | [_, _, _, _], _ => rfl) (fun f cdv A outer s H E hr => (pdss_one (pds_ret (pd_or (pd_cmp (opd_eq hr) (dv 0) (dv 1)) (pd_one (pd_and (pd_cmp (opd_notin hr) (pd_tup (pda_cons (dv 0) (pda_cons (dv 2) pda_nil))) (dv 3)) (pd_one (pd_cmp (opd_notin hr) (pd_tup (pda_cons (dv 1) (pda_cons (dv 2) pda_nil))) (dv 3))))))))) r_law_alike
theorem ok_law_twin_steps (T : Txt K mg) (o_law_steps : DefOk P w K mg base (4) "_law_steps" 2 sp_law_steps) (o_law_alike : DefOk P w K mg base (1) "_law_alike" 4 sp_law_alike) : DefOk P w K mg base (5) "_law_twin_steps" 3 sp_law_twin_steps :=
  have sc := sc_law_twin_steps
  def_ok (N := N_law_twin_steps) (t := t_law_twin_steps) T.d_law_twin_steps sc (fun _ _ _ _ _ _ us hl => match us, hl with | [_, _, _], _ => rfl) (fun f cdv A outer s H E hr => (pdss_cons (pds_par (i := 3) (j := 4) sc.nd (pda_cons (pd_lstM pda_nil) (pda_cons (pd_call (o_law_steps.mono (by decide)) hr (pda_cons (dv 0) (pda_cons (pd_ix hr (dv 1) pd_int) pda_nil))) pda_nil)))
    (pdss_cons (pds_for PassesOwn.never (pdi_lst (pd_call (o_law_steps.mono (by decide)) hr (pda_cons (dv 0) (pda_cons (pd_ix hr (dv 1) pd_int) pda_nil)))) (pdg_tup (pdgs_cons (pdg_name (i := 5) sc.nd) (pdgs_cons (pdg_name (i := 6) sc.nd) (pdgs_cons (pdg_name (i := 7) sc.nd) pdgs_nil)))) (pdss_one (pds_for PassesOwn.never (pdi_lst (dv 4)) (pdg_tup (pdgs_cons (pdg_name (i := 8) sc.nd) (pdgs_cons (pdg_name (i := 9) sc.nd) (pdgs_cons (pdg_name (i := 10) sc.nd) pdgs_nil)))) (pdss_one (pds_if (PW.pt (pdw_and (pdt_cmp (opd_eq hr) (dv 8) (dv 5)) (pdw_and1 (pdt (pd_call (o_law_alike.mono (by decide)) hr (pda_cons (dv 6) (pda_cons (dv 9) (pda_cons (dv 5) (pda_cons (dv 2) pda_nil))))))))) (pdss_one (pds_expr (pd_append (dv 3) (pd_tup (pda_cons (dv 6) (pda_cons (dv 9) (pda_cons (pd_tup (pda_cons (dv 7) (pda_cons (dv 10) pda_nil))) (pda_cons (dv 5) pda_nil)))))))) pdss_nil)))))
    (pdss_one (pds_frz 3 (pds_ret (dv 3))))))) r_law_twin_steps
theorem ok_law_twin_rows (T : Txt K mg) (o_law_begin : DefOk P w K mg base (1) "_law_begin" 1 sp_law_begin) (o_law_pull : DefOk P w K mg base (1) "_law_pull" 2 sp_law_pull) (o_law_twin_steps : DefOk P w K mg base (5) "_law_twin_steps" 3 sp_law_twin_steps) (o_law_of : DefOk P w K mg base (2) "_law_of" 2 sp_law_of) : DefOk P w K mg base (6) "_law_twin_rows" 3 sp_law_twin_rows :=
  have sc := sc_law_twin_rows
  def_ok (N := N_law_twin_rows) (t := t_law_twin_rows) T.d_law_twin_rows sc (fun _ _ _ _ _ _ us hl => match us, hl with | [_, _, _], _ => rfl) (fun f cdv A outer s H E hr => (pdss_cons (pds_asg (pd_tup (pda_cons (pd_tup (pda_cons (pd_call (o_law_begin.mono (by decide)) hr (pda_cons (dv 1) pda_nil)) (pda_cons (pd_call (o_law_begin.mono (by decide)) hr (pda_cons (dv 1) pda_nil)) pda_nil))) (pda_cons (pd_lstM pda_nil) (pda_cons (pd_lstM pda_nil) (pda_cons (pd_lstM pda_nil) pda_nil))))) (pdg_tup (pdgs_cons (pdg_name (i := 4) sc.nd) (pdgs_cons (pdg_name (i := 5) sc.nd) (pdgs_cons (pdg_name (i := 6) sc.nd) (pdgs_cons (pdg_name (i := 7) sc.nd) pdgs_nil))))))
    (pdss_cons (pds_for PassesOwn.never (pdi_range1 T.g_range (pda_cons (pd_call (o_law_pull.mono (by decide)) hr (pda_cons (dv 0) (pda_cons (pd_op opd_add (dv 2) pd_int) pda_nil))) pda_nil)) (pdg_name (i := 3) sc.nd) (pdss_cons (pds_set (i := 8) sc.nd (pd_call (o_law_twin_steps.mono (by decide)) hr (pda_cons (dv 1) (pda_cons (dv 4) (pda_cons (pd_lst pda_nil) pda_nil)))))
    (pdss_one (pds_if (pdt_cmp (opd_ne hr) (dv 8) (pd_lst pda_nil)) (pdss_cons (pds_asg (pd_call (o_law_of.mono (by decide)) hr (pda_cons (dv 0) (pda_cons (dv 8) pda_nil))) (pdg_tup (pdgs_cons (pdg_name (i := 9) sc.nd) (pdgs_cons (pdg_name (i := 10) sc.nd) (pdgs_cons (pdg_name (i := 4) sc.nd) (pdgs_cons (pdg_name (i := 11) sc.nd) pdgs_nil))))))
    (pdss_cons (pds_expr (pd_append (dv 5) (dv 11)))
    (pdss_cons (pds_expr (pd_append (dv 6) (dv 9)))
    (pdss_one (pds_expr (pd_append (dv 7) (dv 10))))))) pdss_nil))))
    (pdss_one (pds_frz 7 (pds_frz 6 (pds_frz 5 (pds_ret (pd_tup (pda_cons (dv 5) (pda_cons (dv 6) (pda_cons (dv 7) pda_nil)))))))))))) r_law_twin_rows
theorem ok_law_walked (T : Txt K mg) (o_law_begin : DefOk P w K mg base (1) "_law_begin" 1 sp_law_begin) (o_law_steps : DefOk P w K mg base (4) "_law_steps" 2 sp_law_steps) : DefOk P w K mg base (5) "_law_walked" 3 sp_law_walked :=
  have sc := sc_law_walked
  def_ok (N := N_law_walked) (t := t_law_walked) T.d_law_walked sc (fun _ _ _ _ _ _ us hl => match us, hl with | [_, _, _], _ => rfl) (fun f cdv A outer s H E hr => (pdss_cons (pds_set (i := 3) sc.nd (pd_lstM (pda_cons (pd_call (o_law_begin.mono (by decide)) hr (pda_cons (dv 0) pda_nil)) pda_nil)))
    (pdss_cons (pds_if (pdt_cmp (opd_ne hr) (pd_bltn calld_len T.g_len (dv 1)) (pd_bltn calld_len T.g_len (dv 2))) (pdss_one (pds_ret pd_non)) pdss_nil)
    (pdss_cons (pds_for PassesOwn.never (pdi_zip T.g_zip (pda_cons (dv 1) (pda_cons (dv 2) pda_nil))) (pdg_tup (pdgs_cons (pdg_name (i := 4) sc.nd) (pdgs_cons (pdg_name (i := 5) sc.nd) pdgs_nil))) (pdss_cons (pds_setLc (i := 6) (own := [("_law_mark", 7), ("_law_one", 8), ("_law_later", 9)]) sc.nd (sw_true rfl rfl rfl (by decide +kernel)) (pdi_lst (pd_call (o_law_steps.mono (by decide)) hr (pda_cons (dv 0) (pda_cons (pd_ix hr (dv 3) (pd_neg pd_int)) pda_nil)))) (blkOk_by (own := [("_law_mark", 7), ("_law_one", 8), ("_law_later", 9)]) (N := N_law_walked) (sc := defScope s_law_walked) (by decide +kernel)) (fun _ _ _ _ _ => (pdg_tup (pdgs_cons (pdg_name (i := 7) sc.nd) (pdgs_cons (pdg_name (i := 8) sc.nd) (pdgs_cons (pdg_name (i := 9) sc.nd) pdgs_nil))))) (fun _ _ _ _ _ => (pdts_one (pdt_cmp (opd_eq hr) (pd_tup (pda_cons (dv 7) (pda_cons (dv 8) pda_nil))) (pd_tup (pda_cons (dv 4) (pda_cons (dv 5) pda_nil)))))) (fun _ _ _ _ _ => (dv 9)))
    (pdss_cons (pds_if (pdt_cmp (opd_eq hr) (dv 6) (pd_lst pda_nil)) (pdss_one (pds_ret pd_non)) pdss_nil)
    (pdss_one (pds_expr (pd_append (dv 3) (pd_ix hr (dv 6) pd_int)))))))
    (pdss_one (pds_frz 3 (pds_ret (dv 3)))))))) r_law_walked
theorem ok_law_differs (T : Txt K mg) : DefOk P w K mg base (1) "_law_differs" 3 sp_law_differs :=
  have sc := sc_law_differs
  def_ok (N := N_law_differs) (t := t_law_differs) T.d_law_differs sc (fun _ _ _ _ _ _ us hl => match us, hl with | [_, _, _], _ => rfl) (fun f cdv A outer s H E hr => (pdss_one (pds_ret (pd_if (pdt_cmp opd_is (dv 2) pd_non) (pd_cmp (opd_ne hr) (dv 0) (dv 1)) (pd_cmp (opd_ne hr) (pd_cmp (opd_eq hr) (dv 0) (dv 2)) (pd_cmp (opd_eq hr) (dv 1) (dv 2))))))) r_law_differs
theorem ok_law_doubt_ok (T : Txt K mg) (o_law_walked : DefOk P w K mg base (5) "_law_walked" 3 sp_law_walked) (o_law_alike : DefOk P w K mg base (1) "_law_alike" 4 sp_law_alike) (o_law_differs : DefOk P w K mg base (1) "_law_differs" 3 sp_law_differs) : DefOk P w K mg base (6) "_law_doubt_ok" 7 sp_law_doubt_ok :=
  have sc := sc_law_doubt_ok
  def_ok (N := N_law_doubt_ok) (t := t_law_doubt_ok) T.d_law_doubt_ok sc (fun _ _ _ _ _ _ us hl => match us, hl with | [_, _, _, _, _, _, _], _ => rfl) (fun f cdv A outer s H E hr => (pdss_cons (pds_set (i := 7) sc.nd (pd_op opd_subI (pd_op opd_subI (pd_bltn calld_len T.g_len (dv 1)) pd_int) (dv 4)))
    (pdss_cons (pds_if (PW.pt (pdw_or (pdt_cmp opd_lt (dv 4) pd_int) (pdw_or (pdt_cmp opd_lt (dv 7) pd_int) (pdw_or (pdt_cmp opd_is (pd_call (o_law_walked.mono (by decide)) hr (pda_cons (dv 0) (pda_cons (dv 1) (pda_cons (dv 2) pda_nil)))) pd_non) (pdw_or1 (pdt_cmp opd_is (pd_call (o_law_walked.mono (by decide)) hr (pda_cons (dv 0) (pda_cons (dv 1) (pda_cons (dv 3) pda_nil)))) pd_non)))))) (pdss_one (pds_ret pd_bl)) pdss_nil)
    (pdss_cons (pds_setLc (i := 8) (own := [("_law_k", 9)]) sc.nd (sw_true rfl rfl rfl (by decide +kernel)) (pdi_range1 T.g_range (pda_cons (pd_bltn calld_len T.g_len (dv 1)) pda_nil)) (blkOk_by (own := [("_law_k", 9)]) (N := N_law_doubt_ok) (sc := defScope s_law_doubt_ok) (by decide +kernel)) (fun _ _ _ _ _ => (pdg_name (i := 9) sc.nd)) (fun _ _ _ _ _ => pdts_nil) (fun _ _ _ _ _ => (pd_call (o_law_alike.mono (by decide)) hr (pda_cons (pd_ix hr (dv 2) (dv 9)) (pda_cons (pd_ix hr (dv 3) (dv 9)) (pda_cons (pd_ix hr (dv 1) (dv 9)) (pda_cons (dv 6) pda_nil)))))))
    (pdss_one (pds_ret (pd_and (pd_bltn calld_all T.g_all (dv 8)) (pd_one (pd_call (o_law_differs.mono (by decide)) hr (pda_cons (pd_ix hr (dv 2) (dv 7)) (pda_cons (pd_ix hr (dv 3) (dv 7)) (pda_cons (dv 5) pda_nil)))))))))))) r_law_doubt_ok
theorem ok_is_name (T : Txt K mg) : DefOk P w K mg base (1) "is_name" 1 sp_is_name :=
  have sc := sc_is_name
  def_ok (N := N_is_name) (t := t_is_name) T.d_is_name sc (fun _ _ _ _ _ _ us hl => match us, hl with | [_], _ => rfl) (fun f cdv A outer s H E hr => (pdss_one (pds_ret (pd_and (pd_chain opd_lt opd_le pd_int (pd_bltn calld_len T.g_len (dv 0)) (pd_globI rfl T.c_LONGEST.choose_spec)) (pd_one (pd_bltn calld_all T.g_all (pd_lc (own := [("sign", 1)]) sc.nd (pdi_str (dv 0)) (blkOk_by (own := [("sign", 1)]) (N := N_is_name) (sc := defScope s_is_name) (by decide +kernel)) (fun _ _ _ _ _ => (pdg_name (i := 1) sc.nd)) (fun _ _ _ _ _ => pdts_nil) (fun _ _ _ _ _ => (pd_cmp (opd_in hr) (dv 1) (pd_globS rfl T.c_LETTERS.choose_spec)))))))))) r_is_name
theorem ok_is_sign (T : Txt K mg) : DefOk P w K mg base (1) "is_sign" 1 sp_is_sign :=
  have sc := sc_is_sign
  def_ok (N := N_is_sign) (t := t_is_sign) T.d_is_sign sc (fun _ _ _ _ _ _ us hl => match us, hl with | [_], _ => rfl) (fun f cdv A outer s H E hr => (pdss_one (pds_ret (pd_and (pd_cmp (opd_eq hr) (pd_bltn calld_len T.g_len (dv 0)) pd_int) (pd_one (pd_cmp (opd_in hr) (dv 0) (pd_globS rfl T.c_LETTERS.choose_spec))))))) r_is_sign
theorem ok_is_arrow (T : Txt K mg) (o_is_sign : DefOk P w K mg base (1) "is_sign" 1 sp_is_sign) : DefOk P w K mg base (2) "is_arrow" 1 sp_is_arrow :=
  have sc := sc_is_arrow
  def_ok (N := N_is_arrow) (t := t_is_arrow) T.d_is_arrow sc (fun _ _ _ _ _ _ us hl => match us, hl with | [_], _ => rfl) (fun f cdv A outer s H E hr => (pdss_cons (pds_asg (dv 0) (pdg_tup (pdgs_cons (pdg_name (i := 1) sc.nd) (pdgs_cons (pdg_name (i := 2) sc.nd) (pdgs_cons (pdg_name (i := 3) sc.nd) pdgs_nil)))))
    (pdss_one (pds_ret (pd_and (pd_chain opd_le opd_le pd_int (dv 1) (pd_globI rfl T.c_MOST_PLACE.choose_spec)) (pd_and (pd_call (o_is_sign.mono (by decide)) hr (pda_cons (dv 2) pda_nil)) (pd_one (pd_chain opd_le opd_le pd_int (dv 3) (pd_globI rfl T.c_MOST_PLACE.choose_spec))))))))) r_is_arrow
theorem ok_is_writer (T : Txt K mg) (o_is_name : DefOk P w K mg base (1) "is_name" 1 sp_is_name) (o_is_arrow : DefOk P w K mg base (2) "is_arrow" 1 sp_is_arrow) : DefOk P w K mg base (3) "is_writer" 1 sp_is_writer :=
  have sc := sc_is_writer
  def_ok (N := N_is_writer) (t := t_is_writer) T.d_is_writer sc (fun _ _ _ _ _ _ us hl => match us, hl with | [_], _ => rfl) (fun f cdv A outer s H E hr => (pdss_cons (pds_if (pdt_cmp (opd_ne hr) (pd_bltn calld_len T.g_len (dv 0)) pd_int) (pdss_one (pds_ret pd_bl)) pdss_nil)
    (pdss_cons (pds_asg (dv 0) (pdg_tup (pdgs_cons (pdg_name (i := 2) sc.nd) (pdgs_cons (pdg_name (i := 3) sc.nd) (pdgs_cons (pdg_name (i := 4) sc.nd) (pdgs_cons (pdg_name (i := 5) sc.nd) pdgs_nil))))))
    (pdss_cons (pds_if (PW.pt (pdw_or (pdt_not (pdt (pd_call (o_is_name.mono (by decide)) hr (pda_cons (dv 2) pda_nil)))) (pdw_or (pdt_cmp opd_gt (pd_bltn calld_len T.g_len (dv 3)) (pd_globI rfl T.c_MOST_ARROWS.choose_spec)) (pdw_or1 (pdt_not (pdt (pd_bltn calld_all T.g_all (pd_lc (own := [("arrow", 6)]) sc.nd (pdi_tup (dv 3)) (blkOk_by (own := [("arrow", 6)]) (N := N_is_writer) (sc := defScope s_is_writer) (by decide +kernel)) (fun _ _ _ _ _ => (pdg_name (i := 6) sc.nd)) (fun _ _ _ _ _ => pdts_nil) (fun _ _ _ _ _ => (pd_call (o_is_arrow.mono (by decide)) hr (pda_cons (dv 6) pda_nil))))))))))) (pdss_one (pds_ret pd_bl)) pdss_nil)
    (pdss_cons (pds_setLc (i := 1) (own := [("arrow", 6)]) sc.nd (sw_true rfl rfl rfl (by decide +kernel)) (pdi_tup (dv 3)) (blkOk_by (own := [("arrow", 6)]) (N := N_is_writer) (sc := defScope s_is_writer) (by decide +kernel)) (fun _ _ _ _ _ => (pdg_name (i := 6) sc.nd)) (fun _ _ _ _ _ => pdts_nil) (fun _ _ _ _ _ => (pd_slice (dv 6) pdo_none (pdo_some pd_int))))
    (pdss_one (pds_ret (pd_and (pd_cmp (opd_eq hr) (dv 1) (pd_sortset hr T.g_sorted T.g_set (dv 1))) (pd_and (pd_chain opd_le opd_le pd_int (dv 4) (pd_globI rfl T.c_MOST_COUNT.choose_spec)) (pd_one (pd_chain opd_le opd_le pd_int (dv 5) (pd_globI rfl T.c_MOST_COUNT.choose_spec)))))))))))) r_is_writer
theorem ok_need_writers (T : Txt K mg) (o_is_writer : DefOk P w K mg base (3) "is_writer" 1 sp_is_writer) : DefOk P w K mg base (4) "need_writers" 1 sp_need_writers :=
  have sc := sc_need_writers
  def_ok (N := N_need_writers) (t := t_need_writers) T.d_need_writers sc (fun _ _ _ _ _ _ us hl => match us, hl with | [_], _ => rfl) (fun f cdv A outer s H E hr => (pdss_cons (pds_for PassesOwn.never (pdi_enumA T.g_enumerate (pda_cons (dv 0) pda_nil)) (pdg_tup (pdgs_cons (pdg_name (i := 2) sc.nd) (pdgs_cons (pdg_name (i := 3) sc.nd) pdgs_nil))) (pdss_one (pds_if (pdt_not (pdt (pd_call (o_is_writer.mono (by decide)) hr (pda_cons (dv 3) pda_nil)))) (pdss_one pds_never) pdss_nil)))
    (pdss_cons (pds_setLc (i := 1) (own := [("writer", 3)]) sc.nd (sw_true rfl rfl rfl (by decide +kernel)) (pdi_seq (dv 0)) (blkOk_by (own := [("writer", 3)]) (N := N_need_writers) (sc := defScope s_need_writers) (by decide +kernel)) (fun _ _ _ _ _ => (pdg_name (i := 3) sc.nd)) (fun _ _ _ _ _ => pdts_nil) (fun _ _ _ _ _ => (pd_ix hr (dv 3) pd_int)))
    (pdss_cons (pds_for PassesOwn.never (pdi_enumA T.g_enumerate (pda_cons (dv 1) pda_nil)) (pdg_tup (pdgs_cons (pdg_name (i := 2) sc.nd) (pdgs_cons (pdg_name (i := 4) sc.nd) pdgs_nil))) (pdss_one (pds_if (pdt_cmp (opd_in hr) (dv 4) (pd_slice (dv 1) pdo_none (pdo_some (dv 2)))) (pdss_one pds_never) pdss_nil)))
    (pdss_one (pds_if (pdt_cmp opd_gt (pd_bltn calld_len T.g_len (dv 1)) (pd_globI rfl T.c_MOST_WRITERS.choose_spec)) (pdss_one pds_never) pdss_nil)))))) r_need_writers
theorem ok_Company___init__ (T : Txt K mg) (o_need_writers : DefOk P w K mg base (4) "need_writers" 1 sp_need_writers) : InitOk P w K mg base (5) CCompany "Company.__init__" s_Company___init__ ["self", "writers"] [(.tup [])] sp_Company___init__ :=
  have sc := sc_Company___init__
  init_ok (N := N_Company___init__) (t := t_Company___init__) T.d_Company___init__ sc (fun f cdv A outer s H E hr => (pdss_cons (pds_expr (pd_call (o_need_writers.mono (by decide)) hr (pda_cons (dv 1) pda_nil)))
    (pdss_one (pds_setFld (i := 0) T.k_Company (pd_type calld_tuple T.g_tuple (dv 1)) (dv 0))))) r_Company___init__
theorem mk_Company_1 (o : InitOk P w K mg base (5) CCompany "Company.__init__" s_Company___init__ ["self", "writers"] [(.tup [])] sp_Company___init__) : MkOk P w K mg base (5) CCompany 1 [] sp_Company___init__ :=
  o.make 1 1 (by simp) rfl (fun T kV doc pm an cdv ct us its hu hi => match us, its, hu, hi with | [_, _], [_], _, _ => ⟨_, rfl, rfl⟩)
theorem ok_Company_begin (T : Txt K mg) : MethOk P w K mg base (1) CCompany "begin" 1 sp_Company_begin :=
  have sc := sc_Company_begin
  meth_ok (N := N_Company_begin) (t := t_Company_begin) T.d_Company_begin sc (fun _ _ _ _ _ _ us hl => match us, hl with | [_], _ => rfl) (fun f cdv A outer s H E hr => (pdss_one (pds_ret (pd_tup (pda_cons (pd_op opd_mulD (pd_tup (pda_cons pd_int pda_nil)) (pd_bltn calld_len T.g_len (pd_fld (i := 0) T.k_Company (dv 0)))) (pda_cons (pd_op opd_mulD (pd_tup (pda_cons pd_int pda_nil)) (pd_bltn calld_len T.g_len (pd_fld (i := 0) T.k_Company (dv 0)))) (pda_cons (pd_globT rfl T.c_NOBODY) pda_nil))))))) r_Company_begin
theorem ok_arrows_at (T : Txt K mg) : DefOk P w K mg base (1) "arrows_at" 2 sp_arrows_at :=
  have sc := sc_arrows_at
  def_ok (N := N_arrows_at) (t := t_arrows_at) T.d_arrows_at sc (fun _ _ _ _ _ _ us hl => match us, hl with | [_, _], _ => rfl) (fun f cdv A outer s H E hr => (pdss_one (pds_ret (pd_dc (own := [("at", 2), ("sign", 3), ("to", 4)]) sc.nd (pdi_tup (pd_ix hr (dv 0) pd_int)) (blkOk_by (own := [("at", 2), ("sign", 3), ("to", 4)]) (N := N_arrows_at) (sc := defScope s_arrows_at) (by decide +kernel)) (fun _ _ _ _ _ => (pdg_tup (pdgs_cons (pdg_name (i := 2) sc.nd) (pdgs_cons (pdg_name (i := 3) sc.nd) (pdgs_cons (pdg_name (i := 4) sc.nd) pdgs_nil))))) (fun _ _ _ _ _ => (pdts_one (pdt_cmp (opd_eq hr) (dv 2) (dv 1)))) (fun _ _ _ _ _ => (dv 3)) (fun _ _ _ _ _ => (dv 4)))))) r_arrows_at
theorem ok_is_done (T : Txt K mg) (o_arrows_at : DefOk P w K mg base (1) "arrows_at" 2 sp_arrows_at) : DefOk P w K mg base (2) "is_done" 2 sp_is_done :=
  have sc := sc_is_done
  def_ok (N := N_is_done) (t := t_is_done) T.d_is_done sc (fun _ _ _ _ _ _ us hl => match us, hl with | [_, _], _ => rfl) (fun f cdv A outer s H E hr => (pdss_one (pds_ret (pd_cmp (opd_eqK hr) (pd_call (o_arrows_at.mono (by decide)) hr (pda_cons (dv 0) (pda_cons (dv 1) pda_nil))) pd_dctF0)))) r_is_done
theorem ok_Company_counts (T : Txt K mg) (o_is_done : DefOk P w K mg base (2) "is_done" 2 sp_is_done) : MethOk P w K mg base (3) CCompany "counts" 3 sp_Company_counts :=
  have sc := sc_Company_counts
  meth_ok (N := N_Company_counts) (t := t_Company_counts) T.d_Company_counts sc (fun _ _ _ _ _ _ us hl => match us, hl with | [_, _, _], _ => rfl) (fun f cdv A outer s H E hr => (pdss_one (pds_ret (pd_and (pd_cmp opd_gt (pd_ix hr (pd_ix hr (pd_fld (i := 0) T.k_Company (dv 0)) (dv 1)) pd_int) pd_int) (pd_one (pd_not (pd_call (o_is_done.mono (by decide)) hr (pda_cons (pd_ix hr (pd_fld (i := 0) T.k_Company (dv 0)) (dv 1)) (pda_cons (dv 2) pda_nil))))))))) r_Company_counts
theorem ok_Company_may_write (T : Txt K mg) (o_Company_counts : MethOk P w K mg base (3) CCompany "counts" 3 sp_Company_counts) : MethOk P w K mg base (4) CCompany "may_write" 3 sp_Company_may_write :=
  have sc := sc_Company_may_write
  meth_ok (N := N_Company_may_write) (t := t_Company_may_write) T.d_Company_may_write sc (fun _ _ _ _ _ _ us hl => match us, hl with | [_, _, _], _ => rfl) (fun f cdv A outer s H E hr => (pdss_cons (pds_asg (dv 1) (pdg_tup (pdgs_cons (pdg_name (i := 5) sc.nd) (pdgs_cons (pdg_name (i := 6) sc.nd) (pdgs_cons (pdg_name (i := 7) sc.nd) pdgs_nil)))))
    (pdss_cons (pds_set (i := 3) sc.nd (pd_ix hr (pd_ix hr (pd_fld (i := 0) T.k_Company (dv 0)) (dv 2)) pd_int))
    (pdss_cons (pds_if (PW.pt (pdw_and (pdt_cmp opd_gt (dv 3) pd_int) (pdw_and1 (pdt_cmp (opd_eq hr) (dv 7) (pd_tup (pda_cons (dv 2) (pda_cons (dv 3) pda_nil))))))) (pdss_one (pds_ret pd_bl)) pdss_nil)
    (pdss_cons (pds_setLc (i := 4) (own := [("at", 8)]) sc.nd (sw_true rfl rfl rfl (by decide +kernel)) (pdi_range1 T.g_range (pda_cons (pd_bltn calld_len T.g_len (pd_fld (i := 0) T.k_Company (dv 0))) pda_nil)) (blkOk_by (own := [("at", 8)]) (N := N_Company_may_write) (sc := defScope s_Company_may_write) (by decide +kernel)) (fun _ _ _ _ _ => (pdg_name (i := 8) sc.nd)) (fun _ _ _ _ _ => (pdts_one (PW.pt (pdw_and (pdt_cmp (opd_ne hr) (dv 8) (dv 2)) (pdw_and1 (pdt (pd_meth (o_Company_counts.mono (by decide)) T.k_Company hr (dv 0) (pda_cons (dv 8) (pda_cons (pd_ix hr (dv 5) (dv 8)) pda_nil))))))))) (fun _ _ _ _ _ => (dv 8)))
    (pdss_one (pds_ret (pd_bltn calld_all T.g_all (pd_lc (own := [("at", 8)]) sc.nd (pdi_lst (dv 4)) (blkOk_by (own := [("at", 8)]) (N := N_Company_may_write) (sc := defScope s_Company_may_write) (by decide +kernel)) (fun _ _ _ _ _ => (pdg_name (i := 8) sc.nd)) (fun _ _ _ _ _ => pdts_nil) (fun _ _ _ _ _ => (pd_cmp opd_lt (pd_ix hr (dv 6) (dv 8)) (pd_ix hr (pd_ix hr (pd_fld (i := 0) T.k_Company (dv 0)) (dv 8)) pd_int)))))))))))) r_Company_may_write
theorem ok_Company_behind (T : Txt K mg) (o_Company_counts : MethOk P w K mg base (3) CCompany "counts" 3 sp_Company_counts) : MethOk P w K mg base (4) CCompany "behind" 4 sp_Company_behind :=
  have sc := sc_Company_behind
  meth_ok (N := N_Company_behind) (t := t_Company_behind) T.d_Company_behind sc (fun _ _ _ _ _ _ us hl => match us, hl with | [_, _, _, _], _ => rfl) (fun f cdv A outer s H E hr => (pdss_cons (pds_asg (dv 1) (pdg_tup (pdgs_cons (pdg_name (i := 7) sc.nd) (pdgs_cons (pdg_name (i := 8) sc.nd) (pdgs_cons (pdg_tup (pdgs_cons (pdg_name (i := 9) sc.nd) (pdgs_cons (pdg_name (i := 10) sc.nd) pdgs_nil))) pdgs_nil)))))
    (pdss_cons (pds_set (i := 4) sc.nd (pd_op opd_add (pd_op opd_add (pd_slice (dv 7) pdo_none (pdo_some (dv 2))) (pd_tup (pda_cons (dv 3) pda_nil))) (pd_slice (dv 7) (pdo_some (pd_op opd_add (dv 2) pd_int)) pdo_none)))
    (pdss_cons (pds_setLc (i := 5) (own := [("at", 11), ("wait", 12)]) sc.nd (sw_true rfl rfl rfl (by decide +kernel)) (pdi_enumA T.g_enumerate (pda_cons (dv 8) pda_nil)) (blkOk_by (own := [("at", 11), ("wait", 12)]) (N := N_Company_behind) (sc := defScope s_Company_behind) (by decide +kernel)) (fun _ _ _ _ _ => (pdg_tup (pdgs_cons (pdg_name (i := 11) sc.nd) (pdgs_cons (pdg_name (i := 12) sc.nd) pdgs_nil)))) (fun _ _ _ _ _ => pdts_nil) (fun _ _ _ _ _ => (pd_if (PW.pt (pdw_and (pdt_cmp (opd_ne hr) (dv 11) (dv 2)) (pdw_and1 (pdt (pd_meth (o_Company_counts.mono (by decide)) T.k_Company hr (dv 0) (pda_cons (dv 11) (pda_cons (pd_ix hr (dv 7) (dv 11)) pda_nil))))))) (pd_op opd_add (dv 12) pd_int) pd_int)))
    (pdss_cons (pds_set (i := 6) sc.nd (pd_globT rfl T.c_NOBODY))
    (pdss_cons (pds_if (pdt_cmp opd_gt (pd_ix hr (pd_ix hr (pd_fld (i := 0) T.k_Company (dv 0)) (dv 2)) pd_int) pd_int) (pdss_one (pds_set (i := 6) sc.nd (pd_tup (pda_cons (dv 2) (pda_cons (pd_if (pdt_cmp (opd_eq hr) (dv 9) (dv 2)) (pd_op opd_add (dv 10) pd_int) pd_int) pda_nil))))) pdss_nil)
    (pdss_one (pds_ret (pd_tup (pda_cons (dv 4) (pda_cons (pd_type calld_tuple T.g_tuple (dv 5)) (pda_cons (dv 6) pda_nil)))))))))))) r_Company_behind
theorem ok_Company_steps (T : Txt K mg) (o_Company_may_write : MethOk P w K mg base (4) CCompany "may_write" 3 sp_Company_may_write) (o_arrows_at : DefOk P w K mg base (1) "arrows_at" 2 sp_arrows_at) (o_Company_behind : MethOk P w K mg base (4) CCompany "behind" 4 sp_Company_behind) : MethOk P w K mg base (5) CCompany "steps" 2 sp_Company_steps :=
  have sc := sc_Company_steps
  meth_ok (N := N_Company_steps) (t := t_Company_steps) T.d_Company_steps sc (fun _ _ _ _ _ _ us hl => match us, hl with | [_, _], _ => rfl) (fun f cdv A outer s H E hr => (pdss_cons (pds_set (i := 2) sc.nd (pd_lstM pda_nil))
    (pdss_cons (pds_for PassesOwn.never (pdi_enumA T.g_enumerate (pda_cons (pd_fld (i := 0) T.k_Company (dv 0)) pda_nil)) (pdg_tup (pdgs_cons (pdg_name (i := 3) sc.nd) (pdgs_cons (pdg_name (i := 4) sc.nd) pdgs_nil))) (pdss_one (pds_if (pdt (pd_meth (o_Company_may_write.mono (by decide)) T.k_Company hr (dv 0) (pda_cons (dv 1) (pda_cons (dv 3) pda_nil)))) (pdss_one (pds_for PassesOwn.never (pdi_items (pd_call (o_arrows_at.mono (by decide)) hr (pda_cons (dv 4) (pda_cons (pd_ix hr (pd_ix hr (dv 1) pd_int) (dv 3)) pda_nil)))) (pdg_tup (pdgs_cons (pdg_name (i := 5) sc.nd) (pdgs_cons (pdg_name (i := 6) sc.nd) pdgs_nil))) (pdss_one (pds_expr (pd_append (dv 2) (pd_tup (pda_cons (dv 5) (pda_cons (dv 3) (pda_cons (pd_meth (o_Company_behind.mono (by decide)) T.k_Company hr (dv 0) (pda_cons (dv 1) (pda_cons (dv 3) (pda_cons (dv 6) pda_nil)))) pda_nil))))))))) pdss_nil)))
    (pdss_one (pds_frz 2 (pds_ret (pd_lcM (own := [("sign", 5), ("spot", 3), ("later", 7)]) sc.nd (pdi_lst (pd_bltn (calld_sort hr) T.g_sorted (dv 2))) (blkOk_by (own := [("sign", 5), ("spot", 3), ("later", 7)]) (N := N_Company_steps) (sc := defScope s_Company_steps) (by decide +kernel)) (fun _ _ _ _ _ => (pdg_tup (pdgs_cons (pdg_name (i := 5) sc.nd) (pdgs_cons (pdg_name (i := 3) sc.nd) (pdgs_cons (pdg_name (i := 7) sc.nd) pdgs_nil))))) (fun _ _ _ _ _ => pdts_nil) (fun _ _ _ _ _ => (pd_tup (pda_cons (dv 5) (pda_cons (pd_ix hr (pd_ix hr (pd_fld (i := 0) T.k_Company (dv 0)) (dv 3)) pd_int) (pda_cons (dv 7) pda_nil)))))))))))) r_Company_steps
theorem ok_stands_of (T : Txt K mg) (o_Company_begin : MethOk P w K mg base (1) CCompany "begin" 1 sp_Company_begin) (o_Company_steps : MethOk P w K mg base (5) CCompany "steps" 2 sp_Company_steps) : DefOk P w K mg base (6) "stands_of" 3 sp_stands_of :=
  have sc := sc_stands_of
  def_ok (N := N_stands_of) (t := t_stands_of) T.d_stands_of sc (fun _ _ _ _ _ _ us hl => match us, hl with | [_, _, _], _ => rfl) (fun f cdv A outer s H E hr => (pdss_cons (pds_if (pdt_cmp (opd_ne hr) (pd_bltn calld_len T.g_len (dv 2)) (pd_bltn calld_len T.g_len (dv 1))) (pdss_one (pds_ret pd_non)) pdss_nil)
    (pdss_cons (pds_set (i := 3) sc.nd (pd_lstM (pda_cons (pd_meth0 (o_Company_begin.mono (by decide)) T.k_Company hr (dv 0)) pda_nil)))
    (pdss_cons (pds_for PassesOwn.never (pdi_zip T.g_zip (pda_cons (dv 1) (pda_cons (dv 2) pda_nil))) (pdg_tup (pdgs_cons (pdg_name (i := 4) sc.nd) (pdgs_cons (pdg_name (i := 5) sc.nd) pdgs_nil))) (pdss_cons (pds_setLc (i := 6) (own := [("seen", 7), ("other", 8), ("to", 9)]) sc.nd (sw_true rfl rfl rfl (by decide +kernel)) (pdi_lst (pd_frz (pd_meth (o_Company_steps.mono (by decide)) T.k_Company hr (dv 0) (pda_cons (pd_ix hr (dv 3) (pd_neg pd_int)) pda_nil)))) (blkOk_by (own := [("seen", 7), ("other", 8), ("to", 9)]) (N := N_stands_of) (sc := defScope s_stands_of) (by decide +kernel)) (fun _ _ _ _ _ => (pdg_tup (pdgs_cons (pdg_name (i := 7) sc.nd) (pdgs_cons (pdg_name (i := 8) sc.nd) (pdgs_cons (pdg_name (i := 9) sc.nd) pdgs_nil))))) (fun _ _ _ _ _ => (pdts_one (pdt_cmp (opd_eq hr) (pd_tup (pda_cons (dv 7) (pda_cons (dv 8) pda_nil))) (pd_tup (pda_cons (dv 4) (pda_cons (dv 5) pda_nil)))))) (fun _ _ _ _ _ => (dv 9)))
    (pdss_cons (pds_if (pdt_cmp (opd_eq hr) (dv 6) (pd_lst pda_nil)) (pdss_one (pds_ret pd_non)) pdss_nil)
    (pdss_one (pds_expr (pd_append (dv 3) (pd_ix hr (dv 6) pd_int)))))))
    (pdss_one (pds_frz 3 (pds_ret (dv 3)))))))) r_stands_of
theorem ok_is_alike (T : Txt K mg) : DefOk P w K mg base (1) "is_alike" 4 sp_is_alike :=
  have sc := sc_is_alike
  def_ok (N := N_is_alike) (t := t_is_alike) T.d_is_alike sc (fun _ _ _ _ _ _ us hl => match us, hl with | [_, _, _, _], _ => rfl) (fun f cdv A outer s H E hr => (pdss_one (pds_ret (pd_or (pd_cmp (opd_eq hr) (dv 0) (dv 1)) (pd_one (pd_and (pd_cmp (opd_notin hr) (pd_tup (pda_cons (dv 0) (pda_cons (dv 2) pda_nil))) (dv 3)) (pd_one (pd_cmp (opd_notin hr) (pd_tup (pda_cons (dv 1) (pda_cons (dv 2) pda_nil))) (dv 3))))))))) r_is_alike
theorem ok_twin_stands (T : Txt K mg) (o_stands_of : DefOk P w K mg base (6) "stands_of" 3 sp_stands_of) (o_is_alike : DefOk P w K mg base (1) "is_alike" 4 sp_is_alike) : DefOk P w K mg base (7) "twin_stands" 5 sp_twin_stands :=
  have sc := sc_twin_stands
  def_ok (N := N_twin_stands) (t := t_twin_stands) T.d_twin_stands sc (fun _ _ _ _ _ _ us hl => match us, hl with | [_, _, _, _, _], _ => rfl) (fun f cdv A outer s H E hr => (pdss_cons (pds_par (i := 6) (j := 7) sc.nd (pda_cons (pd_call (o_stands_of.mono (by decide)) hr (pda_cons (dv 0) (pda_cons (dv 1) (pda_cons (dv 2) pda_nil)))) (pda_cons (pd_call (o_stands_of.mono (by decide)) hr (pda_cons (dv 0) (pda_cons (dv 1) (pda_cons (dv 3) pda_nil)))) pda_nil)))
    (pdss_cons (pds_if (PW.pt (pdw_or (pdt_cmp opd_is (dv 6) pd_non) (pdw_or1 (pdt_cmp opd_is (dv 7) pd_non)))) (pdss_one (pds_ret pd_non)) pdss_nil)
    (pdss_cons (pds_setLc (i := 5) (own := [("sign", 8), ("name", 9), ("beside", 10)]) sc.nd (sw_true rfl rfl rfl (by decide +kernel)) (pdi_zip3 T.g_zip (pda_cons (dv 1) (pda_cons (dv 2) (pda_cons (dv 3) pda_nil)))) (blkOk_by (own := [("sign", 8), ("name", 9), ("beside", 10)]) (N := N_twin_stands) (sc := defScope s_twin_stands) (by decide +kernel)) (fun _ _ _ _ _ => (pdg_tup (pdgs_cons (pdg_name (i := 8) sc.nd) (pdgs_cons (pdg_name (i := 9) sc.nd) (pdgs_cons (pdg_name (i := 10) sc.nd) pdgs_nil))))) (fun _ _ _ _ _ => pdts_nil) (fun _ _ _ _ _ => (pd_call (o_is_alike.mono (by decide)) hr (pda_cons (dv 9) (pda_cons (dv 10) (pda_cons (dv 8) (pda_cons (dv 4) pda_nil)))))))
    (pdss_one (pds_ret (pd_if (pdt (pd_bltn calld_all T.g_all (dv 5))) (pd_lstZip T.g_list T.g_zip (pda_cons (dv 6) (pda_cons (dv 7) pda_nil))) pd_non))))))) r_twin_stands
theorem ok_differs (T : Txt K mg) : DefOk P w K mg base (1) "differs" 3 sp_differs :=
  have sc := sc_differs
  def_ok (N := N_differs) (t := t_differs) T.d_differs sc (fun _ _ _ _ _ _ us hl => match us, hl with | [_, _, _], _ => rfl) (fun f cdv A outer s H E hr => (pdss_one (pds_ret (pd_if (pdt_cmp opd_is (dv 2) pd_non) (pd_cmp (opd_ne hr) (dv 0) (dv 1)) (pd_cmp (opd_ne hr) (pd_cmp (opd_eq hr) (dv 0) (dv 2)) (pd_cmp (opd_eq hr) (dv 1) (dv 2))))))) r_differs
theorem ok_is_doubt (T : Txt K mg) (o_twin_stands : DefOk P w K mg base (7) "twin_stands" 5 sp_twin_stands) (o_differs : DefOk P w K mg base (1) "differs" 3 sp_differs) : FnKOk P w K mg base (8) "is_doubt" s_is_doubt ["company", "strip", "one", "other", "many", "who", "stamps"] [("who", .non), ("stamps", (.tup []))] sp_is_doubt :=
  have sc := sc_is_doubt
  fnK_ok (N := N_is_doubt) (t := t_is_doubt) T.d_is_doubt sc (fun f cdv A outer s H E hr => (pdss_cons (pds_set (i := 7) sc.nd (pd_op opd_subI (pd_op opd_subI (pd_bltn calld_len T.g_len (dv 1)) pd_int) (dv 4)))
    (pdss_cons (pds_if (PW.pt (pdw_or (pdt_cmp opd_lt (dv 4) pd_int) (pdw_or (pdt_cmp opd_lt (dv 7) pd_int) (pdw_or1 (pdt_cmp opd_is (pd_call (o_twin_stands.mono (by decide)) hr (pda_cons (dv 0) (pda_cons (dv 1) (pda_cons (dv 2) (pda_cons (dv 3) (pda_cons (dv 6) pda_nil)))))) pd_non))))) (pdss_one (pds_ret pd_bl)) pdss_nil)
    (pdss_one (pds_ret (pd_call (o_differs.mono (by decide)) hr (pda_cons (pd_ix hr (dv 2) (dv 7)) (pda_cons (pd_ix hr (dv 3) (dv 7)) (pda_cons (dv 5) pda_nil))))))))) r_is_doubt
theorem cg_is_doubt_5_stamps_who (o : FnKOk P w K mg base (8) "is_doubt" s_is_doubt ["company", "strip", "one", "other", "many", "who", "stamps"] [("who", .non), ("stamps", (.tup []))] sp_is_doubt) : CallGOk P w K mg base (8) "is_doubt" 5 ["stamps", "who"] (fun (ds es : List D) => ds ++ es.reverse) sp_is_doubt :=
  o.call 5 ["stamps", "who"] [] (fun ds ms es => ds ++ es.reverse) _ (by simp) (by simp) (fun _ _ => rfl) (fun ds es l1 l2 => by simp only [List.length_append, List.length_reverse, List.length_cons, List.length_nil] at *; omega) (fun a b c => a.append c.reverse) (fun _ _ _ _ _ _ _ _ a b c => a.append c.reverse) (fun D doc pm an cdv ct us mv ws l1 l2 l3 => match us, mv, ws, l1, l2, l3 with | [_, _, _, _, _], [], [_, _], _, _, _ => rfl)
theorem cg_is_doubt_5_who_stamps (o : FnKOk P w K mg base (8) "is_doubt" s_is_doubt ["company", "strip", "one", "other", "many", "who", "stamps"] [("who", .non), ("stamps", (.tup []))] sp_is_doubt) : CallGOk P w K mg base (8) "is_doubt" 5 ["who", "stamps"] (fun (ds es : List D) => ds ++ es) sp_is_doubt :=
  o.call 5 ["who", "stamps"] [] (fun ds ms es => ds ++ (ms ++ es)) _ (by simp) (by simp) (fun _ _ => rfl) (fun ds es l1 l2 => by simp only [List.length_append, List.length_reverse, List.length_cons, List.length_nil] at *; omega) (fun a b c => a.append (b.append c)) (fun _ _ _ _ _ _ _ _ a b c => a.append (b.append c)) (fun D doc pm an cdv ct us mv ws l1 l2 l3 => match us, mv, ws, l1, l2, l3 with | [_, _, _, _, _], [], [_, _], _, _, _ => rfl)
theorem ok_law_like {n : Nat} (T : Txt K mg) (o_law_like : DefOk P w K mg base (0 + n) "_law_like" 2 (sp_law_like n)) : DefOk P w K mg base (0 + n + 1) "_law_like" 2 (sp_law_like (n + 1)) :=
  have sc := sc_law_like
  def_ok (N := N_law_like) (t := t_law_like n) T.d_law_like sc (fun _ _ _ _ _ _ us hl => match us, hl with | [_, _], _ => rfl) (fun f cdv A outer s H E hr => (pdss_cons (pds_if (pdt (pd_isi2 .list .tuple T.g_isinstance (dv 1) T.g_list T.g_tuple)) (pdss_cons (pds_if (PW.pt (pdw_or (pdt_cmp (opd_ne hr) (pd_isi .list T.g_isinstance (dv 0) T.g_list) (pd_isi .list T.g_isinstance (dv 1) T.g_list)) (pdw_or1 (pdt_cmp (opd_ne hr) (pd_isi .tuple T.g_isinstance (dv 0) T.g_tuple) (pd_isi .tuple T.g_isinstance (dv 1) T.g_tuple))))) (pdss_one (pds_ret pd_bl)) pdss_nil)
    (pdss_one (pds_ret (pd_and (pd_cmp (opd_eq hr) (pd_bltn calld_len T.g_len (dv 0)) (pd_bltn calld_len T.g_len (dv 1))) (pd_one (pd_bltn calld_all T.g_all (pd_lc (own := [("_law_one", 2), ("_law_other", 3)]) sc.nd (pdi_zip T.g_zip (pda_cons (dv 0) (pda_cons (dv 1) pda_nil))) (blkOk_by (own := [("_law_one", 2), ("_law_other", 3)]) (N := N_law_like) (sc := defScope s_law_like) (by decide +kernel)) (fun _ _ _ _ _ => (pdg_tup (pdgs_cons (pdg_name (i := 2) sc.nd) (pdgs_cons (pdg_name (i := 3) sc.nd) pdgs_nil)))) (fun _ _ _ _ _ => pdts_nil) (fun _ _ _ _ _ => (pd_call o_law_like hr (pda_cons (dv 2) (pda_cons (dv 3) pda_nil))))))))))) pdss_nil)
    (pdss_cons (pds_if (PW.pt (pdw_or (pdt_cmp opd_is (dv 0) pd_non) (pdw_or1 (pdt_cmp opd_is (dv 1) pd_non)))) (pdss_one (pds_ret (pd_and (pd_cmp opd_is (dv 0) pd_non) (pd_one (pd_cmp opd_is (dv 1) pd_non))))) pdss_nil)
    (pdss_cons (pds_if (PW.pt (pdw_or (pdt_cmp (opd_ne hr) (pd_isi .bool T.g_isinstance (dv 0) T.g_bool) (pd_isi .bool T.g_isinstance (dv 1) T.g_bool)) (pdw_or1 (pdt_cmp (opd_ne hr) (pd_isi .int T.g_isinstance (dv 0) T.g_int) (pd_isi .int T.g_isinstance (dv 1) T.g_int))))) (pdss_one (pds_ret pd_bl)) pdss_nil)
    (pdss_one (pds_ret (pd_and (pd_cmp (opd_eq hr) (pd_isi .str T.g_isinstance (dv 0) T.g_str) (pd_isi .str T.g_isinstance (dv 1) T.g_str)) (pd_one (pd_cmp (opd_eq hr) (dv 0) (dv 1)))))))))) (r_law_like n)
theorem oks_law_like (T : Txt K mg) : ∀ n, DefOk P w K mg base (0 + n) "_law_like" 2 (sp_law_like n)
  | 0 => def_void (ps := ["_law_found", "_law_due"]) T.d_law_like (fun _ _ _ _ _ _ us hl => match us, hl with | [_, _], _ => rfl) z_law_like
  | n + 1 => ok_law_like T (oks_law_like T n)
theorem fn_law {f : Addr} {fd : FuncData} (F : FunD K "law" "law" (defArgs s_law) (defBody s_law) (defScope s_law) [] [] f fd) (T : Txt K mg) (o_law_bag : DefOk P w K mg base (1) "_law_bag" 1 sp_law_bag) (o_law_signs : DefOk P w K mg base (3) "_law_signs" 2 sp_law_signs) (o_law_delayed : DefOk P w K mg base (7) "_law_delayed" 3 sp_law_delayed) (o_law_kinds : DefOk P w K mg base (3) "_law_kinds" 3 sp_law_kinds) (o_law_of : DefOk P w K mg base (2) "_law_of" 2 sp_law_of) (o_law_twin_rows : DefOk P w K mg base (6) "_law_twin_rows" 3 sp_law_twin_rows) (o_law_pull : DefOk P w K mg base (1) "_law_pull" 2 sp_law_pull) (o_law_doubt_ok : DefOk P w K mg base (6) "_law_doubt_ok" 7 sp_law_doubt_ok) (o_law_like : DefOk P w K mg base (8) "_law_like" 2 (sp_law_like 8)) (o_mk_Company_1 : MkOk P w K mg base (5) CCompany 1 [] sp_Company___init__) (o_cg_is_doubt_5_stamps_who : CallGOk P w K mg base (8) "is_doubt" 5 ["stamps", "who"] (fun (ds es : List D) => ds ++ es.reverse) sp_is_doubt) (o_cg_is_doubt_5_who_stamps : CallGOk P w K mg base (8) "is_doubt" 5 ["who", "stamps"] (fun (ds es : List D) => ds ++ es) sp_is_doubt) : FnOk P w K mg base (L2N.CX P w) (9) f fd ["_law_script"] (upSp K 1 sp_law) :=
  have sc := sc_law
  def_fn (N := N_law) (t := t_law) F sc (fun f cdv A outer s H E hr => (pdss_cons (pds_set (i := 1) sc.nd (pd_call (o_law_bag.mono (by decide)) hr (pda_cons (dv 0) pda_nil)))
    (pdss_cons (pds_for PassesOwn.never (pdi_range1 T.g_range (pda_cons pd_int pda_nil)) (pdg_name (i := 2) sc.nd) (pdss_cons (pds_set (i := 3) sc.nd (pd_call (o_law_signs.mono (by decide)) hr (pda_cons (dv 1) (pda_cons pd_int pda_nil))))
    (pdss_cons (pds_set (i := 4) sc.nd (pd_call (o_law_delayed.mono (by decide)) hr (pda_cons (dv 1) (pda_cons (dv 3) (pda_cons pd_int pda_nil)))))
    (pdss_cons (pds_par (i := 9) (j := 10) sc.nd (pda_cons (pd_call (o_law_kinds.mono (by decide)) hr (pda_cons (dv 1) (pda_cons (dv 4) (pda_cons (dv 3) pda_nil)))) (pda_cons (pd_call (o_law_of.mono (by decide)) hr (pda_cons (dv 1) (pda_cons (pd_lst (pda_cons pd_non (pda_cons pd_non (pda_cons (pd_ix hr (pd_ix hr (dv 4) pd_int) pd_int) (pda_cons pd_str pda_nil))))) pda_nil))) pda_nil)))
    (pdss_cons (pds_asg (pd_call (o_law_twin_rows.mono (by decide)) hr (pda_cons (dv 1) (pda_cons (dv 4) (pda_cons pd_int pda_nil)))) (pdg_tup (pdgs_cons (pdg_name (i := 11) sc.nd) (pdgs_cons (pdg_name (i := 12) sc.nd) (pdgs_cons (pdg_name (i := 13) sc.nd) pdgs_nil)))))
    (pdss_cons (pds_setLc (i := 5) (own := [("_law_at", 15)]) sc.nd (sw_true rfl rfl rfl (by decide +kernel)) (pdi_range1 T.g_range (pda_cons (pd_bltn calld_len T.g_len (dv 11)) pda_nil)) (blkOk_by (own := [("_law_at", 15)]) (N := N_law) (sc := defScope s_law) (by decide +kernel)) (fun _ _ _ _ _ => (pdg_name (i := 15) sc.nd)) (fun _ _ _ _ _ => (pdts_one (pdt_cmp (opd_ne hr) (pd_ix hr (dv 12) (dv 15)) (pd_ix hr (dv 13) (dv 15))))) (fun _ _ _ _ _ => (pd_op opd_subI (pd_op opd_subI (pd_bltn calld_len T.g_len (dv 11)) pd_int) (dv 15))))
    (pdss_cons (pds_set (i := 6) sc.nd (pd_op opd_add (pd_call (o_law_of.mono (by decide)) hr (pda_cons (dv 1) (pda_cons (pd_op opd_add (dv 5) (pd_lst (pda_cons pd_int (pda_cons pd_int pda_nil)))) pda_nil))) (pd_call (o_law_of.mono (by decide)) hr (pda_cons (dv 1) (pda_cons (pd_lst (pda_cons pd_int (pda_cons pd_int (pda_cons pd_int (pda_cons pd_int (pda_cons (pd_neg pd_int) pda_nil)))))) pda_nil)))))
    (pdss_cons (pds_par (i := 14) (j := 15) sc.nd (pda_cons (pd_call (o_law_pull.mono (by decide)) hr (pda_cons (dv 1) (pda_cons pd_int pda_nil))) (pda_cons (pd_call (o_law_pull.mono (by decide)) hr (pda_cons (dv 1) (pda_cons (pd_op opd_add (pd_bltn calld_len T.g_len (dv 11)) pd_int) pda_nil))) pda_nil)))
    (pdss_cons (pds_if (pdt_cmp (opd_eq hr) (dv 14) pd_int) (pdss_one (pds_set (i := 13) sc.nd (pd_op opd_add (pd_slice (dv 13) pdo_none (pdo_some (dv 15))) (pd_slice (dv 13) (pdo_some (pd_op opd_add (dv 15) pd_int)) pdo_none)))) pdss_nil)
    (pdss_cons (pds_if (pdt_cmp (opd_eq hr) (dv 14) pd_int) (pdss_one (pds_set (i := 12) sc.nd (pd_op opd_add (pd_op opd_add (pd_slice (dv 12) pdo_none (pdo_some (dv 15))) (pd_lst (pda_cons (pd_call (o_law_of.mono (by decide)) hr (pda_cons (dv 1) (pda_cons (pd_lc (own := [("_law_writer_here", 18)]) sc.nd (pdi_lst (dv 4)) (blkOk_by (own := [("_law_writer_here", 18)]) (N := N_law) (sc := defScope s_law) (by decide +kernel)) (fun _ _ _ _ _ => (pdg_name (i := 18) sc.nd)) (fun _ _ _ _ _ => pdts_nil) (fun _ _ _ _ _ => (pd_ix hr (dv 18) pd_int))) pda_nil))) pda_nil))) (pd_slice (dv 12) (pdo_some (pd_op opd_add (dv 15) pd_int)) pdo_none)))) pdss_nil)
    (pdss_cons (pds_set (i := 7) sc.nd (pd_call (o_law_doubt_ok.mono (by decide)) hr (pda_cons (dv 4) (pda_cons (dv 11) (pda_cons (dv 12) (pda_cons (dv 13) (pda_cons (dv 6) (pda_cons (dv 10) (pda_cons (dv 9) pda_nil)))))))))
    (pdss_cons (pds_par (i := 16) (j := 17) sc.nd (pda_cons (pd_frz (pd_make (o_mk_Company_1.mono (by decide)) hr (pda_cons (dv 4) pda_nil))) (pda_cons (pd_lst (pda_cons (pd_type calld_list T.g_list (dv 11)) (pda_cons (pd_type calld_list T.g_list (dv 12)) (pda_cons (pd_type calld_list T.g_list (dv 13)) pda_nil)))) pda_nil)))
    (pdss_cons (pds_set (i := 8) sc.nd (pd_lstM (pda_cons (pd_callG (o_cg_is_doubt_5_who_stamps.mono (by decide)) hr (pda_cons (dv 16) (pda_cons (pd_ix hr (dv 17) pd_int) (pda_cons (pd_ix hr (dv 17) pd_int) (pda_cons (pd_ix hr (dv 17) pd_int) (pda_cons (dv 6) pda_nil))))) (pdk_cons (dv 10) (pdk_cons (dv 9) pdk_nil))) pda_nil)))
    (pdss_cons (pds_expr (pd_append (dv 8) (pd_callG (o_cg_is_doubt_5_stamps_who.mono (by decide)) hr (pda_cons (dv 16) (pda_cons (pd_type calld_tuple T.g_tuple (dv 11)) (pda_cons (pd_type calld_tuple T.g_tuple (dv 12)) (pda_cons (pd_type calld_tuple T.g_tuple (dv 13)) (pda_cons (dv 6) pda_nil))))) (pdk_cons (pd_type calld_tuple T.g_tuple (dv 9)) (pdk_cons (dv 10) pdk_nil)))))
    (pdss_one (pds_frz 8 (pds_if (PW.pt (pdw_or (pdt_not (pdt (pd_call (o_law_like.mono (by decide)) hr (pda_cons (dv 8) (pda_cons (pd_lst (pda_cons (dv 7) (pda_cons (dv 7) pda_nil))) pda_nil))))) (pdw_or1 (pdt_cmp (opd_ne hr) (dv 17) (pd_lst (pda_cons (dv 11) (pda_cons (dv 12) (pda_cons (dv 13) pda_nil)))))))) (pdss_one (pds_ret pd_bl)) pdss_nil)))))))))))))))))
    (pdss_one (pds_ret pd_bl))))) r_law
end
theorem txt {K : PySem.W.Frag} {h : Heap} {mg : Str → Option Value} (X : K.In h) (G : h.Ns mainGlobals mg) (c : SaysX fbl fal fnl K) : Txt K mg where
  c_LETTERS := He.str_ok X G (c.d.fact 49 (f := .str "LETTERS" "abcdefghijklmnopqrstuvwxyz") rfl)
  c_LONGEST := He.int_ok X G (c.d.fact 50 (f := .int "LONGEST" 6) rfl)
  c_MOST_ARROWS := He.int_ok X G (c.d.fact 51 (f := .int "MOST_ARROWS" 9) rfl)
  c_MOST_COUNT := He.int_ok X G (c.d.fact 52 (f := .int "MOST_COUNT" 3) rfl)
  c_MOST_PLACE := He.int_ok X G (c.d.fact 53 (f := .int "MOST_PLACE" 2) rfl)
  c_MOST_WRITERS := He.int_ok X G (c.d.fact 54 (f := .int "MOST_WRITERS" 3) rfl)
  c_NOBODY := ⟨He.glo_ok X G (c.d.fact 55 (f := .glo "NOBODY") rfl), fun F => ⟨_, _, rfl, tupAt_ok (show tupAt (fun K => He.ga K "NOBODY") [.int (-1), .int 0] K = true from c.b 2 (f := fb2) rfl) F, ⟨_, _, rfl, rfl, ⟨_, _, rfl, rfl, rfl⟩⟩⟩⟩
  g_all := He.free_ok X G (c.d.fact 56 (f := .free "all") rfl)
  g_bool := He.free_ok X G (c.d.fact 57 (f := .free "bool") rfl)
  g_enumerate := He.free_ok X G (c.d.fact 58 (f := .free "enumerate") rfl)
  g_int := He.free_ok X G (c.d.fact 59 (f := .free "int") rfl)
  g_isinstance := He.free_ok X G (c.d.fact 60 (f := .free "isinstance") rfl)
  g_len := He.free_ok X G (c.d.fact 61 (f := .free "len") rfl)
  g_list := He.free_ok X G (c.d.fact 62 (f := .free "list") rfl)
  g_max := He.free_ok X G (c.d.fact 63 (f := .free "max") rfl)
  g_range := He.free_ok X G (c.d.fact 64 (f := .free "range") rfl)
  g_set := He.free_ok X G (c.d.fact 65 (f := .free "set") rfl)
  g_sorted := He.free_ok X G (c.d.fact 66 (f := .free "sorted") rfl)
  g_str := He.free_ok X G (c.d.fact 67 (f := .free "str") rfl)
  g_tuple := He.free_ok X G (c.d.fact 68 (f := .free "tuple") rfl)
  g_zip := He.free_ok X G (c.d.fact 69 (f := .free "zip") rfl)
  k_Company := ⟨He.cls_ok (c.d.fact 47 (f := .cls "Company") rfl), fun f hf => by
    simp only [CCompany, List.mem_cons, List.not_mem_nil, or_false] at hf
    rcases hf with rfl
    · exact He.noat_ok (c.d.fact 48 (f := .noat "Company" "crew") rfl), by decide +kernel, by decide⟩
  d_law_bag := ⟨_, (c.d.def_ 0 (d := dd_law_bag) rfl).choose, (c.d.def_ 0 (d := dd_law_bag) rfl).choose_spec, He.glo_ok X G (c.d.fact 0 (f := .glo "_law_bag") rfl)⟩
  d_law_pull := ⟨_, (c.d.def_ 1 (d := dd_law_pull) rfl).choose, (c.d.def_ 1 (d := dd_law_pull) rfl).choose_spec, He.glo_ok X G (c.d.fact 1 (f := .glo "_law_pull") rfl)⟩
  d_law_of := ⟨_, (c.d.def_ 2 (d := dd_law_of) rfl).choose, (c.d.def_ 2 (d := dd_law_of) rfl).choose_spec, He.glo_ok X G (c.d.fact 2 (f := .glo "_law_of") rfl)⟩
  d_law_letters := ⟨_, (c.d.def_ 3 (d := dd_law_letters) rfl).choose, (c.d.def_ 3 (d := dd_law_letters) rfl).choose_spec, He.glo_ok X G (c.d.fact 3 (f := .glo "_law_letters") rfl)⟩
  d_law_signs := ⟨_, (c.d.def_ 4 (d := dd_law_signs) rfl).choose, (c.d.def_ 4 (d := dd_law_signs) rfl).choose_spec, He.glo_ok X G (c.d.fact 4 (f := .glo "_law_signs") rfl)⟩
  d_law_names := ⟨_, (c.d.def_ 5 (d := dd_law_names) rfl).choose, (c.d.def_ 5 (d := dd_law_names) rfl).choose_spec, He.glo_ok X G (c.d.fact 5 (f := .glo "_law_names") rfl)⟩
  d_law_writer := ⟨_, (c.d.def_ 6 (d := dd_law_writer) rfl).choose, (c.d.def_ 6 (d := dd_law_writer) rfl).choose_spec, He.glo_ok X G (c.d.fact 6 (f := .glo "_law_writer") rfl)⟩
  d_law_company := ⟨_, (c.d.def_ 7 (d := dd_law_company) rfl).choose, (c.d.def_ 7 (d := dd_law_company) rfl).choose_spec, He.glo_ok X G (c.d.fact 7 (f := .glo "_law_company") rfl)⟩
  d_law_filled := ⟨_, (c.d.def_ 8 (d := dd_law_filled) rfl).choose, (c.d.def_ 8 (d := dd_law_filled) rfl).choose_spec, He.glo_ok X G (c.d.fact 8 (f := .glo "_law_filled") rfl)⟩
  d_law_begin := ⟨_, (c.d.def_ 9 (d := dd_law_begin) rfl).choose, (c.d.def_ 9 (d := dd_law_begin) rfl).choose_spec, He.glo_ok X G (c.d.fact 9 (f := .glo "_law_begin") rfl)⟩
  d_law_arrows := ⟨_, (c.d.def_ 10 (d := dd_law_arrows) rfl).choose, (c.d.def_ 10 (d := dd_law_arrows) rfl).choose_spec, He.glo_ok X G (c.d.fact 10 (f := .glo "_law_arrows") rfl)⟩
  d_law_waits_count := ⟨_, (c.d.def_ 11 (d := dd_law_waits_count) rfl).choose, (c.d.def_ 11 (d := dd_law_waits_count) rfl).choose_spec, He.glo_ok X G (c.d.fact 11 (f := .glo "_law_waits_count") rfl)⟩
  d_law_can := ⟨_, (c.d.def_ 12 (d := dd_law_can) rfl).choose, (c.d.def_ 12 (d := dd_law_can) rfl).choose_spec, He.glo_ok X G (c.d.fact 12 (f := .glo "_law_can") rfl)⟩
  d_law_after := ⟨_, (c.d.def_ 13 (d := dd_law_after) rfl).choose, (c.d.def_ 13 (d := dd_law_after) rfl).choose_spec, He.glo_ok X G (c.d.fact 13 (f := .glo "_law_after") rfl)⟩
  d_law_steps := ⟨_, (c.d.def_ 14 (d := dd_law_steps) rfl).choose, (c.d.def_ 14 (d := dd_law_steps) rfl).choose_spec, He.glo_ok X G (c.d.fact 14 (f := .glo "_law_steps") rfl)⟩
  d_law_ways := ⟨_, (c.d.def_ 15 (d := dd_law_ways) rfl).choose, (c.d.def_ 15 (d := dd_law_ways) rfl).choose_spec, He.glo_ok X G (c.d.fact 15 (f := .glo "_law_ways") rfl)⟩
  d_law_tight := ⟨_, (c.d.def_ 16 (d := dd_law_tight) rfl).choose, (c.d.def_ 16 (d := dd_law_tight) rfl).choose_spec, He.glo_ok X G (c.d.fact 16 (f := .glo "_law_tight") rfl)⟩
  d_law_taking_turns := ⟨_, (c.d.def_ 17 (d := dd_law_taking_turns) rfl).choose, (c.d.def_ 17 (d := dd_law_taking_turns) rfl).choose_spec, He.glo_ok X G (c.d.fact 17 (f := .glo "_law_taking_turns") rfl)⟩
  d_law_delayed := ⟨_, (c.d.def_ 18 (d := dd_law_delayed) rfl).choose, (c.d.def_ 18 (d := dd_law_delayed) rfl).choose_spec, He.glo_ok X G (c.d.fact 18 (f := .glo "_law_delayed") rfl)⟩
  d_law_kinds := ⟨_, (c.d.def_ 19 (d := dd_law_kinds) rfl).choose, (c.d.def_ 19 (d := dd_law_kinds) rfl).choose_spec, He.glo_ok X G (c.d.fact 19 (f := .glo "_law_kinds") rfl)⟩
  d_law_alike := ⟨_, (c.d.def_ 20 (d := dd_law_alike) rfl).choose, (c.d.def_ 20 (d := dd_law_alike) rfl).choose_spec, He.glo_ok X G (c.d.fact 20 (f := .glo "_law_alike") rfl)⟩
  d_law_twin_steps := ⟨_, (c.d.def_ 21 (d := dd_law_twin_steps) rfl).choose, (c.d.def_ 21 (d := dd_law_twin_steps) rfl).choose_spec, He.glo_ok X G (c.d.fact 21 (f := .glo "_law_twin_steps") rfl)⟩
  d_law_twin_rows := ⟨_, (c.d.def_ 22 (d := dd_law_twin_rows) rfl).choose, (c.d.def_ 22 (d := dd_law_twin_rows) rfl).choose_spec, He.glo_ok X G (c.d.fact 22 (f := .glo "_law_twin_rows") rfl)⟩
  d_law_walked := ⟨_, (c.d.def_ 23 (d := dd_law_walked) rfl).choose, (c.d.def_ 23 (d := dd_law_walked) rfl).choose_spec, He.glo_ok X G (c.d.fact 23 (f := .glo "_law_walked") rfl)⟩
  d_law_differs := ⟨_, (c.d.def_ 24 (d := dd_law_differs) rfl).choose, (c.d.def_ 24 (d := dd_law_differs) rfl).choose_spec, He.glo_ok X G (c.d.fact 24 (f := .glo "_law_differs") rfl)⟩
  d_law_doubt_ok := ⟨_, (c.d.def_ 25 (d := dd_law_doubt_ok) rfl).choose, (c.d.def_ 25 (d := dd_law_doubt_ok) rfl).choose_spec, He.glo_ok X G (c.d.fact 25 (f := .glo "_law_doubt_ok") rfl)⟩
  d_is_name := ⟨_, (c.d.def_ 26 (d := dd_is_name) rfl).choose, (c.d.def_ 26 (d := dd_is_name) rfl).choose_spec, He.glo_ok X G (c.d.fact 26 (f := .glo "is_name") rfl)⟩
  d_is_sign := ⟨_, (c.d.def_ 27 (d := dd_is_sign) rfl).choose, (c.d.def_ 27 (d := dd_is_sign) rfl).choose_spec, He.glo_ok X G (c.d.fact 27 (f := .glo "is_sign") rfl)⟩
  d_is_arrow := ⟨_, (c.d.def_ 28 (d := dd_is_arrow) rfl).choose, (c.d.def_ 28 (d := dd_is_arrow) rfl).choose_spec, He.glo_ok X G (c.d.fact 28 (f := .glo "is_arrow") rfl)⟩
  d_is_writer := ⟨_, (c.d.def_ 29 (d := dd_is_writer) rfl).choose, (c.d.def_ 29 (d := dd_is_writer) rfl).choose_spec, He.glo_ok X G (c.d.fact 29 (f := .glo "is_writer") rfl)⟩
  d_need_writers := ⟨_, (c.d.def_ 30 (d := dd_need_writers) rfl).choose, (c.d.def_ 30 (d := dd_need_writers) rfl).choose_spec, He.glo_ok X G (c.d.fact 30 (f := .glo "need_writers") rfl)⟩
  d_Company___init__ := ⟨_, (c.d.def_ 31 (d := dd_Company___init__) rfl).choose, _, (c.d.def_ 31 (d := dd_Company___init__) rfl).choose_spec, He.mkr_ok (c.d.fact 31 (f := .mkr "Company") rfl), He.glo_ok X G (c.d.fact 46 (f := .glo "Company") rfl), fun F => ⟨_, _, rfl, ⟨_, _, rfl, tupAt_ok (show tupAt (He.dflAt ("Company", some "__init__") 0) [] K = true from c.b 0 (f := fb0) rfl) F, rfl⟩, rfl⟩⟩
  d_Company_begin := ⟨_, (c.d.def_ 32 (d := dd_Company_begin) rfl).choose, (c.d.def_ 32 (d := dd_Company_begin) rfl).choose_spec, He.meth_ok (c.d.fact 32 (f := .meth "Company" "begin") rfl)⟩
  d_arrows_at := ⟨_, (c.d.def_ 33 (d := dd_arrows_at) rfl).choose, (c.d.def_ 33 (d := dd_arrows_at) rfl).choose_spec, He.glo_ok X G (c.d.fact 33 (f := .glo "arrows_at") rfl)⟩
  d_is_done := ⟨_, (c.d.def_ 34 (d := dd_is_done) rfl).choose, (c.d.def_ 34 (d := dd_is_done) rfl).choose_spec, He.glo_ok X G (c.d.fact 34 (f := .glo "is_done") rfl)⟩
  d_Company_counts := ⟨_, (c.d.def_ 35 (d := dd_Company_counts) rfl).choose, (c.d.def_ 35 (d := dd_Company_counts) rfl).choose_spec, He.meth_ok (c.d.fact 35 (f := .meth "Company" "counts") rfl)⟩
  d_Company_may_write := ⟨_, (c.d.def_ 36 (d := dd_Company_may_write) rfl).choose, (c.d.def_ 36 (d := dd_Company_may_write) rfl).choose_spec, He.meth_ok (c.d.fact 36 (f := .meth "Company" "may_write") rfl)⟩
  d_Company_behind := ⟨_, (c.d.def_ 37 (d := dd_Company_behind) rfl).choose, (c.d.def_ 37 (d := dd_Company_behind) rfl).choose_spec, He.meth_ok (c.d.fact 37 (f := .meth "Company" "behind") rfl)⟩
  d_Company_steps := ⟨_, (c.d.def_ 38 (d := dd_Company_steps) rfl).choose, (c.d.def_ 38 (d := dd_Company_steps) rfl).choose_spec, He.meth_ok (c.d.fact 38 (f := .meth "Company" "steps") rfl)⟩
  d_stands_of := ⟨_, (c.d.def_ 39 (d := dd_stands_of) rfl).choose, (c.d.def_ 39 (d := dd_stands_of) rfl).choose_spec, He.glo_ok X G (c.d.fact 39 (f := .glo "stands_of") rfl)⟩
  d_is_alike := ⟨_, (c.d.def_ 40 (d := dd_is_alike) rfl).choose, (c.d.def_ 40 (d := dd_is_alike) rfl).choose_spec, He.glo_ok X G (c.d.fact 40 (f := .glo "is_alike") rfl)⟩
  d_twin_stands := ⟨_, (c.d.def_ 41 (d := dd_twin_stands) rfl).choose, (c.d.def_ 41 (d := dd_twin_stands) rfl).choose_spec, He.glo_ok X G (c.d.fact 41 (f := .glo "twin_stands") rfl)⟩
  d_differs := ⟨_, (c.d.def_ 42 (d := dd_differs) rfl).choose, (c.d.def_ 42 (d := dd_differs) rfl).choose_spec, He.glo_ok X G (c.d.fact 42 (f := .glo "differs") rfl)⟩
  d_is_doubt := ⟨_, (c.d.def_ 43 (d := dd_is_doubt) rfl).choose, _, (c.d.def_ 43 (d := dd_is_doubt) rfl).choose_spec, He.glo_ok X G (c.d.fact 43 (f := .glo "is_doubt") rfl), rfl, fun F => ⟨_, _, rfl, rfl, ⟨_, _, rfl, ⟨_, _, rfl, tupAt_ok (show tupAt (kwdAt ("is_doubt", none) "stamps") [] K = true from c.b 1 (f := fb1) rfl) F, rfl⟩, rfl⟩⟩⟩
  d_law_like := ⟨_, (c.d.def_ 44 (d := dd_law_like) rfl).choose, (c.d.def_ 44 (d := dd_law_like) rfl).choose_spec, He.glo_ok X G (c.d.fact 44 (f := .glo "_law_like") rfl)⟩
  d_law := ⟨_, (c.d.def_ 45 (d := dd_law) rfl).choose, (c.d.def_ 45 (d := dd_law) rfl).choose_spec, He.glo_ok X G (c.d.fact 45 (f := .glo "law") rfl)⟩
theorem facts {P : Program} {w : World} {K : PySem.W.Frag} {h : Heap} {mg : Str → Option Value} {f : Addr} (X : K.In h) (G : h.Ns mainGlobals mg) (hfa : mg ("law" : Str) = some (.ref f)) (c : SaysX fbl fal fnl K) :
    ∃ fd : FuncData, (∀ (s : Shared) (v : Value), BindsTo s fd ⟨[v], []⟩ [("_law_script", v)]) ∧ ∀ base : Heap, K.In base → base.Ns mainGlobals mg → FnOk P w K mg base (L2N.CX P w) 9 f fd ["_law_script"] (upSp K 1 sp_law) := by
  obtain ⟨fd, F⟩ := c.d.def_ 45 (d := dd_law) rfl
  have e := hfa.symm.trans (He.glo_ok X G (c.d.fact 45 (f := .glo "law") rfl))
  cases e
  have T := txt X G c
  refine ⟨fd, fun s v => FunD.bindsA (ps := ["_law_script"]) F (fun _ _ _ _ _ _ us hl => match us, hl with | [_], _ => rfl) s [v] rfl, fun base _ _ => ?_⟩
  have o_law_bag := ok_law_bag (P := P) (w := w) (base := base) T
  have o_law_pull := ok_law_pull (P := P) (w := w) (base := base) T
  have o_law_of := ok_law_of (P := P) (w := w) (base := base) T o_law_pull
  have o_law_letters := ok_law_letters (P := P) (w := w) (base := base) T
  have o_law_signs := ok_law_signs (P := P) (w := w) (base := base) T o_law_pull o_law_of o_law_letters
  have o_law_names := ok_law_names (P := P) (w := w) (base := base) T o_law_pull o_law_letters o_law_of
  have o_law_writer := ok_law_writer (P := P) (w := w) (base := base) T o_law_pull o_law_of
  have o_law_company := ok_law_company (P := P) (w := w) (base := base) T o_law_of o_law_names o_law_pull o_law_writer
  have o_law_filled := ok_law_filled (P := P) (w := w) (base := base) T
  have o_law_begin := ok_law_begin (P := P) (w := w) (base := base) T
  have o_law_arrows := ok_law_arrows (P := P) (w := w) (base := base) T
  have o_law_waits_count := ok_law_waits_count (P := P) (w := w) (base := base) T o_law_arrows
  have o_law_can := ok_law_can (P := P) (w := w) (base := base) T o_law_waits_count
  have o_law_after := ok_law_after (P := P) (w := w) (base := base) T o_law_waits_count
  have o_law_steps := ok_law_steps (P := P) (w := w) (base := base) T o_law_can o_law_arrows o_law_after
  have o_law_ways := ok_law_ways (P := P) (w := w) (base := base) T o_law_begin o_law_steps
  have o_law_tight := ok_law_tight (P := P) (w := w) (base := base) T o_law_company o_law_pull o_law_filled o_law_ways
  have o_law_taking_turns := ok_law_taking_turns (P := P) (w := w) (base := base) T o_law_of o_law_names o_law_pull
  have o_law_delayed := ok_law_delayed (P := P) (w := w) (base := base) T o_law_pull o_law_tight o_law_taking_turns o_law_ways
  have o_law_kinds := ok_law_kinds (P := P) (w := w) (base := base) T o_law_of o_law_pull
  have o_law_alike := ok_law_alike (P := P) (w := w) (base := base) T
  have o_law_twin_steps := ok_law_twin_steps (P := P) (w := w) (base := base) T o_law_steps o_law_alike
  have o_law_twin_rows := ok_law_twin_rows (P := P) (w := w) (base := base) T o_law_begin o_law_pull o_law_twin_steps o_law_of
  have o_law_walked := ok_law_walked (P := P) (w := w) (base := base) T o_law_begin o_law_steps
  have o_law_differs := ok_law_differs (P := P) (w := w) (base := base) T
  have o_law_doubt_ok := ok_law_doubt_ok (P := P) (w := w) (base := base) T o_law_walked o_law_alike o_law_differs
  have o_is_name := ok_is_name (P := P) (w := w) (base := base) T
  have o_is_sign := ok_is_sign (P := P) (w := w) (base := base) T
  have o_is_arrow := ok_is_arrow (P := P) (w := w) (base := base) T o_is_sign
  have o_is_writer := ok_is_writer (P := P) (w := w) (base := base) T o_is_name o_is_arrow
  have o_need_writers := ok_need_writers (P := P) (w := w) (base := base) T o_is_writer
  have o_Company___init__ := ok_Company___init__ (P := P) (w := w) (base := base) T o_need_writers
  have o_mk_Company_1 := mk_Company_1 o_Company___init__
  have o_Company_begin := ok_Company_begin (P := P) (w := w) (base := base) T
  have o_arrows_at := ok_arrows_at (P := P) (w := w) (base := base) T
  have o_is_done := ok_is_done (P := P) (w := w) (base := base) T o_arrows_at
  have o_Company_counts := ok_Company_counts (P := P) (w := w) (base := base) T o_is_done
  have o_Company_may_write := ok_Company_may_write (P := P) (w := w) (base := base) T o_Company_counts
  have o_Company_behind := ok_Company_behind (P := P) (w := w) (base := base) T o_Company_counts
  have o_Company_steps := ok_Company_steps (P := P) (w := w) (base := base) T o_Company_may_write o_arrows_at o_Company_behind
  have o_stands_of := ok_stands_of (P := P) (w := w) (base := base) T o_Company_begin o_Company_steps
  have o_is_alike := ok_is_alike (P := P) (w := w) (base := base) T
  have o_twin_stands := ok_twin_stands (P := P) (w := w) (base := base) T o_stands_of o_is_alike
  have o_differs := ok_differs (P := P) (w := w) (base := base) T
  have o_is_doubt := ok_is_doubt (P := P) (w := w) (base := base) T o_twin_stands o_differs
  have o_cg_is_doubt_5_stamps_who := cg_is_doubt_5_stamps_who o_is_doubt
  have o_cg_is_doubt_5_who_stamps := cg_is_doubt_5_who_stamps o_is_doubt
  have o_law_like := oks_law_like (P := P) (w := w) (base := base) T 8
  exact fn_law F T o_law_bag o_law_signs o_law_delayed o_law_kinds o_law_of o_law_twin_rows o_law_pull o_law_doubt_ok o_law_like o_mk_Company_1 o_cg_is_doubt_5_stamps_who o_cg_is_doubt_5_who_stamps
end L3
open PySem PySem.W PySem.Calls PyProof.Rows
theorem PySem.Challenge.cw_whoseink_k32_doubts_judged_holds : PySem.Challenge.rw_whoseink_k32_doubts_judged.Holds := by
  refine L3.head_of ?_
  intro w mg fa h Y G hmg0
  obtain ⟨K, KX, c⟩ := Y
  have hmg : mg ("law" : PySem.Str) = some (.ref fa) := by
    exact hmg0
  obtain ⟨fd, hb, hF⟩ := L3.facts (P := PySem.W.OpenLaw.prog PySem.Challenge.rw_whoseink_k32_doubts_judged) (w := w) KX G hmg c.c
  exact ⟨K, KX, fd, [], L3.upSp K 1 L3.sp_law, (by intro p hp; cases hp), (by intro p hp; cases hp), (by intro p hp; cases hp), hb, fun H a ns hl _ _ hS => L3.law_start hS (L3.law_ok ns), fun base hK hN _ => hF base hK hN⟩
