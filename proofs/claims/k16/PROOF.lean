import PyProof.Rows.All
import Wide.All
import OpenK.AllK
import Wide.FinOn
import KE.KStateDown
import HandS.ForMost
import HandS.Flow
import HandS.IsInst
import HandS.HeadHook2
import KE.KDictKeyed
import HandS.Defaults
import HandS.Zip
import HandS.Deep
import HandS.TupAny
import HandS.TupMul
import KE.SortData
import HandS.DictComp
import HandS.Walk
import HandS.TupSets
import KE.KeyNested
import HandS.SetBool
import KE.DataCmp
import HandS.Style
import HandS.FStr
import HandS.RaiseMore
import PyProof.FitsInt
import HandS.TryOnly
import HandS.More
import HandS.Zip0
import PyProof.EnumMake
import PyProof.EnumFor
import HandS.Strs
import HandS.Words
import HandS.HeadHook1
import HandS.MakeKwOnly
import HandS.Exc
import KE.KDictSum
import KE.KDictPairs
import HandS.Iter
import Lean
import HandS.Ends
import HandS.WordsExc
import HandS.Head0
import HandS.Head1
import HandS.Head2
import HandS.HeadEnd
import HandS.Head3
import Open.Pieces
import PySem.Challenge.RW_whoseink_k16_live_lots
set_option Elab.async false
set_option linter.all false
set_option maxRecDepth 100000
set_option maxHeartbeats 1000000
/-! L3: readings over data. A frozen part F of the abstract heap and a store M of objects that may change; values are data (D). -/
namespace L3
open PySem PySem.Spec PyProof.Rows L2
/-- a class of the text: its name, the fields of its instances in the order in which they are first stored -/
structure Cl where
  nm : Str
  fs : List Str
/-- data: what never changes, and references to what may -/
inductive D where
  | non | bl (b : Bool) | int (i : Int) | str (x : Str) | ty (n : String) | ref (a : Addr)
  | tup (xs : List D) | lst (xs : List D)
  /-- a list that is read alone (the script) -/
  | lsk (xs : List D)
  /-- a dict whose keys are numbers and texts -/
  | dct (ks : List L2.Key) (xs : List D)
  /-- an instance of a class of the text, the fields' data -/
  | obj (c : Cl) (xs : List D)
  /-- a dict whose keys are tuples of any depth -/
  | dkd (w : World) (ks xs : List D)
mutual
/-- data that may be keys: numbers, texts, None, tuples of these, at most n deep -/
def D.nk : Nat → D → Bool
  | _, .non => true
  | _, .int _ => true
  | _, .str _ => true
  | n + 1, .tup ds => D.nks n ds
  | _, _ => false
def D.nks : Nat → List D → Bool
  | _, [] => true
  | n, d :: ds => D.nk n d && D.nks n ds
end
mutual
def keyN : D → NestedKey
  | .int i => .num i
  | .str x => .text x
  | .tup ds => .tup (keyNs ds)
  | _ => .none
def keyNs : List D → List NestedKey
  | [] => []
  | d :: ds => keyN d :: keyNs ds
end
/-- a tuple that may be a key -/
def isKey (d : D) : Bool := match d with
  | .tup _ => D.nk 8 d
  | _ => false
/-- an object that may change -/
inductive MO where
  | lst (xs : List D)
  | dct (ks : List L2.Key) (xs : List D)
  | ins (c : Cl) (xs : List D)
  | dkd (w : World) (ks xs : List D)
abbrev Mp := Addr → Option MO
def mupd (M : Mp) (a : Addr) (o : MO) : Mp := fun b => if b = a then some o else M b
def mdel (M : Mp) (a : Addr) : Mp := fun b => if b = a then none else M b
theorem mupd_same {M : Mp} {a : Addr} {o : MO} : mupd M a o a = some o := by unfold mupd; rw [if_pos rfl]
theorem mupd_ne {M : Mp} {a b : Addr} {o : MO} (h : b ≠ a) : mupd M a o b = M b := by unfold mupd; rw [if_neg h]
theorem mupd_mupd {M : Mp} {a : Addr} {o u : MO} : mupd (mupd M a o) a u = mupd M a u := by
  funext b; unfold mupd; split <;> rfl
theorem mupd_id {M : Mp} {a : Addr} {o : MO} (h : M a = some o) : mupd M a o = M := by
  funext b; unfold mupd; split
  · rename_i e; rw [e, h]
  · rfl
theorem mdel_same {M : Mp} {a : Addr} : mdel M a a = none := by unfold mdel; rw [if_pos rfl]
theorem mdel_ne {M : Mp} {a b : Addr} (h : b ≠ a) : mdel M a b = M b := by unfold mdel; rw [if_neg h]
theorem mdel_mupd {M : Mp} {a : Addr} {o : MO} (h : M a = none) : mdel (mupd M a o) a = M := by
  funext b; unfold mdel mupd; split
  · rename_i e; rw [e, h]
  · rfl
theorem mdel_mupd_ne {M : Mp} {a b : Addr} {o : MO} (h : a ≠ b) : mdel (mupd M a o) b = mupd (mdel M b) a o := by
  funext c; simp only [mdel, mupd]
  by_cases h1 : c = b
  · rw [if_pos h1, if_neg (fun e => h (e.symm.trans h1)), if_pos h1]
  · rw [if_neg h1, if_neg h1]
theorem mne_of_none {M : Mp} {a b : Addr} {o : MO} (h : M a = some o) (h' : M b = none) : a ≠ b := by
  intro e; subst e; rw [h] at h'; cases h'
/-! ### data stand at a value -/
/-- a text of a size that the machine takes, of signs that there are -/
def SOk (x : Str) : Prop := x.length ≤ sizeLine ∧ ∀ c ∈ x.cps.toList, c < 0x110000
instance (x : Str) : Decidable (SOk x) := by unfold SOk; infer_instance
/-- the keys and the values of a dict -/
def KsOk (ks : List L2.Key) (ds : List D) : Prop := ks.length = ds.length ∧ ∀ x, Sum.inr x ∈ ks → SOk x
/-- a dict's rows: the key's tuple, the key, the value -/
abbrev DRow := Addr × D × V
def RowIs (w : World) (r : DRow) (e : DictEntry) : Prop := e.hash = (keyN r.2.1).hash w ∧ e.key = .ref r.1 ∧ RelV r.2.2 e.val
/-- the dict at a with these rows -/
def DkAt (w : World) (a : Addr) (Ls : List DRow) (h : Heap) : Prop := ((a == sysModules) = false ∧ Ls.length ≤ sizeLine ∧ (∀ r ∈ Ls, isKey r.2.1 = true) ∧ (Ls.map fun r => keyN r.2.1).Nodup) ∧ ∃ o es ep, h.get? a = some o ∧ o.ExactDict ∧ o.data = .dict es ep ∧ Paired (RowIs w) Ls es.toList
def DkO (w : World) (a : Addr) (Ls : List DRow) : HO := .ext (DkAt w a Ls)
mutual
def Rep (K : PySem.W.Frag) (F : Hp) : D → V → Prop
  | .non, v => v = .non
  | .bl b, v => v = .bl b
  | .int i, v => v = .int i
  | .str x, v => v = .str x ∧ SOk x
  | .ty n, v => v = .ty n
  | .ref a, v => v = .ref a
  | .tup ds, v => ∃ a xs, v = .ref a ∧ SqT K F a xs ∧ Reps K F ds xs
  | .lst ds, v => ∃ a xs, v = .ref a ∧ F a = some (.lst xs) ∧ Reps K F ds xs
  | .lsk ds, v => ∃ a xs, v = .ref a ∧ SqL K F a xs ∧ Reps K F ds xs
  | .dct ks ds, v => ∃ a o xs, v = .ref a ∧ F a = some (.frz o (.dK (ks.zip xs))) ∧ KsOk ks ds ∧ Reps K F ds xs
  | .obj c ds, v => ∃ a dx xs, v = .ref a ∧ F a = some (.ins (He.ga K c.nm) dx (c.fs.zip xs)) ∧ ds.length ≤ c.fs.length ∧ Reps K F ds xs
  | .dkd w ks ds, v => ∃ a o Ls, v = .ref a ∧ F a = some (.frz o (DkO w a Ls)) ∧ ks = Ls.map (·.2.1) ∧ Reps K F ks (Ls.map fun r => .ref r.1) ∧ Reps K F ds (Ls.map (·.2.2))
def Reps (K : PySem.W.Frag) (F : Hp) : List D → List V → Prop
  | [], xs => xs = []
  | d :: ds, xs => ∃ x r, xs = x :: r ∧ Rep K F d x ∧ Reps K F ds r
end
theorem Same.seqT {K : PySem.W.Frag} {H H' : Hp} {a : Addr} {xs : List V} (e : Same H H') (h : SqT K H a xs) : SqT K H' a xs := by
  rcases h with (h | ⟨o, h⟩) | h
  · exact .inl (.inl (e _ _ h))
  · exact .inl (.inr ⟨o, e _ _ h⟩)
  · exact .inr h
section
variable {K : PySem.W.Frag} {F F' : Hp}
mutual
theorem Rep.mono (s : Same F F') : ∀ {d : D} {v : V}, Rep K F d v → Rep K F' d v
  | .non, _, h => h
  | .bl _, _, h => h
  | .int _, _, h => h
  | .str _, _, h => h
  | .ty _, _, h => h
  | .ref _, _, h => h
  | .tup ds, _, ⟨a, xs, e, q, r⟩ => ⟨a, xs, e, Same.seqT s q, Reps.mono s r⟩
  | .lst ds, _, ⟨a, xs, e, q, r⟩ => ⟨a, xs, e, s _ _ q, Reps.mono s r⟩
  | .lsk ds, _, ⟨a, xs, e, q, r⟩ => ⟨a, xs, e, s.seq q, Reps.mono s r⟩
  | .dct ks ds, _, ⟨a, o, xs, e, q, l, r⟩ => ⟨a, o, xs, e, s _ _ q, l, Reps.mono s r⟩
  | .obj c ds, _, ⟨a, o, xs, e, q, l, r⟩ => ⟨a, o, xs, e, s _ _ q, l, Reps.mono s r⟩
  | .dkd w ks ds, _, ⟨a, o, Ls, e, q, l, r1, r2⟩ => ⟨a, o, Ls, e, s _ _ q, l, Reps.mono s r1, Reps.mono s r2⟩
theorem Reps.mono (s : Same F F') : ∀ {ds : List D} {vs : List V}, Reps K F ds vs → Reps K F' ds vs
  | [], _, h => h
  | d :: ds, _, ⟨x, r, e, h1, h2⟩ => ⟨x, r, e, Rep.mono s h1, Reps.mono s h2⟩
end
theorem Reps.length : ∀ {ds : List D} {vs : List V}, Reps K F ds vs → ds.length = vs.length
  | [], _, h => by cases h; rfl
  | d :: ds, _, ⟨x, r, e, h1, h2⟩ => by subst e; simp [Reps.length h2]
theorem Reps.append : ∀ {ds es : List D} {vs ws : List V}, Reps K F ds vs → Reps K F es ws → Reps K F (ds ++ es) (vs ++ ws)
  | [], _, _, _, h, h' => by cases h; exact h'
  | d :: ds, es, _, ws, ⟨x, r, e, h1, h2⟩, h' => by subst e; exact ⟨x, r ++ ws, rfl, h1, Reps.append h2 h'⟩
theorem Reps.one {d : D} {v : V} (h : Rep K F d v) : Reps K F [d] [v] := ⟨v, [], rfl, h, rfl⟩
theorem Reps.take : ∀ {ds : List D} {vs : List V} (n : Nat), Reps K F ds vs → Reps K F (ds.take n) (vs.take n)
  | _, _, 0, _ => by simp [Reps]
  | [], _, _ + 1, h => by cases h; simp [Reps]
  | d :: ds, _, n + 1, ⟨x, r, e, h1, h2⟩ => by subst e; exact ⟨x, r.take n, rfl, h1, Reps.take n h2⟩
theorem Reps.drop : ∀ {ds : List D} {vs : List V} (n : Nat), Reps K F ds vs → Reps K F (ds.drop n) (vs.drop n)
  | _, _, 0, h => h
  | [], _, _ + 1, h => by cases h; simp [Reps]
  | d :: ds, _, n + 1, ⟨x, r, e, h1, h2⟩ => by subst e; exact Reps.drop n h2
theorem Reps.get : ∀ {ds : List D} {vs : List V} {i : Nat} {d : D}, Reps K F ds vs → ds[i]? = some d → ∃ v, vs[i]? = some v ∧ Rep K F d v
  | [], _, _, _, _, h => by simp at h
  | d :: ds, _, 0, _, ⟨x, r, e, h1, h2⟩, h => by subst e; simp at h; subst h; exact ⟨x, rfl, h1⟩
  | d :: ds, _, i + 1, _, ⟨x, r, e, h1, h2⟩, h => by
    subst e
    obtain ⟨v, hv, hr⟩ := Reps.get (i := i) h2 (by simpa using h)
    exact ⟨v, by simpa using hv, hr⟩
theorem Reps.get' : ∀ {ds : List D} {vs : List V} {i : Nat} {v : V}, Reps K F ds vs → vs[i]? = some v → ∃ d, ds[i]? = some d ∧ Rep K F d v
  | [], _, _, _, h, h' => by cases h; simp at h'
  | d :: ds, _, 0, _, ⟨x, r, e, h1, h2⟩, h => by subst e; simp at h; subst h; exact ⟨d, rfl, h1⟩
  | d :: ds, _, i + 1, _, ⟨x, r, e, h1, h2⟩, h => by
    subst e
    obtain ⟨v, hv, hr⟩ := Reps.get' (i := i) h2 (by simpa using h)
    exact ⟨v, by simpa using hv, hr⟩
theorem Reps.set : ∀ {ds : List D} {vs : List V} {d : D} {v : V} (i : Nat), Rep K F d v → Reps K F ds vs → Reps K F (ds.set i d) (vs.set i v)
  | [], _, _, _, _, _, h => by cases h; simp [Reps]
  | _ :: ds, _, _, _, 0, hd, ⟨x, r, e, h1, h2⟩ => by subst e; exact ⟨_, r, rfl, hd, h2⟩
  | _ :: ds, _, _, _, i + 1, hd, ⟨x, r, e, h1, h2⟩ => by subst e; exact ⟨x, _, rfl, h1, Reps.set i hd h2⟩
theorem Reps.reverse : ∀ {ds : List D} {vs : List V}, Reps K F ds vs → Reps K F ds.reverse vs.reverse
  | [], _, h => by cases h; simp [Reps]
  | d :: ds, _, ⟨x, r, e, h1, h2⟩ => by subst e; simp only [List.reverse_cons]; exact Reps.append (Reps.reverse h2) (Reps.one h1)
theorem Reps.dropLast {ds : List D} {vs : List V} (h : Reps K F ds vs) : Reps K F ds.dropLast vs.dropLast := by
  rw [List.dropLast_eq_take, List.dropLast_eq_take, ← h.length]; exact h.take _
theorem Reps.isEmpty : ∀ {ds : List D} {vs : List V}, Reps K F ds vs → ds.isEmpty = vs.isEmpty
  | [], _, h => by cases h; rfl
  | d :: ds, _, ⟨x, r, e, h1, h2⟩ => by subst e; rfl
theorem Reps.ints : ∀ {ns : List Int} {vs : List V}, Reps K F (ns.map D.int) vs → vs = ns.map V.int
  | [], _, h => h
  | n :: ns, _, ⟨x, r, e, h1, h2⟩ => by subst e; rw [Reps.ints h2, show x = V.int n from h1]; rfl
theorem Reps.ofInts : ∀ (ns : List Int), Reps K F (ns.map D.int) (ns.map V.int)
  | [] => rfl
  | n :: ns => ⟨.int n, _, rfl, rfl, Reps.ofInts ns⟩
theorem Reps.strs : ∀ {zs : List Str} {vs : List V}, Reps K F (zs.map D.str) vs → vs = zs.map V.str
  | [], _, h => h
  | n :: ns, _, ⟨x, r, e, h1, h2⟩ => by subst e; rw [Reps.strs h2, show x = V.str n from h1.1]; rfl
theorem Reps.bls : ∀ {zs : List Bool} {vs : List V}, Reps K F (zs.map D.bl) vs → vs = zs.map V.bl
  | [], _, h => h
  | n :: ns, _, ⟨x, r, e, h1, h2⟩ => by subst e; rw [Reps.bls h2, show x = V.bl n from h1]; rfl
theorem Reps.ofBls : ∀ (ns : List Bool), Reps K F (ns.map D.bl) (ns.map V.bl)
  | [] => rfl
  | n :: ns => ⟨.bl n, _, rfl, rfl, Reps.ofBls ns⟩
end
/-! ### tables -/
def findK : List L2.Key → List D → L2.Key → Option D
  | k :: ks, d :: ds, j => if k = j then some d else findK ks ds j
  | _, _, _ => none
/-- a table with one row set: in its place, or at the end -/
def setK (ks : List L2.Key) (ds : List D) (j : L2.Key) (e : D) : List D := if (ks.any fun k => decide (k = j)) = true then List.zipWith (fun k d => if k = j then e else d) ks ds else ds ++ [e]
def addK (ks : List L2.Key) (j : L2.Key) : List L2.Key := if (ks.any fun k => decide (k = j)) = true then ks else ks ++ [j]
theorem isEmpty_zip {α β : Type} {xs : List α} {ys : List β} (h : xs.length = ys.length) : (xs.zip ys).isEmpty = xs.isEmpty := by
  cases xs <;> cases ys <;> simp at h ⊢
theorem findK_some {K : PySem.W.Frag} {F : Hp} : ∀ {ks : List L2.Key} {ds : List D} {xs : List V} {j : L2.Key}, ks.length = ds.length → Reps K F ds xs →
    (∀ d, findK ks ds j = some d → ∃ v, valV (ks.zip xs) j = some v ∧ Rep K F d v) ∧ (findK ks ds j = none → valV (ks.zip xs) j = none)
  | [], ds, xs, j, _, _ => ⟨fun d h => by simp [findK] at h, fun _ => rfl⟩
  | k :: ks, [], xs, j, h, _ => by simp at h
  | k :: ks, d :: ds, _, j, h, ⟨x, r, e, h1, h2⟩ => by
    subst e
    obtain ⟨i1, i2⟩ := findK_some (j := j) (by simpa using h) h2
    by_cases hk : k = j
    · refine ⟨fun g hg => ?_, fun hg => ?_⟩
      · simp only [findK, if_pos hk, Option.some.injEq] at hg
        exact ⟨x, valV_pos (p := (k, x)) hk, hg ▸ h1⟩
      · simp [findK, if_pos hk] at hg
    · refine ⟨fun g hg => ?_, fun hg => ?_⟩
      · simp only [findK, if_neg hk] at hg
        obtain ⟨v, a, b⟩ := i1 g hg
        exact ⟨v, by rw [List.zip_cons_cons, valV_neg (p := (k, x)) hk]; exact a, b⟩
      · simp only [findK, if_neg hk] at hg
        rw [List.zip_cons_cons, valV_neg (p := (k, x)) hk]; exact i2 hg
theorem findK_any : ∀ {ks : List L2.Key} {ds : List D} {j : L2.Key}, ks.length = ds.length → (findK ks ds j).isSome = ks.any fun k => decide (k = j)
  | [], _, _, _ => by simp [findK]
  | k :: ks, [], _, h => by simp at h
  | k :: ks, d :: ds, j, h => by
    have ih := findK_any (ks := ks) (ds := ds) (j := j) (by simpa using h)
    by_cases hk : k = j
    · simp [findK, hk]
    · simp only [findK, if_neg hk, ih, List.any_cons, decide_eq_false hk, Bool.false_or]
theorem setK_len {ks : List L2.Key} {ds : List D} {j : L2.Key} {e : D} (h : ks.length = ds.length) : (addK ks j).length = (setK ks ds j e).length := by
  unfold addK setK
  split
  · rw [List.length_zipWith, ← h, Nat.min_self]
  · simp [h]
theorem any_zip {k : L2.Key} : ∀ {ks : List L2.Key} {xs : List V}, ks.length = xs.length → ((ks.zip xs).any fun kv => decide (kv.1 = k)) = ks.any fun j => decide (j = k)
  | [], _, _ => by simp
  | _ :: _, [], h => by simp at h
  | j :: ks, x :: xs, h => by simp [any_zip (ks := ks) (xs := xs) (by simpa using h)]
theorem setK_zip {K : PySem.W.Frag} {F : Hp} {ks : List L2.Key} {ds : List D} {xs : List V} {j : L2.Key} {e : D} {v : V} (h : ks.length = ds.length) (r : Reps K F ds xs) (r1 : Rep K F e v) :
    ∃ ys, putK (ks.zip xs) j v = (addK ks j).zip ys ∧ Reps K F (setK ks ds j e) ys := by
  have hx : ks.length = xs.length := h.trans r.length
  unfold putK addK setK
  rw [any_zip hx]
  split
  · have key : ∀ {ks : List L2.Key} {ds : List D} {xs : List V}, ks.length = ds.length → Reps K F ds xs → ∃ ys, ((ks.zip xs).map fun kv => if kv.1 = j then (kv.1, v) else kv) = ks.zip ys ∧ Reps K F (List.zipWith (fun k d => if k = j then e else d) ks ds) ys := by
      intro ks
      induction ks with
      | nil => intro ds xs _ _; exact ⟨[], rfl, rfl⟩
      | cons k ks ih =>
        intro ds xs h r
        cases ds with
        | nil => simp at h
        | cons d ds =>
          obtain ⟨x, rr, rfl, h1, h2⟩ := r
          obtain ⟨ys, e1, e2⟩ := ih (by simpa using h) h2
          by_cases hk : k = j
          · exact ⟨v :: ys, by rw [List.zip_cons_cons, List.map_cons, e1, if_pos (show (k, x).1 = j from hk)]; rfl, v, ys, rfl, by show Rep K F (if k = j then e else d) v; rw [if_pos hk]; exact r1, e2⟩
          · exact ⟨x :: ys, by rw [List.zip_cons_cons, List.map_cons, e1, if_neg (show ¬ (k, x).1 = j from hk)]; rfl, x, ys, rfl, by show Rep K F (if k = j then e else d) x; rw [if_neg hk]; exact h1, e2⟩
    exact key h r
  · exact ⟨xs ++ [v], by rw [List.zip_append hx]; rfl, r.append (Reps.one r1)⟩
def keyD : D → Option L2.Key
  | .int i => some (.inl i)
  | .str x => some (.inr x)
  | _ => none
theorem keyD_ok {K : PySem.W.Frag} {F : Hp} {d : D} {k : L2.Key} {v : V} (r : Rep K F d v) (h : keyD d = some k) : v = kV k := by
  cases d with
  | int i => cases h; exact r
  | str x => cases h; exact r.1
  | _ => cases h
theorem keyD_sok {K : PySem.W.Frag} {F : Hp} {d : D} {k : L2.Key} {v : V} (r : Rep K F d v) (h : keyD d = some k) : ∀ x, Sum.inr x = k → SOk x := by
  cases d with
  | int i => cases h; intro x e; cases e
  | str x => cases h; intro y e; cases e; exact r.2
  | _ => cases h
theorem KsOk.set {ks : List L2.Key} {ds : List D} {j : L2.Key} {e : D} (h : KsOk ks ds) (hj : ∀ x, Sum.inr x = j → SOk x) : KsOk (addK ks j) (setK ks ds j e) := by
  refine ⟨setK_len h.1, fun x hx => ?_⟩
  unfold addK at hx
  split at hx
  · exact h.2 x hx
  · rcases List.mem_append.mp hx with hx | hx
    · exact h.2 x hx
    · exact hj x (List.mem_singleton.mp hx)
def dKey : L2.Key → D
  | .inl i => .int i
  | .inr x => .str x
/-- an object that may change, as it is tracked at p -/
def RepO (K : PySem.W.Frag) (F : Hp) (p : Addr) : MO → HO → Prop
  | .lst ds, u => ∃ xs, u = .lst xs ∧ Reps K F ds xs
  | .dct ks ds, u => ∃ xs, u = .dK (ks.zip xs) ∧ KsOk ks ds ∧ Reps K F ds xs
  | .ins c ds, u => ∃ dx xs, u = .ins (He.ga K c.nm) dx (c.fs.zip xs) ∧ ds.length ≤ c.fs.length ∧ Reps K F ds xs
  | .dkd w ks ds, u => ∃ Ls, u = DkO w p Ls ∧ ks = Ls.map (·.2.1) ∧ Reps K F ks (Ls.map fun r => .ref r.1) ∧ Reps K F ds (Ls.map (·.2.2))
theorem RepO.mono {K : PySem.W.Frag} {F F' : Hp} {p : Addr} (s : Same F F') : ∀ {o : MO} {u : HO}, RepO K F p o u → RepO K F' p o u
  | .lst _, _, ⟨xs, e, r⟩ => ⟨xs, e, r.mono s⟩
  | .dct _ _, _, ⟨xs, e, l, r⟩ => ⟨xs, e, l, r.mono s⟩
  | .ins _ _, _, ⟨dx, xs, e, l, r⟩ => ⟨dx, xs, e, l, r.mono s⟩
  | .dkd _ _ _, _, ⟨Ls, e, l, r1, r2⟩ => ⟨Ls, e, l, r1.mono s, r2.mono s⟩
/-- the heap is parted into F (frozen), M (may change), R (another's, kept as it is), and what nobody asks for -/
structure At (K : PySem.W.Frag) (R F : Hp) (M : Mp) (H : Hp) : Prop where
  fz : Same F H
  mu : ∀ a o, M a = some o → F a = none ∧ ∃ u, H a = some u ∧ RepO K F a o u
  fr : ∀ a o, R a = some o → F a = none ∧ M a = none ∧ H a = some o
section
variable {K : PySem.W.Frag} {R F F' : Hp} {M : Mp} {H : Hp} {p : Addr}
theorem At.freeF (a : At K R F M H) (h : H p = none) : F p = none := by
  cases e : F p with
  | none => rfl
  | some o => rw [a.fz _ _ e] at h; cases h
theorem At.freeM (a : At K R F M H) (h : H p = none) : M p = none := by
  cases e : M p with
  | none => rfl
  | some o => obtain ⟨_, u, q, _⟩ := a.mu _ _ e; rw [q] at h; cases h
theorem At.freeR (a : At K R F M H) (h : H p = none) : R p = none := by
  cases e : R p with
  | none => rfl
  | some o => rw [(a.fr _ _ e).2.2] at h; cases h
theorem same_upd {F : Hp} {o : HO} (h : F p = none) : Same F (upd F p o) := fun b u e => by
  rw [upd_ne (ne_of_none e h)]; exact e
/-- a new frozen object -/
theorem At.laid (a : At K R F M H) (h : H p = none) (o : HO) : At K R (upd F p o) M (upd H p o) ∧ Same F (upd F p o) := by
  have hF := a.freeF h
  refine ⟨⟨fun b u e => ?_, fun b u e => ?_, fun b u e => ?_⟩, same_upd hF⟩
  · by_cases hb : b = p
    · subst hb; rw [upd_same] at e ⊢; exact e
    · rw [upd_ne hb] at e ⊢; exact a.fz _ _ e
  · obtain ⟨h1, v, h2, h3⟩ := a.mu _ _ e
    have hb : b ≠ p := ne_of_none h2 h
    exact ⟨by rw [upd_ne hb]; exact h1, v, by rw [upd_ne hb]; exact h2, h3.mono (same_upd hF)⟩
  · have hb : b ≠ p := ne_of_none e (a.freeR h)
    rw [upd_ne hb, upd_ne hb]; exact a.fr _ _ e
/-- a new object that may change -/
theorem At.born (a : At K R F M H) (h : H p = none) {o : MO} {u : HO} (r : RepO K F p o u) : At K R F (mupd M p o) (upd H p u) := by
  refine ⟨fun b v e => ?_, fun b v e => ?_, fun b v e => ?_⟩
  · have hb : b ≠ p := fun z => by subst z; rw [a.freeF h] at e; cases e
    rw [upd_ne hb]; exact a.fz _ _ e
  · by_cases hb : b = p
    · subst hb; rw [mupd_same] at e; cases e; exact ⟨a.freeF h, u, upd_same, r⟩
    · rw [mupd_ne hb] at e; rw [upd_ne hb]; exact a.mu _ _ e
  · have hb : b ≠ p := ne_of_none e (a.freeR h)
    rw [upd_ne hb, mupd_ne hb]; exact a.fr _ _ e
/-- a new cell that nobody asks for -/
theorem At.skip (a : At K R F M H) (h : H p = none) (u : HO) : At K R F M (upd H p u) := by
  refine ⟨fun b v e => ?_, fun b v e => ?_, fun b v e => ?_⟩
  · have hb : b ≠ p := fun z => by subst z; rw [a.freeF h] at e; cases e
    rw [upd_ne hb]; exact a.fz _ _ e
  · have hb : b ≠ p := fun z => by subst z; rw [a.freeM h] at e; cases e
    rw [upd_ne hb]; exact a.mu _ _ e
  · have hb : b ≠ p := fun z => by subst z; rw [a.freeR h] at e; cases e
    rw [upd_ne hb]; exact a.fr _ _ e
/-- an object changes -/
theorem At.wrote (a : At K R F M H) {o' o : MO} {u : HO} (h : M p = some o') (r : RepO K F p o u) : At K R F (mupd M p o) (upd H p u) := by
  obtain ⟨hF, _⟩ := a.mu _ _ h
  refine ⟨fun b v e => ?_, fun b v e => ?_, fun b v e => ?_⟩
  · have hb : b ≠ p := fun z => by subst z; rw [hF] at e; cases e
    rw [upd_ne hb]; exact a.fz _ _ e
  · by_cases hb : b = p
    · subst hb; rw [mupd_same] at e; cases e; exact ⟨hF, u, upd_same, r⟩
    · rw [mupd_ne hb] at e; rw [upd_ne hb]; exact a.mu _ _ e
  · have hb : b ≠ p := fun z => by subst z; rw [(a.fr _ _ e).2.1] at h; cases h
    rw [upd_ne hb, mupd_ne hb]; exact a.fr _ _ e
/-- an object is frozen -/
theorem At.freeze (a : At K R F M H) {o : MO} (h : M p = some o) : ∃ u, RepO K F p o u ∧ At K R (upd F p u) (mdel M p) H ∧ Same F (upd F p u) := by
  obtain ⟨hF, u, hH, r⟩ := a.mu _ _ h
  refine ⟨u, r, ⟨fun b v e => ?_, fun b v e => ?_, fun b v e => ?_⟩, same_upd hF⟩
  · by_cases hb : b = p
    · subst hb; rw [upd_same] at e; cases e; exact hH
    · rw [upd_ne hb] at e; exact a.fz _ _ e
  · have hb : b ≠ p := fun z => by subst z; rw [mdel_same] at e; cases e
    rw [mdel_ne hb] at e
    obtain ⟨h1, v, h2, h3⟩ := a.mu _ _ e
    exact ⟨by rw [upd_ne hb]; exact h1, v, h2, h3.mono (same_upd hF)⟩
  · have hb : b ≠ p := fun z => by subst z; rw [(a.fr _ _ e).2.1] at h; cases h
    rw [upd_ne hb, mdel_ne hb]; exact a.fr _ _ e
/-- an object is frozen, and its cell is written anew -/
theorem At.freezeAs (a : At K R F M H) {o : MO} (h : M p = some o) (u' : HO) : At K R (upd F p u') (mdel M p) (upd H p u') ∧ Same F (upd F p u') := by
  obtain ⟨hF, u, hH, r⟩ := a.mu _ _ h
  refine ⟨⟨fun b v e => ?_, fun b v e => ?_, fun b v e => ?_⟩, same_upd hF⟩
  · by_cases hb : b = p
    · subst hb; rw [upd_same] at e ⊢; exact e
    · rw [upd_ne hb] at e ⊢; exact a.fz _ _ e
  · have hb : b ≠ p := fun z => by subst z; rw [mdel_same] at e; cases e
    rw [mdel_ne hb] at e
    obtain ⟨h1, v, h2, h3⟩ := a.mu _ _ e
    exact ⟨by rw [upd_ne hb]; exact h1, v, by rw [upd_ne hb]; exact h2, h3.mono (same_upd hF)⟩
  · have hb : b ≠ p := fun z => by subst z; rw [(a.fr _ _ e).2.1] at h; cases h
    rw [upd_ne hb, mdel_ne hb, upd_ne hb]; exact a.fr _ _ e
/-- a cell that nobody has becomes another's -/
theorem At.lend (a : At K R F M H) (h : H p = none) (u : HO) : At K (upd R p u) F M (upd H p u) := by
  refine ⟨fun b v e => ?_, fun b v e => ?_, fun b v e => ?_⟩
  · have hb : b ≠ p := ne_of_none e (a.freeF h)
    rw [upd_ne hb]; exact a.fz _ _ e
  · have hb : b ≠ p := fun z => by subst z; rw [a.freeM h] at e; cases e
    rw [upd_ne hb]; exact a.mu _ _ e
  · by_cases hb : b = p
    · subst hb; rw [upd_same] at e ⊢; exact ⟨a.freeF h, a.freeM h, e⟩
    · rw [upd_ne hb] at e ⊢; exact a.fr _ _ e
/-- .. and changes -/
theorem At.relend {u : HO} (a : At K (upd R p u) F M H) (u' : HO) : At K (upd R p u') F M (upd H p u') := by
  obtain ⟨h1, h2, h3⟩ := a.fr p u upd_same
  refine ⟨fun b v e => ?_, fun b v e => ?_, fun b v e => ?_⟩
  · have hb : b ≠ p := ne_of_none e h1
    rw [upd_ne hb]; exact a.fz _ _ e
  · have hb : b ≠ p := fun z => by subst z; rw [h2] at e; cases e
    rw [upd_ne hb]; exact a.mu _ _ e
  · by_cases hb : b = p
    · subst hb; rw [upd_same] at e ⊢; exact ⟨h1, h2, e⟩
    · rw [upd_ne hb] at e ⊢; exact a.fr _ _ (by rw [upd_ne hb]; exact e)
/-- .. and is frozen -/
theorem At.takeF {u : HO} (a : At K (upd R p u) F M H) (hR : R p = none) : At K R (upd F p u) M H ∧ Same F (upd F p u) := by
  obtain ⟨h1, h2, h3⟩ := a.fr p u upd_same
  refine ⟨⟨fun b v e => ?_, fun b v e => ?_, fun b v e => ?_⟩, same_upd h1⟩
  · by_cases hb : b = p
    · subst hb; rw [upd_same] at e; cases e; exact h3
    · rw [upd_ne hb] at e; exact a.fz _ _ e
  · have hb : b ≠ p := fun z => by subst z; rw [h2] at e; cases e
    obtain ⟨z1, v, z2, z3⟩ := a.mu _ _ e
    exact ⟨by rw [upd_ne hb]; exact z1, v, z2, z3.mono (same_upd h1)⟩
  · have hb : b ≠ p := ne_of_none e hR
    rw [upd_ne hb]; exact a.fr _ _ (by rw [upd_ne hb]; exact e)
/-- .. or stands as an object that may change -/
theorem At.takeM {u : HO} {o : MO} (a : At K (upd R p u) F M H) (hR : R p = none) (r : RepO K F p o u) : At K R F (mupd M p o) H := by
  obtain ⟨h1, h2, h3⟩ := a.fr p u upd_same
  refine ⟨a.fz, fun b v e => ?_, fun b v e => ?_⟩
  · by_cases hb : b = p
    · subst hb; rw [mupd_same] at e; cases e; exact ⟨h1, u, h3, r⟩
    · rw [mupd_ne hb] at e; exact a.mu _ _ e
  · have hb : b ≠ p := ne_of_none e hR
    rw [mupd_ne hb]; exact a.fr _ _ (by rw [upd_ne hb]; exact e)
end
/-! ### slots -/
abbrev DEnv := List (Option D)
structure EnvR (K : PySem.W.Frag) (F : Hp) (σ : L2.St) (env : DEnv) : Prop where
  len : σ.length = env.length
  get : ∀ (i : Nat) (d : D), env[i]? = some (some d) → ∃ v, σ[i]? = some (some v) ∧ Rep K F d v
section
variable {K : PySem.W.Frag} {F F' : Hp} {σ : L2.St} {env : DEnv}
theorem EnvR.mono (s : Same F F') (e : EnvR K F σ env) : EnvR K F' σ env := ⟨e.len, fun i d h => by
  obtain ⟨v, h1, h2⟩ := e.get i d h
  exact ⟨v, h1, h2.mono s⟩⟩
theorem EnvR.set (e : EnvR K F σ env) {d : D} {v : V} (i : Nat) (r : Rep K F d v) : EnvR K F (σ.set i (some v)) (env.set i (some d)) := by
  refine ⟨by simp [e.len], fun j g h => ?_⟩
  by_cases hj : i = j
  · subst hj
    by_cases hi : i < env.length
    · rw [List.getElem?_set_self hi] at h
      cases h
      exact ⟨v, List.getElem?_set_self (by rw [e.len]; exact hi), r⟩
    · rw [List.getElem?_eq_none (by simpa using hi)] at h; cases h
  · rw [List.getElem?_set_ne hj] at h ⊢
    exact e.get j g h
theorem EnvR.forget (e : EnvR K F σ env) (i : Nat) : EnvR K F (σ.set i none) (env.set i none) := by
  refine ⟨by simp [e.len], fun j g h => ?_⟩
  by_cases hj : i = j
  · subst hj
    by_cases hi : i < env.length
    · rw [List.getElem?_set_self hi] at h; cases h
    · rw [List.getElem?_eq_none (by simpa using hi)] at h; cases h
  · rw [List.getElem?_set_ne hj] at h ⊢
    exact e.get j g h
end
def wipeD (env : DEnv) : List Nat → DEnv
  | [] => env
  | v :: vs => (wipeD env vs).set v none
theorem EnvR.wipe {K : PySem.W.Frag} {F : Hp} {σ : L2.St} {env : DEnv} (e : EnvR K F σ env) : ∀ vs : List Nat, EnvR K F (wipe σ vs) (wipeD env vs)
  | [] => e
  | v :: vs => (EnvR.wipe e vs).forget v
/-! ### readings -/
/-- two ways -/
def brn (c : Bool) (A B : Prop) : Prop := match c with
  | true => A
  | false => B
theorem brn_t {A B : Prop} : brn true A B = A := rfl
theorem brn_f {A B : Prop} : brn false A B = B := rfl
theorem brn_by {c : Bool} {A B : Prop} (h1 : c = true → A) (h2 : c = false → B) : brn c A B := by
  cases c with
  | true => exact h1 rfl
  | false => exact h2 rfl
abbrev DK := D → Mp → Prop
abbrev DE := DEnv → Mp → DK → Prop
abbrev DT := DEnv → Mp → (Bool → Mp → Prop) → Prop
abbrev DA := DEnv → Mp → (List D → Mp → Prop) → Prop
structure DEnds where
  nx : DEnv → Mp → Prop
  rt : DK
  bk : DEnv → Mp → Prop := fun _ _ => False
  ct : DEnv → Mp → Prop := fun _ _ => False
abbrev DS := DEnds → DEnv → Mp → Prop
/-- what is wanted of a value, by data -/
def KD (K : PySem.W.Frag) (R F : Hp) (Qd : DK) (Q : VK) : Prop := ∀ F' H' M' d v, Same F F' → At K R F' M' H' → Rep K F' d v → Qd d M' → Q v H'
def KT (K : PySem.W.Frag) (R F : Hp) (Qd : Bool → Mp → Prop) (Q : Bool → Hp → Prop) : Prop := ∀ F' H' M' b, Same F F' → At K R F' M' H' → Qd b M' → Q b H'
def KA (K : PySem.W.Frag) (R F : Hp) (n : Nat) (Qd : List D → Mp → Prop) (Q : List V → Hp → Prop) : Prop := ∀ F' H' M' ds vs, Same F F' → At K R F' M' H' → Reps K F' ds vs → ds.length = n → Qd ds M' → Q vs H'
def KN (K : PySem.W.Frag) (R F : Hp) (Qd : DEnv → Mp → Prop) (Q : L2.St → Hp → Prop) : Prop := ∀ F' H' M' env σ, Same F F' → At K R F' M' H' → EnvR K F' σ env → Qd env M' → Q σ H'
theorem KD.mono {K : PySem.W.Frag} {R F F1 : Hp} {Qd : DK} {Q : VK} (k : KD K R F Qd Q) (s : Same F F1) : KD K R F1 Qd Q := fun F' H' M' d v s' => k F' H' M' d v (s.trans s')
theorem KT.mono {K : PySem.W.Frag} {R F F1 : Hp} {Qd : Bool → Mp → Prop} {Q : Bool → Hp → Prop} (k : KT K R F Qd Q) (s : Same F F1) : KT K R F1 Qd Q := fun F' H' M' d s' => k F' H' M' d (s.trans s')
theorem KA.mono {K : PySem.W.Frag} {R F F1 : Hp} {n : Nat} {Qd : List D → Mp → Prop} {Q : List V → Hp → Prop} (k : KA K R F n Qd Q) (s : Same F F1) : KA K R F1 n Qd Q := fun F' H' M' d v s' => k F' H' M' d v (s.trans s')
theorem KN.mono {K : PySem.W.Frag} {R F F1 : Hp} {Qd : DEnv → Mp → Prop} {Q : L2.St → Hp → Prop} (k : KN K R F Qd Q) (s : Same F F1) : KN K R F1 Qd Q := fun F' H' M' d v s' => k F' H' M' d v (s.trans s')
structure KE (K : PySem.W.Frag) (R F : Hp) (Dd : DEnds) (D : Ends) : Prop where
  nx : KN K R F Dd.nx D.nx
  rt : KD K R F Dd.rt D.rt
  bk : KN K R F Dd.bk D.bk
  ct : KN K R F Dd.ct D.ct
theorem KE.mono {K : PySem.W.Frag} {R F F1 : Hp} {Dd : DEnds} {D : Ends} (k : KE K R F Dd D) (s : Same F F1) : KE K R F1 Dd D := ⟨k.nx.mono s, k.rt.mono s, k.bk.mono s, k.ct.mono s⟩
def up (K : PySem.W.Frag) (t : DE) : TE := fun σ H Q => ∃ R F env M Qd, At K R F M H ∧ EnvR K F σ env ∧ t env M Qd ∧ KD K R F Qd Q
def upT (K : PySem.W.Frag) (t : DT) : TT := fun σ H Q => ∃ R F env M Qd, At K R F M H ∧ EnvR K F σ env ∧ t env M Qd ∧ KT K R F Qd Q
def upA (K : PySem.W.Frag) (n : Nat) (t : DA) : TA := fun σ H Q => ∃ R F env M Qd, At K R F M H ∧ EnvR K F σ env ∧ t env M Qd ∧ KA K R F n Qd Q
def upS (K : PySem.W.Frag) (t : DS) : TS := fun D σ H => ∃ R F env M Dd, At K R F M H ∧ EnvR K F σ env ∧ t Dd env M ∧ KE K R F Dd D
abbrev PDE (X : Cx) (e : Expr) (t : DE) : Prop := PE X e (up X.K t)
abbrev PDT (X : Cx) (e : Expr) (t : DT) : Prop := PT X e (upT X.K t)
abbrev PDA (X : Cx) (es : List Expr) (t : DA) : Prop := PA X es (upA X.K es.length t)
abbrev PDS (X : Cx) (st : Stmt) (t : DS) : Prop := PS X st (upS X.K t)
abbrev PDSs (X : Cx) (st : List Stmt) (t : DS) : Prop := PSs X st (upS X.K t)
section
variable {X : Cx}
theorem pe_imp {e : Expr} {t t' : TE} (h : PE X e t) (i : ∀ σ H Q, t' σ H Q → t σ H Q) : PE X e t' := ⟨fun pins s σ H Q I q => h.run pins s σ H Q I (i _ _ _ q)⟩
theorem pt_imp {e : Expr} {t t' : TT} (h : PT X e t) (i : ∀ σ H Q, t' σ H Q → t σ H Q) : PT X e t' := ⟨fun pins s σ H Q I q => h.run pins s σ H Q I (i _ _ _ q)⟩
theorem pw_imp {e : Expr} {t t' : TT} (h : PW X e t) (i : ∀ σ H Q, t' σ H Q → t σ H Q) : PW X e t' := ⟨fun wh pins s σ H Q I q => h.run wh pins s σ H Q I (i _ _ _ q)⟩
theorem pa_imp {es : List Expr} {t t' : TA} (h : PA X es t) (i : ∀ σ H Q, t' σ H Q → t σ H Q) : PA X es t' := ⟨fun pos pins s σ H Q I q => h.run pos pins s σ H Q I (i _ _ _ q)⟩
theorem ps_imp {st : Stmt} {t t' : TS} (h : PS X st t) (i : ∀ D σ H, t' D σ H → t D σ H) : PS X st t' := ⟨fun pins s σ H D I q => h.run pins s σ H D I (i _ _ _ q)⟩
theorem pss_imp {st : List Stmt} {t t' : TS} (h : PSs X st t) (i : ∀ D σ H, t' D σ H → t D σ H) : PSs X st t' := ⟨fun pins s σ H D I q => h.run pins s σ H D I (i _ _ _ q)⟩
/-! ### names and constants -/
def dVar (i : Nat) : DE := fun env M Q => match env[i]? with
  | some (some d) => Q d M
  | _ => False
theorem dv (i : Nat) {x : Str} {pos : Pos} (hN : X.N[i]? = some x := by rfl) (hv : Vis X.env.scope x := by first | exact Or.inl rfl | exact Or.inr (Or.inl rfl) | exact Or.inr (Or.inr rfl)) (hd : (x == ("__debug__" : Str)) = false := by decide)
    (hcd : (x == ("__classdict__" : Str)) = false := by decide) : PDE X (.Name x pos) (dVar i) := by
  refine pe_imp (pe_var hN hv hd hcd) fun σ H Q ⟨R, F, env, M, Qd, a, e, h, k⟩ => ?_
  unfold dVar at h
  split at h
  · rename_i d hi
    obtain ⟨v, h1, h2⟩ := e.get i d hi
    exact ⟨v, h1, k F H M d v (Same.refl F) a h2 h⟩
  · exact h.elim
def dC (d : D) : DE := fun _ M Q => Q d M
theorem upC {K : PySem.W.Frag} {d : D} {v : V} (hr : ∀ F, Rep K F d v) : ∀ σ H Q, up K (dC d) σ H Q → tC v σ H Q := fun σ H Q ⟨R, F, env, M, Qd, a, e, h, k⟩ => k F H M d v (Same.refl F) a (hr F) h
theorem pd_int {i j pos} : PDE X (.Constant (.int i) j pos) (dC (.int i)) := pe_imp pe_int (upC fun _ => rfl)
theorem pd_bl {b j pos} : PDE X (.Constant (.bool b) j pos) (dC (.bl b)) := pe_imp pe_bl (upC fun _ => rfl)
theorem pd_non {j pos} : PDE X (.Constant .none j pos) (dC .non) := pe_imp pe_non (upC fun _ => rfl)
theorem pd_str {x j pos} (h : SOk x := by decide +kernel) : PDE X (.Constant (.str x) j pos) (dC (.str x)) := pe_imp pe_str (upC fun _ => ⟨rfl, h⟩)
/-- a module's constant -/
theorem pd_glob {x : Str} {d : D} {v : V} {u : Value} {pos : Pos} (hg : Gl X x) (hm : X.mg x = some u) (r : RelV v u) (hr : ∀ F, Rep X.K F d v) (hd : (x == ("__debug__" : Str)) = false := by decide) : PDE X (.Name x pos) (dC d) := pe_imp (pe_glob hg hm r hd) (upC hr)
theorem pd_globI {x : Str} {i : Int} {t : Tok} {pos : Pos} (hg : Gl X x) (hm : X.mg x = some (.int i t)) (hd : (x == ("__debug__" : Str)) = false := by decide) : PDE X (.Name x pos) (dC (.int i)) := pd_glob (v := .int i) hg hm ⟨t, rfl⟩ (fun _ => rfl) hd
theorem pd_globS {x z : Str} {t : Tok} {pos : Pos} (hg : Gl X x) (hm : X.mg x = some (.str z t)) (hz : SOk z := by decide +kernel) (hd : (x == ("__debug__" : Str)) = false := by decide) : PDE X (.Name x pos) (dC (.str z)) := pd_glob (v := .str z) hg hm ⟨t, rfl⟩ (fun _ => ⟨rfl, hz⟩) hd
/-- a built-in class as a value -/
theorem pd_ty {x : Str} {n : String} {pos : Pos} (hg : Gl X x) (hm : X.mg x = none) (hv : bootBuiltins x = some (.type n)) (hn : x ≠ "__name__" := by decide) (hd : (x == ("__debug__" : Str)) = false := by decide) : PDE X (.Name x pos) (dC (.ty n)) := pe_imp (pe_bltn (v := .ty n) hg hm hv rfl hn hd) (upC fun _ => rfl)
/-! ### operators -/
abbrev R2D := D → D → Mp → DK → Prop
def dBin (r : R2D) (ta tb : DE) : DE := fun env M Q => ta env M fun x M1 => tb env M1 fun y M2 => r x y M2 Q
/-- a rule on values serves a rule on data -/
def Serves2 (K : PySem.W.Frag) (r : R2D) (rV : R2) : Prop := ∀ R F M H d e x y Qd Q, At K R F M H → Rep K F d x → Rep K F e y → r d e M Qd → KD K R F Qd Q → rV x y H Q
theorem up_bin {K : PySem.W.Frag} {r : R2D} {rV : R2} {ta tb : DE} (hs : Serves2 K r rV) : ∀ σ H Q, up K (dBin r ta tb) σ H Q → tOp rV (up K ta) (up K tb) σ H Q := fun σ H Q ⟨R, F, env, M, Qd, a, e, h, k⟩ =>
  ⟨R, F, env, M, _, a, e, h, fun F1 H1 M1 d v s1 a1 r1 h1 => ⟨R, F1, env, M1, _, a1, e.mono s1, h1, fun F2 H2 M2 d2 v2 s2 a2 r2 h2 => hs R F2 M2 H2 d d2 v v2 Qd Q a2 (r1.mono s2) r2 h2 (k.mono (s1.trans s2))⟩⟩
structure OpD (X : Cx) (f : Value → Value → Sem Value) (r : R2D) : Prop where
  ex : ∃ rV, OpR X f rV ∧ Serves2 X.K r rV
variable {a b c : Expr} {ta tb tc : DE} {pos : Pos}
theorem pd_op {op : Operator} {r : R2D} (ho : OpD X (binaryOp op) r) (ha : PDE X a ta) (hb : PDE X b tb) : PDE X (.BinOp a op b pos) (dBin r ta tb) := by
  obtain ⟨rV, h1, h2⟩ := ho.ex
  exact pe_imp (pe_op h1 ha hb) (up_bin h2)
theorem pd_cmp {op : CmpOp} {r : R2D} (ho : OpD X (compareOp op) r) (ha : PDE X a ta) (hb : PDE X b tb) (hm : behindInMarks op b = false := by first | exact nomark _ | rfl) : PDE X (.Compare a [op] [b] pos) (dBin r ta tb) := by
  obtain ⟨rV, h1, h2⟩ := ho.ex
  exact pe_imp (pe_cmpR h1 ha hb hm) (up_bin h2)
/-- a reading of a truth value as a test -/
def dTest (t : DE) : DT := fun env M Q => t env M fun d M1 => match d with
  | .bl b => Q b M1
  | _ => False
theorem up_test {K : PySem.W.Frag} {t : DE} {tV : TE} (h : ∀ σ H Q, up K t σ H Q → tV σ H Q) : ∀ σ H Q, upT K (dTest t) σ H Q → tTest tV σ H Q := fun σ H Q ⟨R, F, env, M, Qd, a, e, h1, k⟩ => by
  refine h σ H _ ⟨R, F, env, M, _, a, e, h1, fun F' H' M' d v s a' r q => ?_⟩
  cases d with
  | bl b => exact ⟨b, r, k F' H' M' b s a' q⟩
  | _ => exact q.elim
theorem pdt_cmp {op : CmpOp} {r : R2D} (ho : OpD X (compareOp op) r) (ha : PDE X a ta) (hb : PDE X b tb) (hm : behindInMarks op b = false := by first | exact nomark _ | rfl) : PDT X (.Compare a [op] [b] pos) (dTest (dBin r ta tb)) := by
  obtain ⟨rV, h1, h2⟩ := ho.ex
  exact pt_imp (pt_cmpR h1 ha hb hm) (up_test (up_bin h2))
def dChain (r r' : R2D) (ta tb tc : DE) : DE := fun env M Q => ta env M fun x M1 => tb env M1 fun y M2 => r x y M2 fun z M3 => match z with
  | .bl k => brn k (tc env M3 fun w M4 => r' y w M4 Q) (Q (.bl false) M3)
  | _ => False
theorem up_chain {K : PySem.W.Frag} {r r' : R2D} {rV rV' : R2} (hs : Serves2 K r rV) (hs' : Serves2 K r' rV') : ∀ σ H Q, up K (dChain r r' ta tb tc) σ H Q → tChain rV rV' (up K ta) (up K tb) (up K tc) σ H Q := fun σ H Q ⟨R, F, env, M, Qd, a, e, h, k⟩ =>
  ⟨R, F, env, M, _, a, e, h, fun F1 H1 M1 d v s1 a1 r1 h1 => ⟨R, F1, env, M1, _, a1, e.mono s1, h1, fun F2 H2 M2 d2 v2 s2 a2 r2 h2 => by
    refine hs R F2 M2 H2 d d2 v v2 _ _ a2 (r1.mono s2) r2 h2 fun F3 H3 M3 d3 v3 s3 a3 r3 h3 => ?_
    cases d3 with
    | bl b =>
      refine ⟨b, r3, ?_⟩
      change brn b _ _ at h3
      cases b with
      | true =>
        rw [brn_t] at h3; rw [if_pos rfl]
        exact ⟨R, F3, env, M3, _, a3, ((e.mono s1).mono s2).mono s3, h3, fun F4 H4 M4 d4 v4 s4 a4 r4 h4 => hs' R F4 M4 H4 d2 d4 v2 v4 Qd Q a4 (r2.mono (s3.trans s4)) r4 h4 (k.mono (((s1.trans s2).trans s3).trans s4))⟩
      | false =>
        rw [brn_f] at h3; rw [if_neg Bool.false_ne_true]
        exact k F3 H3 M3 (.bl false) (.bl false) ((s1.trans s2).trans s3) a3 (show Rep _ _ (.bl false) _ from rfl) h3
    | _ => exact h3.elim⟩⟩
theorem pd_chain {op op' : CmpOp} {r r' : R2D} (ho : OpD X (compareOp op) r) (ho' : OpD X (compareOp op') r') (ha : PDE X a ta) (hb : PDE X b tb) (hc : PDE X c tc)
    (hm : lastMarks [op, op'] [b, c] = false := by with_unfolding_all rfl) : PDE X (.Compare a [op, op'] [b, c] pos) (dChain r r' ta tb tc) := by
  obtain ⟨rV, h1, h2⟩ := ho.ex
  obtain ⟨rV', h1', h2'⟩ := ho'.ex
  exact pe_imp (pe_chain h1 h1' ha hb hc hm) (up_chain h2 h2')
theorem pdt_chain {op op' : CmpOp} {r r' : R2D} (ho : OpD X (compareOp op) r) (ho' : OpD X (compareOp op') r') (ha : PDE X a ta) (hb : PDE X b tb) (hc : PDE X c tc)
    (hm : lastMarks [op, op'] [b, c] = false := by with_unfolding_all rfl) : PDT X (.Compare a [op, op'] [b, c] pos) (dTest (dChain r r' ta tb tc)) := by
  obtain ⟨rV, h1, h2⟩ := ho.ex
  obtain ⟨rV', h1', h2'⟩ := ho'.ex
  exact pt_imp (pt_chain h1 h1' ha hb hc hm) (up_test (up_chain h2 h2'))
/-- one argument -/
def dUn (r : D → Mp → DK → Prop) (ta : DE) : DE := fun env M Q => ta env M fun x M1 => r x M1 Q
def rNegI : D → Mp → DK → Prop := fun d M Q => match d with
  | .int i => Q (.int (-i)) M
  | _ => False
theorem pd_neg (ha : PDE X a ta) : PDE X (.UnaryOp .USub a pos) (dUn rNegI ta) := by
  refine pe_imp (pe_un un_neg ha) fun σ H Q ⟨R, F, env, M, Qd, a, e, h, k⟩ => ⟨R, F, env, M, _, a, e, h, fun F1 H1 M1 d v s1 a1 r1 h1 => ?_⟩
  cases d with
  | int i => exact ⟨i, r1, k F1 H1 M1 (.int (-i)) _ s1 a1 rfl h1⟩
  | _ => exact h1.elim
/-! ### truth -/
def truD (M : Mp) : D → Option Bool
  | .non => some false
  | .bl b => some b
  | .int i => some (i != 0)
  | .str x => some ((x.length : Int) != 0)
  | .tup ds => some (!ds.isEmpty)
  | .lst ds => some (!ds.isEmpty)
  | .ref a => match M a with
    | some (.lst ds) => some (!ds.isEmpty)
    | some (.dct ks _) => some (!ks.isEmpty)
    | _ => none
  | _ => none
def dTru (ta : DE) : DT := fun env M Q => ta env M fun d M1 => match truD M1 d with
  | some b => Q b M1
  | none => False
theorem tru_ok {K : PySem.W.Frag} {R F : Hp} {M : Mp} {H : Hp} (a : At K R F M H) : ∀ {d : D} {v : V} {b : Bool}, Rep K F d v → truD M d = some b → TruV K v H b
  | .non, _, _, r, h => by cases r; cases h; rfl
  | .bl _, _, _, r, h => by cases r; cases h; rfl
  | .int _, _, _, r, h => by cases r; cases h; rfl
  | .str _, _, _, r, h => by obtain ⟨r, z⟩ := r; cases r; cases h; exact ⟨z.1, rfl⟩
  | .tup ds, _, _, ⟨p, xs, e, q, r⟩, h => by
    subst e; cases h; rw [r.isEmpty]; exact .inr (.inl ⟨xs, Same.seqT a.fz q, rfl⟩)
  | .lst ds, _, _, ⟨p, xs, e, q, r⟩, h => by
    subst e; cases h; rw [r.isEmpty]; exact .inl ⟨xs, SqL.of (a.fz _ _ q), rfl⟩
  | .ref p, _, _, r, h => by
    cases r
    simp only [truD] at h
    split at h
    · rename_i ds hm
      cases h
      obtain ⟨_, u, hu, xs, e, r⟩ := a.mu _ _ hm
      subst e
      rw [r.isEmpty]
      exact .inl ⟨xs, SqL.of hu, rfl⟩
    · rename_i ks ds hm
      cases h
      obtain ⟨_, u, hu, xs, e, l, r⟩ := a.mu _ _ hm
      subst e
      refine .inr (.inr ⟨_, hu, ?_⟩)
      rw [isEmpty_zip (by rw [l.1, r.length])]
    · cases h
  | .ty _, _, _, _, h => by cases h
  | .lsk _, _, _, _, h => by cases h
  | .dct _ _, _, _, _, h => by cases h
  | .obj _ _, _, _, _, h => by cases h
  | .dkd _ _ _, _, _, _, h => by cases h
theorem pdt (ha : PDE X a ta) (he : ∀ whole, isTrue a X.env whole = (do let v ← whole; standAt a.pos; holding [v] (truthy v)) := by intro _; rfl) : PDT X a (dTru ta) := by
  refine pt_imp (pt_truth ha he) fun σ H Q ⟨R, F, env, M, Qd, a, e, h, k⟩ => ⟨R, F, env, M, _, a, e, h, fun F1 H1 M1 d v s1 a1 r1 h1 => ?_⟩
  split at h1
  · rename_i b hb
    exact ⟨b, tru_ok a1 r1 hb, k F1 H1 M1 b s1 a1 h1⟩
  · exact h1.elim
/-! ### and, or, not -/
abbrev PDW (X : Cx) (e : Expr) (t : DT) : Prop := PW X e (upT X.K t)
variable {tA tB : DT} {rest : List Expr}
def dAnd (t u : DT) : DT := fun env M Q => t env M fun c M1 => brn c (u env M1 Q) (Q false M1)
def dOr (t u : DT) : DT := fun env M Q => t env M fun c M1 => brn c (Q true M1) (u env M1 Q)
def dNot (t : DT) : DT := fun env M Q => t env M fun c M1 => Q (!c) M1
theorem pdw_and1 (ha : PDT X a tA) : PDW X (.BoolOp .And [a] pos) tA := pw_and1 ha
theorem pdw_or1 (ha : PDT X a tA) : PDW X (.BoolOp .Or [a] pos) tA := pw_or1 ha
theorem pdw_and (ha : PDT X a tA) (hb : PDW X (.BoolOp .And (b :: rest) pos) tB) : PDW X (.BoolOp .And (a :: b :: rest) pos) (dAnd tA tB) := by
  refine pw_imp (pw_and ha hb) fun σ H Q ⟨R, F, env, M, Qd, a, e, h, k⟩ => ⟨R, F, env, M, _, a, e, h, fun F1 H1 M1 b s1 a1 h1 => ?_⟩
  cases b with
  | true => rw [brn_t] at h1; rw [if_pos rfl]; exact ⟨R, F1, env, M1, Qd, a1, e.mono s1, h1, k.mono s1⟩
  | false => rw [brn_f] at h1; rw [if_neg Bool.false_ne_true]; exact k F1 H1 M1 _ s1 a1 h1
theorem pdw_or (ha : PDT X a tA) (hb : PDW X (.BoolOp .Or (b :: rest) pos) tB) : PDW X (.BoolOp .Or (a :: b :: rest) pos) (dOr tA tB) := by
  refine pw_imp (pw_or ha hb) fun σ H Q ⟨R, F, env, M, Qd, a, e, h, k⟩ => ⟨R, F, env, M, _, a, e, h, fun F1 H1 M1 b s1 a1 h1 => ?_⟩
  cases b with
  | true => rw [brn_t] at h1; rw [if_pos rfl]; exact k F1 H1 M1 _ s1 a1 h1
  | false => rw [brn_f] at h1; rw [if_neg Bool.false_ne_true]; exact ⟨R, F1, env, M1, Qd, a1, e.mono s1, h1, k.mono s1⟩
theorem pdt_not (ha : PDT X a tA) : PDT X (.UnaryOp .Not a pos) (dNot tA) := by
  refine pt_imp (pt_not ha) fun σ H Q ⟨R, F, env, M, Qd, a, e, h, k⟩ => ⟨R, F, env, M, _, a, e, h, fun F1 H1 M1 b s1 a1 h1 => k F1 H1 M1 _ s1 a1 h1⟩
/-- as values -/
def dAndV (ta tb : DE) : DE := fun env M Q => ta env M fun x M1 => match truD M1 x with
  | some c => brn c (tb env M1 Q) (Q x M1)
  | none => False
def dOrV (ta tb : DE) : DE := fun env M Q => ta env M fun x M1 => match truD M1 x with
  | some c => brn c (Q x M1) (tb env M1 Q)
  | none => False
def dNotV (ta : DE) : DE := fun env M Q => ta env M fun x M1 => match truD M1 x with
  | some c => Q (.bl (!c)) M1
  | none => False
theorem pd_one {op} (h : PDE X a ta) : PDE X (.BoolOp op [a] pos) ta := pe_one h
theorem pd_and (ha : PDE X a ta) (hb : PDE X (.BoolOp .And (b :: rest) pos) tb) : PDE X (.BoolOp .And (a :: b :: rest) pos) (dAndV ta tb) := by
  refine pe_imp (pe_andT ha hb) fun σ H Q ⟨R, F, env, M, Qd, a, e, h, k⟩ => ⟨R, F, env, M, _, a, e, h, fun F1 H1 M1 d v s1 a1 r1 h1 => ?_⟩
  split at h1
  · rename_i c hc
    refine ⟨c, tru_ok a1 r1 hc, ?_⟩
    cases c with
    | true => rw [brn_t] at h1; rw [if_pos rfl]; exact ⟨R, F1, env, M1, Qd, a1, e.mono s1, h1, k.mono s1⟩
    | false => rw [brn_f] at h1; rw [if_neg Bool.false_ne_true]; exact k F1 H1 M1 _ _ s1 a1 r1 h1
  · exact h1.elim
theorem pd_or (ha : PDE X a ta) (hb : PDE X (.BoolOp .Or (b :: rest) pos) tb) : PDE X (.BoolOp .Or (a :: b :: rest) pos) (dOrV ta tb) := by
  refine pe_imp (pe_orT ha hb) fun σ H Q ⟨R, F, env, M, Qd, a, e, h, k⟩ => ⟨R, F, env, M, _, a, e, h, fun F1 H1 M1 d v s1 a1 r1 h1 => ?_⟩
  split at h1
  · rename_i c hc
    refine ⟨c, tru_ok a1 r1 hc, ?_⟩
    cases c with
    | true => rw [brn_t] at h1; rw [if_pos rfl]; exact k F1 H1 M1 _ _ s1 a1 r1 h1
    | false => rw [brn_f] at h1; rw [if_neg Bool.false_ne_true]; exact ⟨R, F1, env, M1, Qd, a1, e.mono s1, h1, k.mono s1⟩
  · exact h1.elim
theorem pd_not (ha : PDE X a ta) : PDE X (.UnaryOp .Not a pos) (dNotV ta) := by
  refine pe_imp (pe_notT ha) fun σ H Q ⟨R, F, env, M, Qd, a, e, h, k⟩ => ⟨R, F, env, M, _, a, e, h, fun F1 H1 M1 d v s1 a1 r1 h1 => ?_⟩
  split at h1
  · rename_i c hc
    exact ⟨c, tru_ok a1 r1 hc, k F1 H1 M1 (.bl (!c)) _ s1 a1 rfl h1⟩
  · exact h1.elim
def dIf (t : DT) (ta tb : DE) : DE := fun env M Q => t env M fun c M1 => brn c (ta env M1 Q) (tb env M1 Q)
theorem pd_if (hc : PDT X c tA) (ha : PDE X a ta) (hb : PDE X b tb) : PDE X (.IfExp c a b pos) (dIf tA ta tb) := by
  refine pe_imp (pe_ifExp hc ha hb) fun σ H Q ⟨R, F, env, M, Qd, a, e, h, k⟩ => ⟨R, F, env, M, _, a, e, h, fun F1 H1 M1 b s1 a1 h1 => ?_⟩
  cases b with
  | true => rw [brn_t] at h1; rw [if_pos rfl]; exact ⟨R, F1, env, M1, Qd, a1, e.mono s1, h1, k.mono s1⟩
  | false => rw [brn_f] at h1; rw [if_neg Bool.false_ne_true]; exact ⟨R, F1, env, M1, Qd, a1, e.mono s1, h1, k.mono s1⟩
/-! ### arguments, displays -/
def dNil : DA := fun _ M Q => Q [] M
def dCons (ta : DE) (tr : DA) : DA := fun env M Q => ta env M fun x M1 => tr env M1 fun xs M2 => Q (x :: xs) M2
theorem pda_nil : PDA X [] dNil := pa_imp pa_nil fun σ H Q ⟨R, F, env, M, Qd, a, e, h, k⟩ => k F H M [] [] (Same.refl F) a rfl rfl h
theorem pda_cons {es : List Expr} {t : DA} (ha : PDE X a ta) (hr : PDA X es t) (hs : starEach (a :: es) X.env = (false, eval a X.env) :: starEach es X.env := by rfl) : PDA X (a :: es) (dCons ta t) :=
  pa_imp (pa_cons ha hr hs) fun σ H Q ⟨R, F, env, M, Qd, a, e, h, k⟩ => ⟨R, F, env, M, _, a, e, h, fun F1 H1 M1 d v s1 a1 r1 h1 => ⟨R, F1, env, M1, _, a1, e.mono s1, h1, fun F2 H2 M2 ds vs s2 a2 r2 l2 h2 =>
    k F2 H2 M2 (d :: ds) (v :: vs) (s1.trans s2) a2 ⟨v, vs, rfl, r1.mono s2, r2⟩ (by simp [l2]) h2⟩⟩
variable {es : List Expr} {t : DA}
def dTup (t : DA) : DE := fun env M Q => t env M fun ds M1 => Q (.tup ds) M1
def dLst (t : DA) : DE := fun env M Q => t env M fun ds M1 => Q (.lst ds) M1
def dLstM (t : DA) : DE := fun env M Q => t env M fun ds M1 => ∀ p, M1 p = none → Q (.ref p) (mupd M1 p (.lst ds))
theorem tup_new {K : PySem.W.Frag} {R F : Hp} {M : Mp} {H : Hp} {ds : List D} {vs : List V} {Qd : DK} {Q : VK} {p : Addr} (a : At K R F M H) (r : Reps K F ds vs) (k : KD K R F Qd Q) (h : Qd (.tup ds) M) (hp : H p = none) : Q (.ref p) (upd H p (.tup vs)) := by
  obtain ⟨a1, s1⟩ := a.laid hp (.tup vs)
  exact k _ _ M (.tup ds) _ s1 a1 ⟨p, vs, rfl, SqT.of upd_same, r.mono s1⟩ h
theorem lst_new {K : PySem.W.Frag} {R F : Hp} {M : Mp} {H : Hp} {ds : List D} {vs : List V} {Qd : DK} {Q : VK} {p : Addr} (a : At K R F M H) (r : Reps K F ds vs) (k : KD K R F Qd Q) (h : Qd (.lst ds) M) (hp : H p = none) : Q (.ref p) (upd H p (.lst vs)) := by
  obtain ⟨a1, s1⟩ := a.laid hp (.lst vs)
  exact k _ _ M (.lst ds) _ s1 a1 ⟨p, vs, rfl, upd_same, r.mono s1⟩ h
theorem lst_born {K : PySem.W.Frag} {R F : Hp} {M : Mp} {H : Hp} {ds : List D} {vs : List V} {Qd : DK} {Q : VK} {p : Addr} (a : At K R F M H) (r : Reps K F ds vs) (k : KD K R F Qd Q) (h : ∀ p, M p = none → Qd (.ref p) (mupd M p (.lst ds))) (hp : H p = none) : Q (.ref p) (upd H p (.lst vs)) :=
  k F _ _ (.ref p) _ (Same.refl F) (a.born hp (o := .lst ds) ⟨vs, rfl, r⟩) rfl (h p (a.freeM hp))
theorem small1k {n : Nat} (h : n ≤ 1000) : n ≤ sizeLine := Nat.le_of_lt (small1000 h)
theorem pd_tup {k : Nat} (h : PDA X es t) (hz : es.length ≤ 1000 := by decide) : PDE X (.Tuple es k pos) (dTup t) :=
  pe_imp (pe_tup h) fun σ H Q ⟨R, F, env, M, Qd, a, e, h, k⟩ => ⟨R, F, env, M, _, a, e, h, fun F1 H1 M1 ds vs s1 a1 r1 l1 h1 => ⟨small1k (by rw [← r1.length, l1]; exact hz), fun p hp => tup_new a1 r1 (k.mono s1) h1 hp⟩⟩
theorem pd_lst (h : PDA X es t) (hz : es.length ≤ 1000 := by decide) : PDE X (.List es pos) (dLst t) :=
  pe_imp (pe_lst h) fun σ H Q ⟨R, F, env, M, Qd, a, e, h, k⟩ => ⟨R, F, env, M, _, a, e, h, fun F1 H1 M1 ds vs s1 a1 r1 l1 h1 => ⟨small1k (by rw [← r1.length, l1]; exact hz), fun p hp => lst_new a1 r1 (k.mono s1) h1 hp⟩⟩
theorem pd_lstM (h : PDA X es t) (hz : es.length ≤ 1000 := by decide) : PDE X (.List es pos) (dLstM t) :=
  pe_imp (pe_lst h) fun σ H Q ⟨R, F, env, M, Qd, a, e, h, k⟩ => ⟨R, F, env, M, _, a, e, h, fun F1 H1 M1 ds vs s1 a1 r1 l1 h1 => ⟨small1k (by rw [← r1.length, l1]; exact hz), fun p hp => lst_born a1 r1 (k.mono s1) h1 hp⟩⟩
end
end L3
set_option Elab.async false
set_option linter.all false
set_option maxRecDepth 100000
set_option maxHeartbeats 1000000
/-! L3, second part: statements, targets, loops, comprehensions, calls, promises. -/
namespace L3
open PySem PySem.Spec PyProof.Rows L2
section
variable {X : Cx} {st : Stmt} {rest : List Stmt} {t u : DS} {e : Expr} {te : DE} {pos : Pos}
/-! ### blocks, small statements -/
def dNext : DS := fun D env M => D.nx env M
def dSeq (t u : DS) : DS := fun D env M => t { D with nx := fun e m => u D e m } env M
theorem pdss_nil : PDSs X [] dNext := pss_imp pss_nil fun D σ H ⟨R, F, env, M, Dd, a, e, h, k⟩ => k.nx F H M env σ (Same.refl F) a e h
theorem pdss_cons (h1 : PDS X st t) (h2 : PDSs X rest u) : PDSs X (st :: rest) (dSeq t u) :=
  pss_imp (pss_cons h1 h2) fun D σ H ⟨R, F, env, M, Dd, a, e, h, k⟩ => ⟨R, F, env, M, _, a, e, h, ⟨fun F1 H1 M1 env1 σ1 s1 a1 e1 q1 => ⟨R, F1, env1, M1, Dd, a1, e1, q1, k.mono s1⟩, k.rt, k.bk, k.ct⟩⟩
theorem pdss_one (h1 : PDS X st t) : PDSs X [st] t := pss_one h1
def dBreak : DS := fun D env M => D.bk env M
def dCont : DS := fun D env M => D.ct env M
theorem pds_pass : PDS X (.Pass pos) dNext := ps_imp ps_pass fun D σ H ⟨R, F, env, M, Dd, a, e, h, k⟩ => k.nx F H M env σ (Same.refl F) a e h
theorem pds_break : PDS X (.Break pos) dBreak := ps_imp ps_break fun D σ H ⟨R, F, env, M, Dd, a, e, h, k⟩ => k.bk F H M env σ (Same.refl F) a e h
theorem pds_continue : PDS X (.Continue pos) dCont := ps_imp ps_continue fun D σ H ⟨R, F, env, M, Dd, a, e, h, k⟩ => k.ct F H M env σ (Same.refl F) a e h
theorem pds_doc {x j pos'} : PDS X (.Expr (.Constant (.str x) j pos) pos') dNext := ps_imp ps_doc fun D σ H ⟨R, F, env, M, Dd, a, e, h, k⟩ => k.nx F H M env σ (Same.refl F) a e h
def dDrop (te : DE) : DS := fun D env M => te env M fun _ M1 => D.nx env M1
theorem pds_expr (he : PDE X e te) (hs : swapsWith e none pos.line X.env = pure false := by rfl) : PDS X (.Expr e pos) (dDrop te) :=
  ps_imp (ps_expr he hs) fun D σ H ⟨R, F, env, M, Dd, a, e, h, k⟩ => ⟨R, F, env, M, _, a, e, h, fun F1 H1 M1 d v s1 a1 r1 q1 => k.nx F1 H1 M1 env σ s1 a1 (e.mono s1) q1⟩
def dRet (te : DE) : DS := fun D env M => te env M D.rt
theorem pds_ret (he : PDE X e te) : PDS X (.Return (some e) pos) (dRet te) :=
  ps_imp (ps_ret he) fun D σ H ⟨R, F, env, M, Dd, a, e, h, k⟩ => ⟨R, F, env, M, _, a, e, h, k.rt⟩
def dRetN : DS := fun D _ M => D.rt .non M
theorem pds_retN : PDS X (.Return none pos) dRetN := ps_imp ps_retN fun D σ H ⟨R, F, env, M, Dd, a, e, h, k⟩ => k.rt F H M .non .non (Same.refl F) a rfl h
def dIfS (c : DT) (t u : DS) : DS := fun D env M => c env M fun b M1 => brn b (t D env M1) (u D env M1)
theorem pds_if {c : Expr} {a b : List Stmt} {tc : DT} (hc : PDT X c tc) (ha : PDSs X a t) (hb : PDSs X b u) : PDS X (.If c a b pos) (dIfS tc t u) :=
  ps_imp (ps_if hc ha hb) fun D σ H ⟨R, F, env, M, Dd, a, e, h, k⟩ => ⟨R, F, env, M, _, a, e, h, fun F1 H1 M1 b s1 a1 q1 => by
    cases b with
    | true => rw [brn_t] at q1; rw [if_pos rfl]; exact ⟨R, F1, env, M1, Dd, a1, e.mono s1, q1, k.mono s1⟩
    | false => rw [brn_f] at q1; rw [if_neg Bool.false_ne_true]; exact ⟨R, F1, env, M1, Dd, a1, e.mono s1, q1, k.mono s1⟩⟩
def dNever : DS := fun _ _ _ => False
theorem pds_never : PDS X st dNever := ps_imp ps_never fun D σ H ⟨R, F, env, M, Dd, a, e, h, k⟩ => h
/-! ### targets -/
inductive Tg where
  | name (i : Nat)
  | tup (ts : List Tg)
mutual
def Tg.bind : Tg → D → DEnv → (DEnv → Prop) → Prop
  | .name i, d, env, k => k (env.set i (some d))
  | .tup ts, d, env, k => match d with
    | .tup ds => Tg.binds ts ds env k
    | _ => False
def Tg.binds : List Tg → List D → DEnv → (DEnv → Prop) → Prop
  | [], [], env, k => k env
  | t :: ts, d :: ds, env, k => Tg.bind t d env fun env1 => Tg.binds ts ds env1 k
  | _, _, _, _ => False
end
mutual
def Tg.slots : Tg → List Nat
  | .name i => [i]
  | .tup ts => Tg.slotsL ts
def Tg.slotsL : List Tg → List Nat
  | [] => []
  | t :: ts => Tg.slots t ++ Tg.slotsL ts
end
mutual
def tgOf (K : PySem.W.Frag) : Tg → TG
  | .name i => gName i
  | .tup ts => gTup K ts.length (tgsOf K ts)
def tgsOf (K : PySem.W.Frag) : List Tg → TGs
  | [] => gNil
  | t :: ts => gCons (tgOf K t) (tgsOf K ts)
end
abbrev PDG (X : Cx) (tg : Expr) (t : Tg) : Prop := PG X tg (tgOf X.K t)
abbrev PDGs (X : Cx) (tgs : List Expr) (ts : List Tg) : Prop := PGs X tgs (tgsOf X.K ts)
theorem wipe_append (σ : L2.St) : ∀ a b : List Nat, wipe σ (a ++ b) = wipe (wipe σ b) a
  | [], b => rfl
  | v :: a, b => by show (wipe σ (a ++ b)).set v none = (wipe (wipe σ b) a).set v none; rw [wipe_append σ a b]
theorem wipe_get (σ : L2.St) (j : Nat) : ∀ vs : List Nat, (wipe σ vs)[j]? = if j ∈ vs then (σ[j]?).map (fun _ => none) else σ[j]?
  | [] => by simp [wipe]
  | v :: vs => by
    show ((wipe σ vs).set v none)[j]? = _
    by_cases hv : v = j
    · subst hv
      rw [List.getElem?_set, if_pos rfl, if_pos List.mem_cons_self, wipe_length]
      by_cases hl : v < σ.length
      · rw [if_pos hl, List.getElem?_eq_getElem hl]; rfl
      · rw [if_neg hl, List.getElem?_eq_none (Nat.le_of_not_lt hl)]; rfl
    · rw [List.getElem?_set_ne hv, wipe_get σ j vs]
      by_cases hm : j ∈ vs
      · rw [if_pos hm, if_pos (List.mem_cons_of_mem _ hm)]
      · rw [if_neg hm, if_neg (by simp [hm, Ne.symm hv])]
theorem wipe_ext {σ σ' : L2.St} {vs : List Nat} (hl : σ.length = σ'.length) (h : ∀ j, j ∉ vs → σ[j]? = σ'[j]?) : wipe σ vs = wipe σ' vs := by
  apply List.ext_getElem?
  intro j
  rw [wipe_get, wipe_get]
  by_cases hm : j ∈ vs
  · rw [if_pos hm, if_pos hm]
    by_cases hj : j < σ.length
    · rw [List.getElem?_eq_getElem hj, List.getElem?_eq_getElem (hl ▸ hj)]; rfl
    · rw [List.getElem?_eq_none (Nat.le_of_not_lt hj), List.getElem?_eq_none (by omega)]
  · rw [if_neg hm, if_neg hm]; exact h j hm
theorem wipe_out {σ σ' : L2.St} {vs : List Nat} (h : wipe σ vs = wipe σ' vs) : σ.length = σ'.length ∧ ∀ j, j ∉ vs → σ[j]? = σ'[j]? := by
  refine ⟨by rw [← wipe_length σ vs, h, wipe_length], fun j hj => ?_⟩
  have := congrArg (fun l => l[j]?) h
  simp only [wipe_get, if_neg hj] at this
  exact this
theorem wipe_sub {σ σ' : L2.St} {vs ws : List Nat} (hs : ∀ v ∈ vs, v ∈ ws) (h : wipe σ vs = wipe σ' vs) : wipe σ ws = wipe σ' ws := by
  obtain ⟨hl, hg⟩ := wipe_out h
  exact wipe_ext hl fun j hj => hg j fun hm => hj (hs j hm)
theorem wipe_set (σ : L2.St) (i : Nat) (x : Option V) (vs : List Nat) (h : i ∈ vs) : wipe (σ.set i x) vs = wipe σ vs :=
  wipe_ext (by simp) fun j hj => List.getElem?_set_ne (fun e => hj (by rw [← e]; exact h))
theorem wipe_wipe (σ : L2.St) (vs : List Nat) : wipe (wipe σ vs) vs = wipe σ vs :=
  wipe_ext (wipe_length _ _) fun j hj => by rw [wipe_get, if_neg hj]
theorem Tg.binds_len : ∀ (ts : List Tg) (ds : List D) (env : DEnv) (k : DEnv → Prop), Tg.binds ts ds env k → ds.length = ts.length := by
  intro ts
  refine Tg.rec_1 (motive_1 := fun t => ∀ (d : D) (env : DEnv) (k : DEnv → Prop), t.bind d env k → ∃ env1, k env1) (motive_2 := fun ts => ∀ (ds : List D) (env : DEnv) (k : DEnv → Prop), Tg.binds ts ds env k → ds.length = ts.length ∧ ∃ env1, k env1) ?_ ?_ ?_ ?_ ts |> fun h ds env k q => (h ds env k q).1
  · intro i d env k h; exact ⟨_, h⟩
  · intro ts ih d env k h
    cases d with
    | tup ds => exact (ih ds env k h).2
    | _ => exact h.elim
  · intro ds env k h
    cases ds with
    | nil => exact ⟨rfl, _, h⟩
    | cons d ds => exact h.elim
  · intro t ts i1 i2 ds env k h
    cases ds with
    | nil => exact h.elim
    | cons d ds =>
      obtain ⟨env1, h1⟩ := i1 d env _ h
      obtain ⟨e, q⟩ := i2 ds env1 k h1
      exact ⟨by simp [e], q⟩
/-- the rule of a target serves its data -/
theorem tg_serves {K : PySem.W.Frag} {R F : Hp} {M : Mp} {H : Hp} (a : At K R F M H) : ∀ (t : Tg) (σ : L2.St) (env : DEnv) (d : D) (v : V) (Qd : DEnv → Prop) (Q : L2.St → Hp → Prop), EnvR K F σ env → Rep K F d v → t.bind d env Qd →
    (∀ σ' env', EnvR K F σ' env' → wipe σ' t.slots = wipe σ t.slots → Qd env' → Q σ' H) → tgOf K t v σ H Q := by
  intro t
  refine Tg.rec (motive_1 := fun t => ∀ (σ : L2.St) (env : DEnv) (d : D) (v : V) (Qd : DEnv → Prop) (Q : L2.St → Hp → Prop), EnvR K F σ env → Rep K F d v → t.bind d env Qd →
    (∀ σ' env', EnvR K F σ' env' → wipe σ' t.slots = wipe σ t.slots → Qd env' → Q σ' H) → tgOf K t v σ H Q)
    (motive_2 := fun ts => ∀ (σ : L2.St) (env : DEnv) (ds : List D) (vs : List V) (Qd : DEnv → Prop) (Q : L2.St → Hp → Prop), EnvR K F σ env → Reps K F ds vs → Tg.binds ts ds env Qd →
    (∀ σ' env', EnvR K F σ' env' → wipe σ' (Tg.slotsL ts) = wipe σ (Tg.slotsL ts) → Qd env' → Q σ' H) → tgsOf K ts vs σ H Q) ?_ ?_ ?_ ?_ t
  · intro i σ env d v Qd Q e r h k
    exact k _ _ (e.set i r) (wipe_set _ _ _ _ (by simp [Tg.slots])) h
  · intro ts ih σ env d v Qd Q e r h k
    cases d with
    | tup ds =>
      obtain ⟨p, xs, rfl, q, r⟩ := r
      have e1 := Tg.binds_len ts ds env Qd h
      have e2 := r.length
      exact ⟨p, xs, rfl, Same.seqT a.fz q, by omega, ih σ env ds xs Qd Q e r h k⟩
    | _ => exact h.elim
  · intro σ env ds vs Qd Q e r h k
    cases ds with
    | nil => exact ⟨r, k σ env e rfl h⟩
    | cons d ds => exact h.elim
  · intro tg tgs i1 i2 σ env ds vs Qd Q e r h k
    cases ds with
    | nil => exact h.elim
    | cons d ds =>
      obtain ⟨x, xr, rfl, r1, r2⟩ := r
      refine ⟨x, xr, rfl, i1 σ env d x _ _ e r1 h fun σ1 env1 e1 w1 q1 => ?_⟩
      refine i2 σ1 env1 ds xr Qd Q e1 r2 q1 fun σ2 env2 e2 w2 q2 => k σ2 env2 e2 ?_ q2
      have z1 : ∀ v ∈ tg.slots, v ∈ Tg.slotsL (tg :: tgs) := fun v hv => List.mem_append_left _ hv
      have z2 : ∀ v ∈ Tg.slotsL tgs, v ∈ Tg.slotsL (tg :: tgs) := fun v hv => List.mem_append_right _ hv
      exact (wipe_sub z2 w2).trans (wipe_sub z1 w1)
theorem pdg_name {i : Nat} {x : Str} (hN : X.N.Nodup) (hi : X.N[i]? = some x := by rfl) (hx : Loc X.env.scope x := by first | exact Or.inl rfl | exact Or.inr rfl) (hf : X.fn x = true ∨ X.env.scope.names.lookup x = some .local := by first | exact .inl rfl | exact .inr rfl | assumption) : PDG X (.Name x pos) (.name i) :=
  pg_name hN hi hx hf
theorem pdgs_nil : PDGs X [] [] := pgs_nil
theorem pdgs_cons {g : Expr} {gs : List Expr} {tg : Tg} {tgs : List Tg} (h1 : PDG X g tg) (h2 : PDGs X gs tgs)
    (hs : (assignEach (g :: gs) X.env).map (·.2) = assign g X.env :: (assignEach gs X.env).map (·.2) := by rfl) : PDGs X (g :: gs) (tg :: tgs) := pgs_cons h1 h2 hs
theorem pdg_tup {es : List Expr} {k : Nat} {ts : List Tg} (h : PDGs X es ts) (hc : X.calm = true := by rfl)
    (hn : (assignEach es X.env).length = ts.length := by rfl) (hst : (assignEach es X.env).findIdx? (·.1) = none := by rfl) : PDG X (.Tuple es k pos) (.tup ts) := pg_tup hc h hn hst
def dAsg (te : DE) (t : Tg) : DS := fun D env M => te env M fun d M1 => t.bind d env fun env1 => D.nx env1 M1
theorem pds_asg {tg : Expr} {t : Tg} (he : PDE X e te) (hg : PDG X tg t) (hs : swapsWithSole [tg] e pos.line X.env = pure false := by rfl) (hw : swappedStores [tg] e X.env = pure none := by rfl)
    (h1 : (assignEach [tg] X.env).map (·.2) = [assign tg X.env] := by rfl) : PDS X (.Assign [tg] e pos) (dAsg te t) := by
  exact ps_imp (ps_asg he hg hs hw h1) fun D σ H ⟨R, F, env, M, Dd, a, e, h, k⟩ => ⟨R, F, env, M, _, a, e, h, fun F1 H1 M1 d v s1 a1 r1 q1 =>
    tg_serves a1 t σ env d v _ _ (e.mono s1) r1 q1 fun σ' env' e' _ q' => k.nx F1 H1 M1 env' σ' s1 a1 e' q'⟩
def dSet (i : Nat) (te : DE) : DS := fun D env M => te env M fun d M1 => D.nx (env.set i (some d)) M1
theorem pds_set {i : Nat} {x : Str} {pos' : Pos} (hN : X.N.Nodup) (he : PDE X e te) (hi : X.N[i]? = some x := by rfl) (hx : Loc X.env.scope x := by first | exact Or.inl rfl | exact Or.inr rfl) (hs : swapsWith e (some (.Name x pos')) pos.line X.env = pure false := by rfl) (hf : X.fn x = true ∨ X.env.scope.names.lookup x = some .local := by first | exact .inl rfl | exact .inr rfl | assumption) :
    PDS X (.Assign [.Name x pos'] e pos) (dSet i te) :=
  ps_imp (ps_set hN hi hx he hs hf) fun D σ H ⟨R, F, env, M, Dd, a, e, h, k⟩ => ⟨R, F, env, M, _, a, e, h, fun F1 H1 M1 d v s1 a1 r1 q1 => k.nx F1 H1 M1 _ _ s1 a1 ((e.mono s1).set i r1) q1⟩
/-- a, b = x, y with plain local names -/
def dPar (i j : Nat) (ta : DA) : DS := fun D env M => ta env M fun ds M1 => match ds with
  | [d, g] => D.nx ((env.set i (some d)).set j (some g)) M1
  | _ => False
theorem pds_par {i j : Nat} {x y : Str} {a b : Expr} {ta : DA} {px py pt : Pos} {kt k2 pt2} (hN : X.N.Nodup) (ha : PDA X [a, b] ta) (hc : X.calm = true := by rfl) (hi : X.N[i]? = some x := by rfl) (hj : X.N[j]? = some y := by rfl) (hij : i ≠ j := by decide)
    (hx : X.env.scope.names.lookup x = some .local := by rfl) (hy : X.env.scope.names.lookup y = some .local := by rfl)
    (hw : swappedStores [.Tuple [.Name x px, .Name y py] kt pt] (.Tuple [a, b] k2 pt2) X.env = pure (some [x, y]) := by rfl)
    (hs : swapsWithSole [.Tuple [.Name x px, .Name y py] kt pt] (.Tuple [a, b] k2 pt2) pos.line X.env = pure false := by rfl) :
    PDS X (.Assign [.Tuple [.Name x px, .Name y py] kt pt] (.Tuple [a, b] k2 pt2) pos) (dPar i j ta) :=
  ps_imp (ps_par hc hN hi hj hij hx hy ha hw hs) fun D σ H ⟨R, F, env, M, Dd, a, e, h, k⟩ => ⟨R, F, env, M, _, a, e, h, fun F1 H1 M1 ds vs s1 a1 r1 l1 q1 => by
    match ds, r1, q1 with
    | [d, g], ⟨x, r, e1, h1, y, r', e2, h2, e3⟩, q1 =>
      subst e1 e2 e3
      exact ⟨x, y, rfl, k.nx F1 H1 M1 _ _ s1 a1 (((e.mono s1).set i h1).set j h2) q1⟩⟩
/-- name op= e, ints -/
def dAug (f : Int → Int → Int) (i : Nat) (te : DE) : DS := fun D env M => match env[i]? with
  | some (some (.int x)) => te env M fun d M1 => match d with
    | .int y => D.nx (env.set i (some (.int (f x y)))) M1
    | _ => False
  | _ => False
theorem pds_aug {f : Int → Int → Int} {op : Operator} {i : Nat} {x : Str} {pos' : Pos} (ho : PIp X op (ipI f)) (hN : X.N.Nodup) (he : PDE X e te) (hi : X.N[i]? = some x := by rfl) (hx : Loc X.env.scope x := by first | exact Or.inl rfl | exact Or.inr rfl) (hf : X.fn x = true ∨ X.env.scope.names.lookup x = some .local := by first | exact .inl rfl | exact .inr rfl | assumption) :
    PDS X (.AugAssign (.Name x pos') op e pos) (dAug f i te) :=
  ps_imp (ps_aug hN hi hx he ho hf) fun D σ H ⟨R, F, env, M, Dd, a, e, h, k⟩ => by
    unfold dAug at h
    split at h
    · rename_i x hx
      obtain ⟨v, hv, r⟩ := e.get i _ hx
      cases (show v = V.int x from r)
      refine ⟨.int x, hv, R, F, env, M, _, a, e, h, fun F1 H1 M1 d v s1 a1 r1 q1 => ?_⟩
      cases d with
      | int y => exact ⟨x, y, rfl, r1, k.nx F1 H1 M1 _ _ s1 a1 ((e.mono s1).set i (d := .int (f x y)) rfl) q1⟩
      | _ => exact q1.elim
    · exact h.elim
/-- an own list or dict held by a name is frozen: a step of ours, not of the program -/
def dFrz (te : DE) : DE := fun env M Q => te env M fun d M1 => match d with
  | .ref q => match M1 q with
    | some (.lst ds) => Q (.lst ds) (mdel M1 q)
    | some (.dct ks ds) => Q (.dct ks ds) (mdel M1 q)
    | some (.ins c ds) => Q (.obj c ds) (mdel M1 q)
    | some (.dkd w ks ds) => Q (.dkd w ks ds) (mdel M1 q)
    | _ => False
  | _ => False
theorem pe_lock {X : Cx} {e : Expr} {t : TE} (h : PE X e t) : PE X e (fun σ H Q => t σ H fun v H1 => Q v H1 ∨ ∃ d u, v = .ref d ∧ H1 d = some u ∧ Mut (some u) ∧ ∀ o, Q v (upd H1 d (.frz o u))) := ⟨fun pins s σ H Q I q =>
  thn (h.run pins s σ H _ I q) fun u s1 ⟨v, H1, I1, r, q1⟩ => by
    rcases q1 with q1 | ⟨d, kvs, e, hd, mu, q1⟩
    · exact ⟨v, H1, I1, r, q1⟩
    · obtain ⟨od, I2⟩ := I1.lock hd mu
      exact ⟨v, _, I2, r, q1 od⟩⟩
theorem pd_frz (he : PDE X e te) : PDE X e (dFrz te) := pe_imp (pe_lock he) fun σ H Q ⟨R, F, env, M, Qd, a, e, h, k⟩ => ⟨R, F, env, M, _, a, e, h, fun F1 H1 M1 d v s1 a1 r1 q1 => by
  split at q1
  · rename_i q
    split at q1
    · rename_i ds hm
      obtain ⟨u, ru, a2, s2⟩ := a1.freeze hm
      obtain ⟨xs, rfl, rx⟩ := ru
      exact .inl (k _ H1 _ (.lst ds) v (s1.trans s2) a2 ⟨q, xs, r1, upd_same, rx.mono s2⟩ q1)
    · rename_i ks ds hm
      obtain ⟨_, u, hu, xs, rfl, l, rx⟩ := a1.mu _ _ hm
      refine .inr ⟨q, _, r1, hu, trivial, fun o => ?_⟩
      obtain ⟨a2, s2⟩ := a1.freezeAs hm (.frz o (.dK (ks.zip xs)))
      exact k _ _ _ (.dct ks ds) v (s1.trans s2) a2 ⟨q, o, xs, r1, upd_same, l, rx.mono s2⟩ q1
    · rename_i c ds hm
      obtain ⟨u, ru, a2, s2⟩ := a1.freeze hm
      obtain ⟨dx, xs, rfl, l, rx⟩ := ru
      exact .inl (k _ H1 _ (.obj c ds) v (s1.trans s2) a2 ⟨q, dx, xs, r1, upd_same, l, rx.mono s2⟩ q1)
    · rename_i w ks ds hm
      obtain ⟨_, u, hu, Ls, rfl, l, rk, rx⟩ := a1.mu _ _ hm
      refine .inr ⟨q, _, r1, hu, trivial, fun o => ?_⟩
      obtain ⟨a2, s2⟩ := a1.freezeAs hm (.frz o (DkO w q Ls))
      exact k _ _ _ (.dkd w ks ds) v (s1.trans s2) a2 ⟨q, o, Ls, r1, upd_same, l, rk.mono s2, rx.mono s2⟩ q1
    · exact q1.elim
  · exact q1.elim⟩
/-! ### what is walked -/
/-- the walk J gives the items one by one -/
structure Gives (K : PySem.W.Frag) (J : It) (F : Hp) (items : List D) : Prop where
  small : items.length ≤ sizeLine
  stop : ∀ R F' M H, Same F F' → At K R F' M H → J.stop items.length H
  go : ∀ i d R F' M H, Same F F' → At K R F' M H → items[i]? = some d → J.go i H ∧ ∀ x H', J.yld i H x H' → ∃ F2, Same F' F2 ∧ At K R F2 M H' ∧ Rep K F2 d x
abbrev DI := DEnv → Mp → (List D → Mp → Prop) → Prop
def upI (K : PySem.W.Frag) (w : DI) : TI := fun σ H Z => ∃ R F env M Qd, At K R F M H ∧ EnvR K F σ env ∧ w env M Qd ∧ ∀ F' H' M' items J, Same F F' → At K R F' M' H' → Gives K J F' items → Qd items M' → Z J H'
abbrev PDI (X : Cx) (tg iter : Expr) (w : DI) : Prop := PI X tg iter (upI X.K w)
theorem pi_imp {tg iter : Expr} {w w' : TI} (h : PI X tg iter w) (i : ∀ σ H R, w' σ H R → w σ H R) : PI X tg iter w' := ⟨fun pins s σ H R I q => h.run pins s σ H R I (i _ _ _ q)⟩
/-- for, turn by turn -/
def dForL0 (t : Tg) (tb : DS) : List D → DS
  | [] => fun D env M => D.nx env M
  | x :: r => fun D env M => t.bind x env fun env1 => tb { D with nx := fun e m => dForL0 t tb r D e m, ct := fun e m => dForL0 t tb r D e m, bk := D.nx } env1 M
/-- .. not unfolded by itself -/
@[irreducible] def dForL (t : Tg) (tb : DS) (xs : List D) : DS := dForL0 t tb xs
theorem dForL_eq {t : Tg} {tb : DS} {xs : List D} : dForL t tb xs = dForL0 t tb xs := by unfold dForL; rfl
def dFor (w : DI) (t : Tg) (tb : DS) : DS := fun D env M => w env M fun items M1 => dForL t tb items D env M1
theorem pds_for {tg iter : Expr} {body : List Stmt} {w : DI} {t : Tg} {tb : DS} (hp : PassesOwn (model X.prog X.w) X.A X.env X.xe) (hi : PDI X tg iter w) (hg : PDG X tg t) (hb : PDSs X body tb) (hc : X.calm = true := by rfl)
    (hs : ∀ x, foldedSetIterable iter X.env x = pure x := by intro _; rfl) : PDS X (.For tg iter body [] pos) (dFor w t tb) := by
  refine ps_imp (ps_for hp hc hi hg hb hs) fun D σ H ⟨R, F, env, M, Dd, a, e, h, k⟩ => ⟨R, F, env, M, _, a, e, h, fun F1 H1 M1 items J s1 a1 gv q1 => ?_⟩
  rw [dForL_eq] at q1
  refine ⟨fun i m σ H => ∃ F2 env2 M2, Same F1 F2 ∧ At X.K R F2 M2 H ∧ EnvR X.K F2 σ env2 ∧ dForL0 t tb (items.drop i) Dd env2 M2 ∧ m = items.length - i ∧ i ≤ items.length, ⟨items.length, F1, env, M1, Same.refl _, a1, e.mono s1, q1, by simp, Nat.zero_le _⟩, ?_⟩
  rintro i m σ2 H2 ⟨F2, env2, M2, s2, a2, e2, q2, rfl, hi⟩
  by_cases hlt : i < items.length
  · rw [List.drop_eq_getElem_cons hlt] at q2
    obtain ⟨hgo, hy⟩ := gv.go i items[i] R F2 M2 H2 s2 a2 (List.getElem?_eq_getElem hlt)
    refine .inr ⟨hgo, fun σ' H' => ∃ F3 env3 M3, Same F1 F3 ∧ At X.K R F3 M3 H' ∧ EnvR X.K F3 σ' env3 ∧ dForL0 t tb (items.drop (i + 1)) Dd env3 M3, fun σ' H' ⟨F3, env3, M3, s3, a3, e3, q3⟩ => ⟨items.length - (i + 1), by omega, F3, env3, M3, s3, a3, e3, q3, rfl, hlt⟩, fun x H' y => ?_⟩
    obtain ⟨F3, s3, a3, r3⟩ := hy x H' y
    refine tg_serves a3 t σ2 env2 items[i] x _ _ (e2.mono s3) r3 q2 fun σ' env' e' _ q' => ?_
    have k3 := k.mono (s1.trans (s2.trans s3))
    exact ⟨R, F3, env', M2, _, a3, e', q', ⟨fun F4 H4 M4 env4 σ4 s4 a4 e4 q4 => ⟨F4, env4, M4, s2.trans (s3.trans s4), a4, e4, q4⟩, k3.rt, k3.nx, fun F4 H4 M4 env4 σ4 s4 a4 e4 q4 => ⟨F4, env4, M4, s2.trans (s3.trans s4), a4, e4, q4⟩⟩⟩
  · have e : i = items.length := by omega
    subst e
    rw [List.drop_length] at q2
    exact .inl ⟨gv.stop R F2 M2 H2 s2 a2, k.nx F2 H2 M2 env2 σ2 (s1.trans s2) a2 e2 q2⟩
/-- while, as often as the number says -/
def dWhileN0 (c : DT) (tb : DS) : Nat → DS
  | 0 => fun _ _ _ => False
  | n + 1 => fun D env M => c env M fun b M1 => brn b (tb { D with nx := fun e m => dWhileN0 c tb n D e m, ct := fun e m => dWhileN0 c tb n D e m, bk := D.nx } env M1) (D.nx env M1)
@[irreducible] def dWhileN (c : DT) (tb : DS) (n : Nat) : DS := dWhileN0 c tb n
theorem dWhileN_eq {c : DT} {tb : DS} {n : Nat} : dWhileN c tb n = dWhileN0 c tb n := by unfold dWhileN; rfl
def dWhile (c : DT) (tb : DS) : DS := fun D env M => ∃ n, dWhileN c tb n D env M
theorem pds_while {c : Expr} {body : List Stmt} {tc : DT} {tb : DS} (hp : PassesOwn (model X.prog X.w) X.A X.env X.xe) (hc : PDT X c tc) (hb : PDSs X body tb) : PDS X (.While c body [] pos) (dWhile tc tb) := by
  refine ps_imp (ps_while hp hc hb) fun D σ H ⟨R, F, env, M, Dd, a, e, ⟨n, h⟩, k⟩ => ?_
  rw [dWhileN_eq] at h
  refine ⟨fun m σ H => ∃ F2 env2 M2, Same F F2 ∧ At X.K R F2 M2 H ∧ EnvR X.K F2 σ env2 ∧ dWhileN0 tc tb m Dd env2 M2, ⟨n, F, env, M, Same.refl _, a, e, h⟩, ?_⟩
  rintro m σ2 H2 ⟨F2, env2, M2, s2, a2, e2, q2⟩
  cases m with
  | zero => exact q2.elim
  | succ m =>
    refine ⟨R, F2, env2, M2, _, a2, e2, q2, fun F3 H3 M3 b s3 a3 q3 => ?_⟩
    have k3 := k.mono (s2.trans s3)
    show if b = true then _ else _
    cases b with
    | true =>
      rw [brn_t] at q3; rw [if_pos rfl]
      refine ⟨fun σ' H' => ∃ F4 env4 M4, Same F F4 ∧ At X.K R F4 M4 H' ∧ EnvR X.K F4 σ' env4 ∧ dWhileN0 tc tb m Dd env4 M4, fun σ' H' ⟨F4, env4, M4, s4, a4, e4, q4⟩ => ⟨m, Nat.lt_succ_self m, F4, env4, M4, s4, a4, e4, q4⟩, ?_⟩
      exact ⟨R, F3, env2, M3, _, a3, e2.mono s3, q3, ⟨fun F4 H4 M4 env4 σ4 s4 a4 e4 q4 => ⟨F4, env4, M4, (s2.trans s3).trans s4, a4, e4, q4⟩, k3.rt, k3.nx, fun F4 H4 M4 env4 σ4 s4 a4 e4 q4 => ⟨F4, env4, M4, (s2.trans s3).trans s4, a4, e4, q4⟩⟩⟩
    | false =>
      rw [brn_f] at q3; rw [if_neg Bool.false_ne_true]
      exact k3.nx F3 H3 M3 env2 σ2 (Same.refl _) a3 (e2.mono s3) q3
/-! ### comprehensions -/
abbrev PDTs (X : Cx) (ifs : List Expr) (t : DT) : Prop := PTs X ifs (upT X.K t)
def dYes : DT := fun _ M Q => Q true M
theorem pts_imp {ifs : List Expr} {t t' : TT} (h : PTs X ifs t) (i : ∀ σ H Q, t' σ H Q → t σ H Q) : PTs X ifs t' := ⟨fun pins s σ H Q I q => h.run pins s σ H Q I (i _ _ _ q)⟩
theorem pdts_nil : PDTs X [] dYes := pts_imp pts_nil fun σ H Q ⟨R, F, env, M, Qd, a, e, h, k⟩ => k F H M true (Same.refl F) a h
theorem pdts_one {c : Expr} {t : DT} (h : PDT X c t) : PDTs X [c] t := pts_one h
def dLcL0 (t : Tg) (tt : DT) (te : DE) (env : DEnv) : List D → List D → Mp → (List D → Mp → Prop) → Prop
  | [], acc, M, Q => Q acc M
  | x :: r, acc, M, Q => t.bind x env fun env1 => tt env1 M fun b M1 => brn b (te env1 M1 fun y M2 => dLcL0 t tt te env r (acc ++ [y]) M2 Q) (dLcL0 t tt te env r acc M1 Q)
@[irreducible] def dLcL (t : Tg) (tt : DT) (te : DE) (env : DEnv) (xs acc : List D) (M : Mp) (Q : List D → Mp → Prop) : Prop := dLcL0 t tt te env xs acc M Q
theorem dLcL_eq {t : Tg} {tt : DT} {te : DE} {env : DEnv} {xs acc : List D} {M : Mp} {Q : List D → Mp → Prop} : dLcL t tt te env xs acc M Q = dLcL0 t tt te env xs acc M Q := by unfold dLcL; rfl
def dLc (w : DI) (t : Tg) (tt : DT) (te : DE) (vs : List Nat) : DE := fun env M Q => w env M fun items M1 => dLcL t tt te (wipeD env vs) items [] M1 fun ds M2 => Q (.lst ds) M2
/-- the same, the new list one that may change -/
def dLcM (w : DI) (t : Tg) (tt : DT) (te : DE) (vs : List Nat) : DE := fun env M Q => w env M fun items M1 => dLcL t tt te (wipeD env vs) items [] M1 fun ds M2 => ∀ p, M2 p = none → Q (.ref p) (mupd M2 p (.lst ds))
theorem lc_served {K : PySem.W.Frag} {w : DI} {t : Tg} {tt : DT} {te : DE} {vs : List Nat} (hv : ∀ v ∈ t.slots, v ∈ vs) {σ : L2.St} {H : Hp} {Q : VK} {R F : Hp} {env : DEnv} {M : Mp} {Qd : List D → Mp → Prop}
    (a : At K R F M H) (e : EnvR K F σ env) (h : w env M fun items M1 => dLcL t tt te (wipeD env vs) items [] M1 Qd)
    (k : ∀ F' H' M' ds D xs, Same F F' → At K (upd R D (.lst xs)) F' M' H' → R D = none → Reps K F' ds xs → Qd ds M' → Q (.ref D) H') :
    tLc (upI K w) (tgOf K t) (upT K tt) (up K te) vs σ H Q := by
  refine ⟨R, F, env, M, _, a, e, h, fun F1 H1 M1 items J s1 a1 gv q1 => ?_⟩
  rw [dLcL_eq] at q1
  intro D hD
  have hRD := a1.freeR hD
  refine ⟨fun i m H => ∃ F2 M2 ds xs, Same F1 F2 ∧ At K (upd R D (.lst xs)) F2 M2 H ∧ Reps K F2 ds xs ∧ dLcL0 t tt te (wipeD env vs) (items.drop i) ds M2 Qd ∧ m = items.length - i ∧ i ≤ items.length ∧ ds.length ≤ i,
    ⟨items.length, F1, M1, [], [], Same.refl _, a1.lend hD _, rfl, q1, by simp, Nat.zero_le _, Nat.le_refl _⟩, ?_⟩
  rintro i m H2 ⟨F2, M2, ds, xs, s2, a2, rx, q2, rfl, hi, hl⟩
  by_cases hlt : i < items.length
  · rw [List.drop_eq_getElem_cons hlt] at q2
    obtain ⟨hgo, hy⟩ := gv.go i items[i] _ F2 _ _ s2 a2 (List.getElem?_eq_getElem hlt)
    refine .inr ⟨hgo, fun H' => ∃ F3 M3 ds3 xs3, Same F1 F3 ∧ At K (upd R D (.lst xs3)) F3 M3 H' ∧ Reps K F3 ds3 xs3 ∧ dLcL0 t tt te (wipeD env vs) (items.drop (i + 1)) ds3 M3 Qd ∧ ds3.length ≤ i + 1,
      fun H' ⟨F3, M3, ds3, xs3, s3, a3, r3, q3, l3⟩ => ⟨items.length - (i + 1), by omega, F3, M3, ds3, xs3, s3, a3, r3, q3, rfl, hlt, l3⟩, fun x H' y => ?_⟩
    obtain ⟨F3, s3, a3, r3⟩ := hy x H' y
    refine tg_serves a3 t (wipe σ vs) (wipeD env vs) items[i] x _ _ ((e.wipe vs).mono ((s1.trans s2).trans s3)) r3 q2 fun σ' env' e' w' q' => ?_
    refine ⟨(wipe_sub hv w').trans (wipe_wipe σ vs), _, F3, env', M2, _, a3, e', q', fun F4 H4 M4 b s4 a4 q4 => ?_⟩
    show if b = true then _ else _
    cases b with
    | true =>
      rw [brn_t] at q4; rw [if_pos rfl]
      refine ⟨_, F4, env', M4, _, a4, e'.mono s4, q4, fun F5 H5 M5 d v s5 a5 r5 q5 => ?_⟩
      have z := a5.fr D _ upd_same
      refine ⟨xs, z.2.2, ?_, F5, M5, ds ++ [d], xs ++ [v], ((s2.trans s3).trans s4).trans s5, by have := a5.relend (u' := .lst (xs ++ [v])); exact this, ((rx.mono s3).mono s4 |>.mono s5).append (Reps.one r5), q5, by simp; omega⟩
      have := rx.length
      have := gv.small
      omega
    | false =>
      rw [brn_f] at q4; rw [if_neg Bool.false_ne_true]
      exact ⟨F4, M4, ds, xs, (s2.trans s3).trans s4, a4, (rx.mono s3).mono s4, q4, by omega⟩
  · have e : i = items.length := by omega
    subst e
    rw [List.drop_length] at q2
    exact .inl ⟨gv.stop _ F2 M2 _ s2 a2, k F2 _ M2 ds D xs (s1.trans s2) a2 hRD rx q2⟩
section
variable {X : Cx} {pos : Pos} {elt tg iter : Expr} {ifs : List Expr} {scope : Scope} {own : List (Str × Nat)} {w : DI} {t : Tg} {tt : DT} {te : DE}
theorem lc_lst {K : PySem.W.Frag} {w : DI} {t : Tg} {tt : DT} {te : DE} {vs : List Nat} (hv : ∀ v ∈ t.slots, v ∈ vs) : ∀ σ H Q, up K (dLc w t tt te vs) σ H Q → tLc (upI K w) (tgOf K t) (upT K tt) (up K te) vs σ H Q :=
  fun σ H Q ⟨R, F, env, M, Qd, a, e, h, k⟩ => lc_served hv a e h fun F' H' M' ds D xs s a' hR r q => by
    obtain ⟨a2, s2⟩ := a'.takeF hR
    exact k _ H' M' (.lst ds) _ (s.trans s2) a2 ⟨D, xs, rfl, upd_same, r.mono s2⟩ q
theorem lc_lstM {K : PySem.W.Frag} {w : DI} {t : Tg} {tt : DT} {te : DE} {vs : List Nat} (hv : ∀ v ∈ t.slots, v ∈ vs) : ∀ σ H Q, up K (dLcM w t tt te vs) σ H Q → tLc (upI K w) (tgOf K t) (upT K tt) (up K te) vs σ H Q :=
  fun σ H Q ⟨R, F, env, M, Qd, a, e, h, k⟩ => lc_served hv a e h fun F' H' M' ds D xs s a' hR r q =>
    k F' H' _ (.ref D) _ s (a'.takeM hR (o := .lst ds) ⟨xs, rfl, r⟩) rfl (q D (a'.fr D _ upd_same).2.1)
/-- the context of a comprehension's block -/
abbrev BlkAll (X : Cx) (scope : Scope) (φ : Cx → Prop) : Prop := ∀ (s : Shared) (H : Hp) (C : Addr) (cl : List (Str × Addr)) (fp : List Addr), φ (X.blk s H scope (compEnvC scope cl C X.env) fp)
theorem pd_lc (hN : X.N.Nodup) (hi : PDI X tg iter w) (ok : BlkOk X.N X.env.scope scope own)
    (hg : BlkAll X scope fun Y => PDG Y tg t) (ht : BlkAll X scope fun Y => PDTs Y ifs tt) (he : BlkAll X scope fun Y => PDE Y elt te) (hv : ∀ v ∈ t.slots, v ∈ own.map (·.2) := by decide)
    (hc : X.calm = true := by rfl) (hs : ∀ x, foldedSetIterable iter X.env x = pure x := by intro _; rfl) :
    PDE X (.ListComp elt [⟨tg, iter, ifs, 0⟩] scope pos) (dLc w t tt te (own.map (·.2))) :=
  pe_imp (pe_lc hc hN hi ok hg ht he hs) (lc_lst hv)
theorem pd_lcM (hN : X.N.Nodup) (hi : PDI X tg iter w) (ok : BlkOk X.N X.env.scope scope own)
    (hg : BlkAll X scope fun Y => PDG Y tg t) (ht : BlkAll X scope fun Y => PDTs Y ifs tt) (he : BlkAll X scope fun Y => PDE Y elt te) (hv : ∀ v ∈ t.slots, v ∈ own.map (·.2) := by decide)
    (hc : X.calm = true := by rfl) (hs : ∀ x, foldedSetIterable iter X.env x = pure x := by intro _; rfl) :
    PDE X (.ListComp elt [⟨tg, iter, ifs, 0⟩] scope pos) (dLcM w t tt te (own.map (·.2))) :=
  pe_imp (pe_lc hc hN hi ok hg ht he hs) (lc_lstM hv)
/-- name = [..] on one line, the name a local -/
theorem pds_setLc {i : Nat} {y : Str} {py spos : Pos} (hN : X.N.Nodup) (hsw : swapsWith (.ListComp elt [⟨tg, iter, ifs, 0⟩] scope pos) (some (.Name y py)) spos.line X.env = pure true) (hi : PDI X tg iter w) (ok : BlkOk X.N X.env.scope scope own)
    (hg : BlkAll X scope fun Y => PDG Y tg t) (ht : BlkAll X scope fun Y => PDTs Y ifs tt) (he : BlkAll X scope fun Y => PDE Y elt te) (hv : ∀ v ∈ t.slots, v ∈ own.map (·.2) := by decide)
    (hy : X.N[i]? = some y := by rfl) (hyl : X.env.scope.names.lookup y = some .local := by rfl)
    (hc : X.calm = true := by rfl) (hs : ∀ x, foldedSetIterable iter X.env x = pure x := by intro _; rfl) :
    PDS X (.Assign [.Name y py] (.ListComp elt [⟨tg, iter, ifs, 0⟩] scope pos) spos) (dSet i (dLc w t tt te (own.map (·.2)))) :=
  ps_imp (ps_setLc hc hN hy hyl hsw hi ok hg ht he hs) fun D σ H ⟨R, F, env, M, Dd, a, e, h, k⟩ => lc_lst hv _ _ _ ⟨R, F, env, M, _, a, e, h, fun F1 H1 M1 d v s1 a1 r1 q1 => k.nx F1 H1 M1 _ _ s1 a1 ((e.mono s1).set i r1) q1⟩
theorem pds_setLcM {i : Nat} {y : Str} {py spos : Pos} (hN : X.N.Nodup) (hsw : swapsWith (.ListComp elt [⟨tg, iter, ifs, 0⟩] scope pos) (some (.Name y py)) spos.line X.env = pure true) (hi : PDI X tg iter w) (ok : BlkOk X.N X.env.scope scope own)
    (hg : BlkAll X scope fun Y => PDG Y tg t) (ht : BlkAll X scope fun Y => PDTs Y ifs tt) (he : BlkAll X scope fun Y => PDE Y elt te) (hv : ∀ v ∈ t.slots, v ∈ own.map (·.2) := by decide)
    (hy : X.N[i]? = some y := by rfl) (hyl : X.env.scope.names.lookup y = some .local := by rfl)
    (hc : X.calm = true := by rfl) (hs : ∀ x, foldedSetIterable iter X.env x = pure x := by intro _; rfl) :
    PDS X (.Assign [.Name y py] (.ListComp elt [⟨tg, iter, ifs, 0⟩] scope pos) spos) (dSet i (dLcM w t tt te (own.map (·.2)))) :=
  ps_imp (ps_setLc hc hN hy hyl hsw hi ok hg ht he hs) fun D σ H ⟨R, F, env, M, Dd, a, e, h, k⟩ => lc_lstM hv _ _ _ ⟨R, F, env, M, _, a, e, h, fun F1 H1 M1 d v s1 a1 r1 q1 => k.nx F1 H1 M1 _ _ s1 a1 ((e.mono s1).set i r1) q1⟩
end
end
end L3
set_option Elab.async false
set_option linter.all false
set_option maxRecDepth 100000
set_option maxHeartbeats 1000000
/-! L3, third part: promises, calls, what is walked, operators, subscripts, methods. -/
namespace L3
open PySem PySem.Spec PyProof.Rows L2
/-! ### promises -/
/-- what is wanted of an exception: its class, the fields of its own dict, the store -/
abbrev DX := Addr → List (Str × D) → Mp → Prop
abbrev SpD := List D → Mp → DK → DX → Prop
def RepF (K : PySem.W.Frag) (F : Hp) : List (Str × D) → List (Str × V) → Prop
  | [], xs => xs = []
  | (n, d) :: ds, xs => ∃ x r, xs = (n, x) :: r ∧ Rep K F d x ∧ RepF K F ds r
theorem RepF.mono {K : PySem.W.Frag} {F F' : Hp} (s : Same F F') : ∀ {ds : List (Str × D)} {vs : List (Str × V)}, RepF K F ds vs → RepF K F' ds vs
  | [], _, h => h
  | (n, d) :: ds, _, ⟨x, r, e, h1, h2⟩ => ⟨x, r, e, h1.mono s, RepF.mono s h2⟩
def KX (K : PySem.W.Frag) (R F : Hp) (Ed : DX) (E : XK) : Prop := ∀ F' H' M' C dd fs vs, Same F F' → At K R F' M' H' → F' dd = some (.xd vs) → RepF K F' fs vs → Ed C fs M' → E (.ref C) (some dd) H'
theorem KX.mono {K : PySem.W.Frag} {R F F1 : Hp} {Ed : DX} {E : XK} (k : KX K R F Ed E) (s : Same F F1) : KX K R F1 Ed E := fun F' H' M' C dd fs vs s' => k F' H' M' C dd fs vs (s.trans s')
def upSp (K : PySem.W.Frag) (n : Nat) (sp : SpD) : Sp := fun vs H Q E => ∃ R F M ds Qd Ed, At K R F M H ∧ Reps K F ds vs ∧ ds.length = n ∧ sp ds M Qd Ed ∧ KD K R F Qd Q ∧ KX K R F Ed E
abbrev X0 : DX := fun _ _ _ => False
theorem kx0 {K : PySem.W.Frag} {R F : Hp} {E : XK} : KX K R F X0 E := fun _ _ _ _ _ _ _ _ _ _ _ h => h.elim
def startD (N : List Str) (ds : List D) : DEnv := ds.map some ++ List.replicate (N.length - ds.length) none
theorem start_env {K : PySem.W.Frag} {F : Hp} {N : List Str} {ds : List D} {vs : List V} (r : Reps K F ds vs) : EnvR K F (L2.start N vs) (startD N ds) := by
  have hl := r.length
  refine ⟨by unfold L2.start startD; simp [hl], fun i d h => ?_⟩
  unfold startD at h
  by_cases hi : i < ds.length
  · rw [List.getElem?_append_left (by simpa using hi), List.getElem?_map] at h
    cases e : ds[i]? with
    | none => rw [e] at h; cases h
    | some g =>
      rw [e] at h; cases h
      obtain ⟨v, h1, h2⟩ := r.get e
      refine ⟨v, ?_, h2⟩
      unfold L2.start
      rw [List.getElem?_append_left (by simpa [← hl] using hi), List.getElem?_map, h1]; rfl
  · rw [List.getElem?_append_right (by simpa using hi), List.getElem?_replicate] at h
    split at h <;> cases h
/-- a def as it stands behind the top -/
structure DefAt (K : PySem.W.Frag) (mg : Str → Option Value) (x : Str) (st : Stmt) : Prop where
  ex : ∃ f fd, FunD K x x (defArgs st) (defBody st) (defScope st) [] [] f fd ∧ mg x = some (.ref f)
/-- .. and keeps a promise -/
structure DefOk (P : Program) (w : World) (K : PySem.W.Frag) (mg : Str → Option Value) (base : Heap) (k : Nat) (x : Str) (n : Nat) (sp : SpD) : Prop where
  ex : ∃ f fd ps, FnOk P w K mg base CX0 k f fd ps (upSp K n sp) ∧ ps.length = n ∧ mg x = some (.ref f) ∧ PySem.W.keepIn K (.ref f) = true ∧ Binds K fd ps []
theorem DefOk.mono {P : Program} {w : World} {K : PySem.W.Frag} {mg : Str → Option Value} {base : Heap} {j k : Nat} {x : Str} {n : Nat} {sp : SpD} (d : DefOk P w K mg base j x n sp) (h : j ≤ k) : DefOk P w K mg base k x n sp := by
  obtain ⟨f, fd, ps, a, b⟩ := d.ex
  exact ⟨f, fd, ps, a.mono h, b⟩
theorem DefOk.imp {P : Program} {w : World} {K : PySem.W.Frag} {mg : Str → Option Value} {base : Heap} {k : Nat} {x : Str} {n : Nat} {sp sp' : SpD} (d : DefOk P w K mg base k x n sp) (h : ∀ ds M Q E, sp' ds M Q E → sp ds M Q E) : DefOk P w K mg base k x n sp' := by
  obtain ⟨f, fd, ps, a, b⟩ := d.ex
  exact ⟨f, fd, ps, a.imp fun vs H Q E ⟨R, F, M, ds, Qd, Ed, h1, h2, h3, h4, h5⟩ => ⟨R, F, M, ds, Qd, Ed, h1, h2, h3, h _ _ _ _ h4, h5⟩, b⟩
/-- the context of a def's body that lets nothing out -/
abbrev bodyCx (P : Program) (w : World) (K : PySem.W.Frag) (mg : Str → Option Value) (base : Heap) (N : List Str) (x : Str) (st : Stmt) (f : Addr) (cdv : Value) (A : Around) (outer : List PySem.Env) (s : Shared) (H : Hp) (E : XK) : Cx :=
  (cxOf CX0 P w K mg base N x (defScope st) f cdv A outer s H E).nox
theorem def_fn {P : Program} {w : World} {K : PySem.W.Frag} {mg : Str → Option Value} {base : Heap} {k : Nat} {x : Str} {st : Stmt} {f : Addr} {fd : FuncData} {N ps : List Str} {sp : SpD} {t : DS} (F : FunD K x x (defArgs st) (defBody st) (defScope st) [] [] f fd) (S : FnScope N ps (defScope st))
    (hb : ∀ f cdv A outer s H E, Room k (A.deeper (envOfC x (defScope st) s.heap.objs.size f cdv)) → PDSs (bodyCx P w K mg base N x st f cdv A outer s H E) (defBody st) t)
    (hr : ∀ ds M Q E, ds.length = ps.length → sp ds M Q E → t { nx := fun _ M' => Q .non M', rt := Q } (startD N ds) M) : FnOk P w K mg base CX0 (k + 1) f fd ps (upSp K ps.length sp) := by
  refine F.ok S (fun vs H Q E ⟨R, F, M, ds, Qd, Ed, _, r, hl, _⟩ => by rw [← r.length, hl]) (fun cdv A outer s H vs Q E hroom h => ?_)
  obtain ⟨R, F', M, ds, Qd, Ed, a, r, hl, hsp, kd, kx⟩ := h
  refine ⟨_, (hb f cdv A outer s H E hroom).nox, R, F', startD N ds, M, { nx := fun _ M' => Qd .non M', rt := Qd }, a, start_env r, hr ds M Qd Ed hl hsp, ⟨fun F1 H1 M1 env1 σ1 s1 a1 e1 q => kd F1 H1 M1 .non .non s1 a1 rfl q, kd, fun _ _ _ _ _ _ _ _ q => q.elim, fun _ _ _ _ _ _ _ _ q => q.elim⟩⟩
theorem def_ok {P : Program} {w : World} {K : PySem.W.Frag} {mg : Str → Option Value} {base : Heap} {k : Nat} {x : Str} {st : Stmt} {N ps : List Str} {sp : SpD} {t : DS} (d : DefAt K mg x st) (S : FnScope N ps (defScope st))
    (bind : ∀ (kV doc pm : Value) (an : Option Addr) (cdv ct : Value) (us : List Value), us.length = ps.length → bindArgs (PySem.W.fnOf x x (defArgs st) (defBody st) (defScope st) .none kV doc pm an cdv ct) ⟨us, []⟩ = pure (ps.zip us))
    (hb : ∀ f cdv A outer s H E, Room k (A.deeper (envOfC x (defScope st) s.heap.objs.size f cdv)) → PDSs (bodyCx P w K mg base N x st f cdv A outer s H E) (defBody st) t)
    (hr : ∀ ds M Q E, ds.length = ps.length → sp ds M Q E → t { nx := fun _ M' => Q .non M', rt := Q } (startD N ds) M) : DefOk P w K mg base (k + 1) x ps.length sp := by
  obtain ⟨f, fd, F, hm⟩ := d.ex
  exact ⟨f, fd, ps, def_fn F S hb hr, rfl, hm, F.kp, F.bindsN bind⟩
/-- a promise that nobody can ask for -/
theorem def_void {P : Program} {w : World} {K : PySem.W.Frag} {mg : Str → Option Value} {base : Heap} {k : Nat} {x : Str} {st : Stmt} {ps : List Str} {sp : SpD} (d : DefAt K mg x st)
    (bind : ∀ (kV doc pm : Value) (an : Option Addr) (cdv ct : Value) (us : List Value), us.length = ps.length → bindArgs (PySem.W.fnOf x x (defArgs st) (defBody st) (defScope st) .none kV doc pm an cdv ct) ⟨us, []⟩ = pure (ps.zip us))
    (z : ∀ ds M Q E, sp ds M Q E → False) : DefOk P w K mg base k x ps.length sp := by
  obtain ⟨f, fd, F, hm⟩ := d.ex
  exact ⟨f, fd, ps, ⟨fun vs H Q E ⟨R, F, M, ds, Qd, Ed, _, r, hl, _⟩ => by rw [← r.length, hl], fun A outer s H args us vs Q E _ _ _ _ ⟨R, F, M, ds, Qd, Ed, _, r, hl, h, _⟩ => (z _ _ _ _ h).elim⟩, rfl, hm, F.kp, F.bindsN bind⟩
section
variable {X : Cx} {e : Expr} {es : List Expr} {te ta tb : DE} {t : DA} {pos p : Pos} {a b : Expr}
/-! ### calls of the text's own defs -/
def dCall (sp : SpD) (t : DA) : DE := fun env M Q => t env M fun ds M1 => sp ds M1 Q X0
theorem pd_call {k : Nat} {x : Str} {n : Nat} {sp : SpD} (d : DefOk X.prog X.w X.K X.mg X.base k x n sp) (hr : Room k X.A) (ha : PDA X (e :: es) t) (hn : (e :: es).length = n := by rfl) (hg : Gl X x := by rfl)
    (hdb : (x == ("__debug__" : Str)) = false := by decide) (he : starEach (e :: es) X.env = (false, eval e X.env) :: starEach es X.env := by rfl) (hpl : (backTo pos (starEach es X.env)).any (·.1) = false := by rfl) :
    PDE X (.Call (.Name x p) (e :: es) [] pos) (dCall sp t) := by
  obtain ⟨f, fd, ps, F, hl, hm, hk, hb⟩ := d.ex
  refine pe_imp (pe_call F hr hg hm hk hb .nil pass0 ha hdb he hpl) fun σ H Q ⟨R, F, env, M, Qd, a, e, h, k⟩ => ⟨R, F, env, M, _, a, e, h, fun F1 H1 M1 ds vs s1 a1 r1 l1 q1 => ?_⟩
  show upSp X.K n sp (vs ++ []) H1 Q E0
  rw [List.append_nil]
  exact ⟨R, F1, M1, ds, Qd, X0, a1, r1, by rw [l1, hn], q1, k.mono s1, kx0⟩
theorem pd_call0 {k : Nat} {x : Str} {sp : SpD} (d : DefOk X.prog X.w X.K X.mg X.base k x 0 sp) (hr : Room k X.A) (hg : Gl X x := by rfl)
    (hdb : (x == ("__debug__" : Str)) = false := by decide) : PDE X (.Call (.Name x p) [] [] pos) (dCall sp dNil) := by
  obtain ⟨f, fd, ps, F, hl, hm, hk, hb⟩ := d.ex
  refine pe_imp (pe_call0 F hr hg hm hk hb .nil pass0 hdb) fun σ H Q ⟨R, F, env, M, Qd, a, e, h, k⟩ => ?_
  exact ⟨R, F, M, [], Qd, X0, a, rfl, rfl, h, k, kx0⟩
/-! ### what is walked -/
theorem gives_list {K : PySem.W.Frag} {F : Hp} {a : Addr} {xs : List V} {ds : List D} (h : SqL K F a xs) (r : Reps K F ds xs) (hz : xs.length ≤ sizeLine) : Gives K (Itl K a) F ds := by
  refine ⟨by rw [r.length]; exact hz, fun R F' M H s a' => ⟨xs, a'.fz.seq (s.seq h), by rw [r.length]; exact Nat.le_refl _⟩, fun i d R F' M H s a' hi => ?_⟩
  obtain ⟨x, hx, rx⟩ := r.get hi
  refine ⟨⟨xs, x, a'.fz.seq (s.seq h), hx⟩, fun y H' ⟨e, q⟩ => ?_⟩
  have := q xs (a'.fz.seq (s.seq h))
  rw [hx] at this; cases this
  exact ⟨F', Same.refl _, by rw [e]; exact a', rx.mono s⟩
theorem gives_tup {K : PySem.W.Frag} {F : Hp} {a : Addr} {xs : List V} {ds : List D} (h : SqT K F a xs) (r : Reps K F ds xs) (hz : xs.length ≤ sizeLine) : Gives K (Itt K a) F ds := by
  refine ⟨by rw [r.length]; exact hz, fun R F' M H s a' => ⟨xs, Same.seqT a'.fz (Same.seqT s h), by rw [r.length]; exact Nat.le_refl _⟩, fun i d R F' M H s a' hi => ?_⟩
  obtain ⟨x, hx, rx⟩ := r.get hi
  refine ⟨⟨xs, x, Same.seqT a'.fz (Same.seqT s h), hx⟩, fun y H' ⟨e, q⟩ => ?_⟩
  have := q xs (Same.seqT a'.fz (Same.seqT s h))
  rw [hx] at this; cases this
  exact ⟨F', Same.refl _, by rw [e]; exact a', rx.mono s⟩
/-- one sign as a text -/
def sgn (c : Nat) : D := .str ⟨#[c]⟩
def signs (x : Str) : List D := x.cps.toList.map sgn
theorem sgn_ok {x : Str} (h : SOk x) {c : Nat} (hc : c ∈ x.cps.toList) : SOk ⟨#[c]⟩ :=
  ⟨by show 1 ≤ sizeLine; decide, fun d hd => by
    have e : d = c := by simpa using hd
    rw [e]; exact h.2 c hc⟩
theorem gives_str {K : PySem.W.Frag} {F : Hp} {x : Str} (h : SOk x) : Gives K (Its x) F (signs x) := by
  have hl : (signs x).length = x.cps.size := by unfold signs; simp
  refine ⟨by rw [hl]; exact h.1, fun R F' M H s a' => by show x.cps.size ≤ _; rw [hl]; exact Nat.le_refl _, fun i d R F' M H s a' hi => ?_⟩
  have hlt : i < (signs x).length := (List.getElem?_eq_some_iff.mp hi).1
  refine ⟨by show i < x.cps.size; rw [← hl]; exact hlt, fun y H' ⟨e, c, hc, ey⟩ => ⟨F', Same.refl _, by rw [e]; exact a', ?_⟩⟩
  subst ey
  have hc' : x.cps.toList[i]? = some c := by simpa using hc
  unfold signs at hi
  rw [List.getElem?_map, hc'] at hi
  cases hi
  exact ⟨rfl, sgn_ok h (List.mem_of_getElem? hc')⟩
def rng (lo : Int) (n : Nat) : List D := (List.range n).map fun (i : Nat) => D.int (lo + i)
theorem rng_length {lo : Int} {n : Nat} : (rng lo n).length = n := by simp [rng]
theorem gives_range {K : PySem.W.Frag} {F : Hp} {lo : Int} {n : Nat} (h : n ≤ sizeLine) : Gives K (Itr lo n) F (rng lo n) := by
  refine ⟨by rw [rng_length]; exact h, fun R F' M H s a' => by show n ≤ _; rw [rng_length]; exact Nat.le_refl _, fun i d R F' M H s a' hi => ?_⟩
  have hlt : i < n := by have := (List.getElem?_eq_some_iff.mp hi).1; rwa [rng_length] at this
  refine ⟨hlt, fun y H' ⟨e, ey⟩ => ⟨F', Same.refl _, by rw [e]; exact a', ?_⟩⟩
  unfold rng at hi
  rw [List.getElem?_map, List.getElem?_range hlt] at hi
  cases hi
  exact ey
/-- a frozen list -/
def iLst (te : DE) : DI := fun env M Q => te env M fun d M1 => match d with
  | .lst ds => Q ds M1
  | _ => False
def iTpl (te : DE) : DI := fun env M Q => te env M fun d M1 => match d with
  | .tup ds => Q ds M1
  | _ => False
def iTxt (te : DE) : DI := fun env M Q => te env M fun d M1 => match d with
  | .str x => Q (signs x) M1
  | _ => False
theorem sq_small {X : Cx} : True := trivial
theorem pi_sm {tg : Expr} {w : TI} {wc : TI} (h : PI X tg e w) (i : ∀ (pins : List (Addr × Obj)) (s : Shared) σ H R, Inv X pins σ H s → wc σ H R → w σ H R) : PI X tg e wc := ⟨fun pins s σ H R I q => h.run pins s σ H R I (i pins s _ _ _ I q)⟩
/-- lists of F are of a size that the machine takes: known of each heap that is held -/
theorem pe_sm {t t' : TE} (h : PE X e t) (i : ∀ (pins : List (Addr × Obj)) (s : Shared) σ H Q, Inv X pins σ H s → t' σ H Q → t σ H Q) : PE X e t' := ⟨fun pins s σ H Q I q => h.run pins s σ H Q I (i pins s _ _ _ I q)⟩
/-- the value with the heap that is held -/
theorem pe_held {t : TE} (h : PE X e t) : PE X e (fun σ H Q => t σ H fun v H1 => (∀ (pins : List (Addr × Obj)) (s : Shared) (σ : L2.St), Inv X pins σ H1 s → Q v H1)) :=
  ⟨fun pins s σ H Q I q => thn (h.run pins s σ H _ I q) fun u s1 ⟨v, H1, I1, r, q1⟩ => ⟨v, H1, I1, r, q1 pins s1 σ I1⟩⟩
theorem pa_held {ta : TA} (h : PA X es ta) : PA X es (fun σ H Q => ta σ H fun v H1 => (∀ (pins : List (Addr × Obj)) (s : Shared) (σ : L2.St), Inv X pins σ H1 s → Q v H1)) :=
  ⟨fun pos pins s σ H Q I q => thn (h.run pos pins s σ H _ I q) fun u s1 ⟨v, H1, I1, r, q1⟩ => ⟨v, H1, I1, r, q1 pins s1 σ I1⟩⟩
theorem pdi_lst {tg : Expr} (he : PDE X e te) : PDI X tg e (iLst te) := by
  refine pi_imp (pi_list (pe_held he)) fun σ H Z ⟨R, F, env, M, Qd, a, e, h, k⟩ => ⟨R, F, env, M, _, a, e, h, fun F1 H1 M1 d v s1 a1 r1 q1 pins s σ I => ?_⟩
  cases d with
  | lst ds =>
    obtain ⟨p, xs, rfl, hq', rx⟩ := r1
    have hq : SqL X.K F1 p xs := SqL.of hq'
    have hH := a1.fz.seq hq
    obtain ⟨its, rv, pl, hz⟩ := I.list hH
    exact ⟨p, rfl, ⟨xs, hH⟩, k F1 H1 M1 ds _ s1 a1 (gives_list hq rx hz) q1⟩
  | _ => exact q1.elim
theorem pdi_tup {tg : Expr} (he : PDE X e te) : PDI X tg e (iTpl te) := by
  refine pi_imp (pi_tup (pe_held he)) fun σ H Z ⟨R, F, env, M, Qd, a, e, h, k⟩ => ⟨R, F, env, M, _, a, e, h, fun F1 H1 M1 d v s1 a1 r1 q1 pins s σ I => ?_⟩
  cases d with
  | tup ds =>
    obtain ⟨p, xs, rfl, hq, rx⟩ := r1
    have hH := Same.seqT a1.fz hq
    obtain ⟨its, rv, pl, hz⟩ := I.tuple hH
    exact ⟨p, rfl, ⟨xs, hH⟩, k F1 H1 M1 ds _ s1 a1 (gives_tup hq rx hz) q1⟩
  | _ => exact q1.elim
theorem pdi_str {tg : Expr} (he : PDE X e te) : PDI X tg e (iTxt te) := by
  refine pi_imp (pi_str he) fun σ H Z ⟨R, F, env, M, Qd, a, e, h, k⟩ => ⟨R, F, env, M, _, a, e, h, fun F1 H1 M1 d v s1 a1 r1 q1 => ?_⟩
  cases d with
  | str x =>
    obtain ⟨rfl, hx⟩ := r1
    exact ⟨x, rfl, k F1 H1 M1 _ _ s1 a1 (gives_str hx) q1⟩
  | _ => exact q1.elim
def small (n : Int) : Prop := n ≤ 16777216
def iRange1 (t : DA) : DI := fun env M Q => t env M fun ds M1 => match ds with
  | [.int n] => (-16777216 ≤ n ∧ n ≤ 16777216) ∧ Q (rng 0 n.toNat) M1
  | _ => False
def iRange2 (t : DA) : DI := fun env M Q => t env M fun ds M1 => match ds with
  | [.int i, .int j] => ((-16777216 ≤ i ∧ i ≤ 16777216) ∧ -16777216 ≤ j ∧ j ≤ 16777216 ∧ j - i ≤ 16777216) ∧ Q (rng i (j - i).toNat) M1
  | _ => False
theorem pdi_range1 {tg : Expr} (hm : X.mg "range" = none) (ha : PDA X [a] t) (hg : Gl X "range" := by rfl) (hs : starEach [a] X.env = [(false, eval a X.env)] := by rfl) : PDI X tg (.Call (.Name "range" p) [a] [] pos) (iRange1 t) := by
  refine pi_imp (pi_range1 hg hm ha hs) fun σ H Z ⟨R, F, env, M, Qd, a, e, h, k⟩ => ⟨R, F, env, M, _, a, e, h, fun F1 H1 M1 ds vs s1 a1 r1 l1 q1 => ?_⟩
  split at q1
  · rename_i n
    obtain ⟨x, r, rfl, rx, rfl⟩ := r1
    obtain ⟨⟨b1, b2⟩, q1⟩ := q1
    exact ⟨n, by rw [show x = V.int n from rx], by omega, by omega, k F1 H1 M1 _ _ s1 a1 (gives_range (by rw [sizeLine_eq]; omega)) q1⟩
  · exact q1.elim
theorem pdi_range2 {tg : Expr} (hm : X.mg "range" = none) (ha : PDA X [a, b] t) (hg : Gl X "range" := by rfl) (hs : starEach [a, b] X.env = [(false, eval a X.env), (false, eval b X.env)] := by rfl) (hs2 : starEach [b] X.env = [(false, eval b X.env)] := by rfl) : PDI X tg (.Call (.Name "range" p) [a, b] [] pos) (iRange2 t) := by
  refine pi_imp (pi_range2 hg hm ha hs hs2) fun σ H Z ⟨R, F, env, M, Qd, a, e, h, k⟩ => ⟨R, F, env, M, _, a, e, h, fun F1 H1 M1 ds vs s1 a1 r1 l1 q1 => ?_⟩
  split at q1
  · rename_i i j
    obtain ⟨x, r, rfl, rx, y, r', rfl, ry, rfl⟩ := r1
    obtain ⟨⟨⟨b1, b2⟩, b3, b4, b5⟩, q1⟩ := q1
    exact ⟨i, j, by rw [show x = V.int i from rx, show y = V.int j from ry], ⟨by omega, by omega, by omega, by omega⟩, k F1 H1 M1 _ _ s1 a1 (gives_range (by rw [sizeLine_eq]; omega)) q1⟩
  · exact q1.elim
/-- enumerate(xs), xs a frozen list -/
def iEnumL (t : DA) : DI := fun env M Q => t env M fun ds M1 => match ds with
  | [.lst xs] => Q (xs.mapIdx fun i d => .tup [.int (i : Nat), d]) M1
  | _ => False
/-- a new tuple of each turn -/
theorem new_pair {K : PySem.W.Frag} {R F : Hp} {M : Mp} {H : Hp} {T : Addr} {d g : D} {x y : V} (a : At K R F M H) (hT : H T = none) (r1 : Rep K F d x) (r2 : Rep K F g y) : ∃ F2, Same F F2 ∧ At K R F2 M (upd H T (.tup [x, y])) ∧ Rep K F2 (.tup [d, g]) (.ref T) := by
  obtain ⟨a1, s1⟩ := a.laid hT (.tup [x, y])
  exact ⟨_, s1, a1, T, [x, y], rfl, SqT.of upd_same, x, [y], rfl, r1.mono s1, y, [], rfl, r2.mono s1, rfl⟩
theorem pdi_enum {elts : List Expr} {kk : Nat} {tpos : Pos} (hm : X.mg "enumerate" = none) (ha : PDA X [e] t) (hg : Gl X "enumerate" := by rfl) (hs : starEach [e] X.env = [(false, eval e X.env)] := by rfl) : PDI X (.Tuple elts kk tpos) (.Call (.Name "enumerate" p) [e] [] pos) (iEnumL t) := by
  refine pi_imp (pi_enum hg hm (pa_held ha) hs) fun σ H Z ⟨R, F, env, M, Qd, a, e, h, k⟩ => ⟨R, F, env, M, _, a, e, h, fun F1 H1 M1 ds vs s1 a1 r1 l1 q1 pins s σ I => ?_⟩
  split at q1
  · rename_i xs
    obtain ⟨x, r, rfl, ⟨p, ys, rfl, hq', rx⟩, rfl⟩ := r1
    have hq : SqL X.K F1 p ys := SqL.of hq'
    have hH := a1.fz.seq hq
    obtain ⟨its, rv, pl, hz⟩ := I.list hH
    refine ⟨p, ys, rfl, hH, k F1 H1 M1 _ _ s1 a1 ⟨by simp [rx.length, hz], fun R F' M H s a' => ⟨ys, a'.fz.seq (s.seq hq), by simp [rx.length]⟩, fun i d R F' M H s a' hi => ?_⟩ q1⟩
    rw [List.getElem?_mapIdx] at hi
    cases hx : xs[i]? with
    | none => rw [hx] at hi; cases hi
    | some g =>
      rw [hx] at hi
      cases hi
      obtain ⟨y, hy, ry⟩ := rx.get hx
      refine ⟨⟨ys, y, a'.fz.seq (s.seq hq), hy⟩, fun v H' ⟨T, z, ev, hT, eH, hz⟩ => ?_⟩
      have := hz ys (a'.fz.seq (s.seq hq))
      rw [hy] at this; cases this
      subst ev eH
      exact new_pair a' hT rfl (ry.mono s)
  · exact q1.elim
/-- zip of two frozen lists, of two tuples -/
def iZipD (t : DA) : DI := fun env M Q => t env M fun ds M1 => match ds with
  | [.lst xs, .lst ys] => Q (List.zipWith (fun x y => .tup [x, y]) xs ys) M1
  | [.tup xs, .tup ys] => Q (List.zipWith (fun x y => .tup [x, y]) xs ys) M1
  | _ => False
theorem zip_at {xs ys : List D} {i : Nat} {d : D} (h : (List.zipWith (fun x y => D.tup [x, y]) xs ys)[i]? = some d) : ∃ x y, xs[i]? = some x ∧ ys[i]? = some y ∧ d = .tup [x, y] := by
  rw [List.getElem?_zipWith] at h
  cases hx : xs[i]? with
  | none => rw [hx] at h; cases h
  | some x =>
    cases hy : ys[i]? with
    | none => rw [hx, hy] at h; cases h
    | some y => rw [hx, hy] at h; cases h; exact ⟨x, y, rfl, rfl, rfl⟩
theorem pdi_zip {e2 : Expr} {elts : List Expr} {kk : Nat} {tpos : Pos} (hm : X.mg "zip" = none) (ha : PDA X [e, e2] t) (hg : Gl X "zip" := by rfl)
    (hs : starEach [e, e2] X.env = (false, eval e X.env) :: starEach [e2] X.env := by rfl) (hpl : (backTo pos (starEach [e2] X.env)).any (·.1) = false := by rfl) : PDI X (.Tuple elts kk tpos) (.Call (.Name "zip" p) [e, e2] [] pos) (iZipD t) := by
  refine pi_imp (RZ.pi_zipA hg hm (pa_held ha) hs hpl) fun σ H Z ⟨R, F, env, M, Qd, a, e, h, k⟩ => ⟨R, F, env, M, _, a, e, h, fun F1 H1 M1 ds vs s1 a1 r1 l1 q1 pins s σ I => ?_⟩
  split at q1
  · rename_i xs ys
    obtain ⟨_, _, rfl, ⟨p, vx, rfl, hx', rx⟩, _, _, rfl, ⟨p2, vy, rfl, hy', ry⟩, rfl⟩ := r1
    have hx : SqL X.K F1 p vx := SqL.of hx'
    have hy : SqL X.K F1 p2 vy := SqL.of hy'
    obtain ⟨_, _, _, hz⟩ := I.list (a1.fz.seq hx)
    have lx := rx.length
    have ly := ry.length
    refine ⟨p, p2, vx, vy, rfl, .inl ⟨a1.fz.seq hx, a1.fz.seq hy, k F1 H1 M1 _ _ s1 a1 ⟨by rw [List.length_zipWith]; omega, fun R F' M H s a' => ⟨vx, vy, a'.fz.seq (s.seq hx), a'.fz.seq (s.seq hy), by rw [List.length_zipWith]; omega⟩, fun i d R F' M H s a' hi => ?_⟩ q1⟩⟩
    obtain ⟨x, y, h1, h2, rfl⟩ := zip_at hi
    obtain ⟨u, hu, ru⟩ := rx.get h1
    obtain ⟨v, hv, rv⟩ := ry.get h2
    refine ⟨⟨vx, vy, u, v, a'.fz.seq (s.seq hx), a'.fz.seq (s.seq hy), hu, hv⟩, fun v' H' ⟨T, x', y', ev, hT, eH, z1, z2⟩ => ?_⟩
    have e1 := z1 vx (a'.fz.seq (s.seq hx)); rw [hu] at e1; cases e1
    have e2 := z2 vy (a'.fz.seq (s.seq hy)); rw [hv] at e2; cases e2
    subst ev eH
    exact new_pair a' hT (ru.mono s) (rv.mono s)
  · rename_i xs ys
    obtain ⟨_, _, rfl, ⟨p, vx, rfl, hx, rx⟩, _, _, rfl, ⟨p2, vy, rfl, hy, ry⟩, rfl⟩ := r1
    obtain ⟨_, _, _, hz⟩ := I.tuple (Same.seqT a1.fz hx)
    have lx := rx.length
    have ly := ry.length
    refine ⟨p, p2, vx, vy, rfl, .inr ⟨Same.seqT a1.fz hx, Same.seqT a1.fz hy, k F1 H1 M1 _ _ s1 a1 ⟨by rw [List.length_zipWith]; omega, fun R F' M H s a' => ⟨vx, vy, Same.seqT a'.fz (Same.seqT s hx), Same.seqT a'.fz (Same.seqT s hy), by rw [List.length_zipWith]; omega⟩, fun i d R F' M H s a' hi => ?_⟩ q1⟩⟩
    obtain ⟨x, y, h1, h2, rfl⟩ := zip_at hi
    obtain ⟨u, hu, ru⟩ := rx.get h1
    obtain ⟨v, hv, rv⟩ := ry.get h2
    refine ⟨⟨vx, vy, u, v, Same.seqT a'.fz (Same.seqT s hx), Same.seqT a'.fz (Same.seqT s hy), hu, hv⟩, fun v' H' ⟨T, x', y', ev, hT, eH, z1, z2⟩ => ?_⟩
    have e1 := z1 vx (Same.seqT a'.fz (Same.seqT s hx)); rw [hu] at e1; cases e1
    have e2 := z2 vy (Same.seqT a'.fz (Same.seqT s hy)); rw [hv] at e2; cases e2
    subst ev eH
    exact new_pair a' hT (ru.mono s) (rv.mono s)
  · exact q1.elim
/-! ### operators -/
def asI (d : D) (k : Int → Prop) : Prop := match d with
  | .int i => k i
  | _ => False
def r2I (C : Int → Int → Prop) (g : Int → Int → D) : R2D := fun d e M Q => match d, e with
  | .int i, .int j => C i j ∧ Q (g i j) M
  | _, _ => False
def r2J (g : Int → Int → D) : R2D := fun d e M Q => match d, e with
  | .int i, .int j => Q (g i j) M
  | _, _ => False
abbrev rSubI : R2D := r2J fun i j => .int (i - j)
abbrev rMulI : R2D := r2I CMul fun i j => .int (i * j)
abbrev rModI : R2D := r2I (fun _ j => 0 < j) fun i j => .int (i % j)
abbrev rDivI : R2D := r2I CDiv fun i j => .int (i / j)
abbrev rPowI : R2D := r2I CPow fun i j => .int (i ^ j.toNat)
abbrev rLtI : R2D := r2J fun i j => .bl (decide (i < j))
abbrev rLeI : R2D := r2J fun i j => .bl (decide (i ≤ j))
abbrev rGtI : R2D := r2J fun i j => .bl (decide (j < i))
abbrev rGeI : R2D := r2J fun i j => .bl (decide (j ≤ i))
theorem opd_int {f : Value → Value → Sem Value} {C : Int → Int → Prop} {g : Int → Int → V} {gd : Int → Int → D} (h : OpR X f (rI C g)) (hg : ∀ K F i j, Rep K F (gd i j) (g i j)) : OpD X f (r2I C gd) :=
  ⟨_, h, fun R F M H d e x y Qd Q a r1 r2 q k => by
    unfold r2I at q
    split at q
    · rename_i i j
      exact ⟨i, j, r1, r2, q.1, k F H M _ _ (Same.refl _) a (hg _ _ _ _) q.2⟩
    · exact q.elim⟩
theorem opd_int0 {f : Value → Value → Sem Value} {g : Int → Int → V} {gd : Int → Int → D} (h : OpR X f (rI0 g)) (hg : ∀ K F i j, Rep K F (gd i j) (g i j)) : OpD X f (r2J gd) :=
  ⟨_, h, fun R F M H d e x y Qd Q a r1 r2 q k => by
    unfold r2J at q
    split at q
    · rename_i i j
      exact ⟨i, j, r1, r2, k F H M _ _ (Same.refl _) a (hg _ _ _ _) q⟩
    · exact q.elim⟩
theorem opd_subI : OpD X (binaryOp .Sub) rSubI := opd_int0 op_sub fun _ _ _ _ => rfl
theorem opd_mulI : OpD X (binaryOp .Mult) rMulI := opd_int op_mul fun _ _ _ _ => rfl
theorem opd_mod : OpD X (binaryOp .Mod) rModI := opd_int op_mod fun _ _ _ _ => rfl
theorem opd_fdiv : OpD X (binaryOp .FloorDiv) rDivI := opd_int op_fdiv fun _ _ _ _ => rfl
theorem opd_pow : OpD X (binaryOp .Pow) rPowI := opd_int op_pow fun _ _ _ _ => rfl
theorem opd_lt : OpD X (compareOp .Lt) rLtI := opd_int0 op_lt fun _ _ _ _ => rfl
theorem opd_le : OpD X (compareOp .LtE) rLeI := opd_int0 op_le fun _ _ _ _ => rfl
theorem opd_gt : OpD X (compareOp .Gt) rGtI := opd_int0 op_gt fun _ _ _ _ => rfl
theorem opd_ge : OpD X (compareOp .GtE) rGeI := opd_int0 op_ge fun _ _ _ _ => rfl
end
end L3
set_option Elab.async false
set_option linter.all false
set_option maxRecDepth 100000
set_option maxHeartbeats 1000000
/-! L3, fourth part: operators on data, subscripts, slices, methods, built-ins. -/
namespace L3
open PySem PySem.Spec PyProof.Rows L2
/-! ### data compared -/
mutual
def D.py : D → PyData
  | .non => .none
  | .bl b => .bool b
  | .int i => .int i
  | .str x => .str x
  | .tup ds => .tuple (D.pys ds)
  | .lst ds => .list (D.pys ds)
  | _ => .none
def D.pys : List D → List PyData
  | [] => []
  | d :: ds => D.py d :: D.pys ds
end
mutual
/-- no references within, at most n deep -/
def D.le : Nat → D → Bool
  | _, .non => true
  | _, .bl _ => true
  | _, .int _ => true
  | _, .str _ => true
  | n + 1, .tup ds => D.les n ds
  | n + 1, .lst ds => D.les n ds
  | _, _ => false
def D.les : Nat → List D → Bool
  | _, [] => true
  | n, d :: ds => D.le n d && D.les n ds
end
def eqD (d e : D) : Bool := PyData.eqv d.py e.py
section
variable {K : PySem.W.Frag} {F : Hp}
mutual
theorem py_dp : ∀ {n : Nat} {d : D} {v : V}, Rep K F d v → D.le n d = true → Dp K F v d.py ∧ d.py.canLay0 = true ∧ d.py.depth ≤ n + 1
  | n, .non, _, r, _ => by cases r; exact ⟨.non, rfl, by simp [D.py, PyData.depth]⟩
  | n, .bl b, _, r, _ => by cases r; exact ⟨.bl b, rfl, by simp [D.py, PyData.depth]⟩
  | n, .int i, _, r, _ => by cases r; exact ⟨.int i, rfl, by simp [D.py, PyData.depth]⟩
  | n, .str x, _, ⟨r, z⟩, _ => by
    cases r
    refine ⟨.str x, ?_, by simp [D.py, PyData.depth]⟩
    simp only [D.py, PyData.canLay0, PyData.strOk, Array.all_eq_true]
    intro i hi
    exact decide_eq_true (z.2 _ (by simp))
  | n + 1, .tup ds, _, ⟨a, xs, e, q, r⟩, h => by
    subst e
    obtain ⟨h1, h2, h3⟩ := pys_dp r (show D.les n ds = true by simpa [D.le] using h)
    exact ⟨.tup q h1, by simpa [D.py, PyData.canLay0] using h2, by simp only [D.py, PyData.depth]; omega⟩
  | n + 1, .lst ds, _, ⟨a, xs, e, q, r⟩, h => by
    subst e
    obtain ⟨h1, h2, h3⟩ := pys_dp r (show D.les n ds = true by simpa [D.le] using h)
    exact ⟨.lst (SqL.of q) h1, by simpa [D.py, PyData.canLay0] using h2, by simp only [D.py, PyData.depth]; omega⟩
  | 0, .tup ds, _, _, h => by simp [D.le] at h
  | 0, .lst ds, _, _, h => by simp [D.le] at h
  | _, .ref _, _, _, h => by simp [D.le] at h
  | _, .ty _, _, _, h => by simp [D.le] at h
  | _, .lsk _, _, _, h => by simp [D.le] at h
  | _, .dct _ _, _, _, h => by simp [D.le] at h
  | _, .obj _ _, _, _, h => by simp [D.le] at h
  | _, .dkd _ _ _, _, _, h => by simp [D.le] at h
theorem pys_dp : ∀ {n : Nat} {ds : List D} {vs : List V}, Reps K F ds vs → D.les n ds = true → DpAll K F vs (D.pys ds) ∧ PyData.canLayAll0 (D.pys ds) = true ∧ PyData.depthAll (D.pys ds) ≤ n + 1
  | n, [], _, r, _ => by cases r; exact ⟨.nil, by simp [D.pys, PyData.canLayAll0], by simp [D.pys, PyData.depthAll]⟩
  | n, d :: ds, _, ⟨x, r, e, r1, r2⟩, h => by
    subst e
    have h' : D.le n d = true ∧ D.les n ds = true := by simpa [D.les] using h
    obtain ⟨a1, a2, a3⟩ := py_dp r1 h'.1
    obtain ⟨b1, b2, b3⟩ := pys_dp r2 h'.2
    exact ⟨.cons a1 b1, by simp [D.pys, PyData.canLayAll0, a2, b2], by simp only [D.pys, PyData.depthAll]; omega⟩
end
theorem py_shaped {d : D} {v : V} (r : Rep K F d v) (h : D.le 60 d = true) : Dp K F v d.py ∧ SeqAt.shaped d.py = true := by
  obtain ⟨h1, h2, h3⟩ := py_dp r h
  exact ⟨h1, by unfold SeqAt.shaped; rw [h2, decide_eq_true (by omega)]; rfl⟩
end
theorem dp_mono {K : PySem.W.Frag} {F H : Hp} (s : Same F H) {v : V} {d : PyData} (h : Dp K F v d) : Dp K H v d := by
  refine Dp.rec (motive_1 := fun v d _ => Dp K H v d) (motive_2 := fun vs ds _ => DpAll K H vs ds) ?_ ?_ ?_ ?_ ?_ ?_ ?_ ?_ h
  · exact .non
  · exact .bl
  · exact .int
  · exact .str
  · intro a xs ds q _ ih; exact .lst (s.seq q) ih
  · intro a xs ds q _ ih; exact .tup (Same.seqT s q) ih
  · exact .nil
  · intro v vs d ds _ _ i1 i2; exact .cons i1 i2
/-- an own list that is held by a reference, as it stands -/
def resD (M : Mp) (d : D) : D := match d with
  | .ref q => match M q with
    | some (.lst ds) => .lst ds
    | _ => d
  | _ => d
/-- .. and where it stands in the heap -/
theorem res_rep {K : PySem.W.Frag} {R F : Hp} {M : Mp} {H : Hp} {d : D} {v : V} (a : At K R F M H) (r : Rep K F d v) : Rep K H (resD M d) v := by
  unfold resD
  split
  · rename_i q
    split
    · rename_i ds hm
      obtain ⟨_, u, hu, xs, rfl, rx⟩ := a.mu _ _ hm
      exact ⟨q, xs, r, hu, rx.mono a.fz⟩
    · exact r
  · exact r.mono a.fz
/-- a dict as it stands -/
def resK (M : Mp) (d : D) : Option (List L2.Key × List D) := match d with
  | .dct ks ds => some (ks, ds)
  | .ref q => match M q with
    | some (.dct ks ds) => some (ks, ds)
    | _ => none
  | _ => none
theorem resK_at {K : PySem.W.Frag} {R F : Hp} {M : Mp} {H : Hp} {d : D} {v : V} {ks : List L2.Key} {ds : List D} (a : At K R F M H) (r : Rep K F d v) (h : resK M d = some (ks, ds)) :
    ∃ p xs, v = .ref p ∧ Rd H p (.dK (ks.zip xs)) ∧ KsOk ks ds ∧ Reps K F ds xs := by
  unfold resK at h
  split at h
  · cases h
    obtain ⟨p, o, xs, rfl, hq, l, rx⟩ := r
    exact ⟨p, xs, rfl, .inr ⟨o, a.fz _ _ hq⟩, l, rx⟩
  · split at h
    · rename_i hm
      cases h
      obtain ⟨_, u, hu, xs, rfl, l, rx⟩ := a.mu _ _ hm
      exact ⟨_, xs, r, .inl hu, l, rx⟩
    · cases h
  · cases h
theorem resK_get {K : PySem.W.Frag} {R F : Hp} {M : Mp} {H : Hp} {d e : D} {x y : V} {ks : List L2.Key} {ds : List D} {k : L2.Key} (a : At K R F M H) (r : Rep K F d x) (r2 : Rep K F e y) (h : resK M d = some (ks, ds)) (hk : keyD e = some k) :
    ∃ p o, x = .ref p ∧ DGet H p y o ∧ (∀ g, findK ks ds k = some g → ∃ v, o = some v ∧ Rep K F g v) ∧ (findK ks ds k = none → o = none) := by
  obtain ⟨p, xs, rfl, hr, l, rx⟩ := resK_at a r h
  obtain ⟨h1, h2⟩ := findK_some (j := k) l.1 rx
  exact ⟨p, _, rfl, .inl ⟨_, k, hr, keyD_ok r2 hk, rfl⟩, h1, h2⟩
def rEqDD (g : Bool → Bool) : R2D := fun d e M Q => (D.le 60 (resD M d) = true ∧ D.le 60 (resD M e) = true) ∧ Q (.bl (g (eqD (resD M d) (resD M e)))) M
section
variable {X : Cx}
theorem opd_eq {k : Nat} (hr : Room k X.A) : OpD X (compareOp .Eq) (rEqDD id) := ⟨_, op_eqD hr.units, fun R F M H d e x y Qd Q a r1 r2 ⟨⟨l1, l2⟩, q⟩ kd => by
  obtain ⟨d1, s1⟩ := py_shaped (res_rep a r1) l1
  obtain ⟨d2, s2⟩ := py_shaped (res_rep a r2) l2
  exact ⟨_, _, d1, d2, s1, s2, kd F H M (.bl _) _ (Same.refl _) a rfl q⟩⟩
theorem opd_ne {k : Nat} (hr : Room k X.A) : OpD X (compareOp .NotEq) (rEqDD not) := ⟨_, op_neD hr.units, fun R F M H d e x y Qd Q a r1 r2 ⟨⟨l1, l2⟩, q⟩ kd => by
  obtain ⟨d1, s1⟩ := py_shaped (res_rep a r1) l1
  obtain ⟨d2, s2⟩ := py_shaped (res_rep a r2) l2
  exact ⟨_, _, d1, d2, s1, s2, kd F H M (.bl _) _ (Same.refl _) a rfl q⟩⟩
/-- is None, is not None -/
def isNonD : D → Bool
  | .non => true
  | _ => false
theorem isNonD_ok {K : PySem.W.Frag} {F : Hp} {d : D} {v : V} (r : Rep K F d v) : decide (v = .non) = isNonD d := by
  cases d with
  | non => cases r; rfl
  | bl b => cases r; rfl
  | int b => cases r; rfl
  | str b => obtain ⟨r, _⟩ := r; cases r; rfl
  | ty b => cases r; rfl
  | ref b => cases r; rfl
  | tup ds => obtain ⟨_, _, rfl, _⟩ := r; rfl
  | lst ds => obtain ⟨_, _, rfl, _⟩ := r; rfl
  | lsk ds => obtain ⟨_, _, rfl, _⟩ := r; rfl
  | dct ks ds => obtain ⟨_, _, _, rfl, _⟩ := r; rfl
  | obj c ds => obtain ⟨_, _, _, rfl, _⟩ := r; rfl
  | dkd w ks ds => obtain ⟨_, _, _, rfl, _⟩ := r; rfl
def rIsD (g : Bool → Bool) : R2D := fun d e M Q => match e with
  | .non => Q (.bl (g (isNonD d))) M
  | _ => False
theorem opd_is : OpD X (compareOp .Is) (rIsD id) := ⟨_, op_isN, fun R F M H d e x y Qd Q a r1 r2 q kd => by
  cases e with
  | non => exact ⟨r2, by rw [isNonD_ok r1]; exact kd F H M (.bl _) _ (Same.refl _) a rfl q⟩
  | _ => exact q.elim⟩
theorem opd_isnot : OpD X (compareOp .IsNot) (rIsD not) := ⟨_, op_notN, fun R F M H d e x y Qd Q a r1 r2 q kd => by
  cases e with
  | non => exact ⟨r2, by rw [isNonD_ok r1]; exact kd F H M (.bl _) _ (Same.refl _) a rfl q⟩
  | _ => exact q.elim⟩
/-- + of ints, texts, tuples, frozen lists -/
def rAddD : R2D := fun d e M Q => match d, e with
  | .int i, .int j => Q (.int (i + j)) M
  | .str x, .str y => x.length + y.length ≤ sizeLine ∧ Q (.str (x ++ y)) M
  | .tup xs, .tup ys => xs.length + ys.length ≤ sizeLine ∧ Q (.tup (xs ++ ys)) M
  | .lst xs, .lst ys => xs.length + ys.length ≤ sizeLine ∧ Q (.lst (xs ++ ys)) M
  | _, _ => False
theorem sok_append {x y : Str} (h : SOk x) (h' : SOk y) (hz : x.length + y.length ≤ sizeLine) : SOk (x ++ y) := by
  have e : (x ++ y).cps = x.cps ++ y.cps := rfl
  refine ⟨by show (x ++ y).cps.size ≤ _; rw [e, Array.size_append]; exact hz, fun c hc => ?_⟩
  rw [e, Array.toList_append, List.mem_append] at hc
  exact hc.elim (h.2 c) (h'.2 c)
theorem opd_add : OpD X (binaryOp .Add) rAddD := ⟨_, op_add.or (op_add_str.or (op_catA.or op_cat)), fun R F M H d e x y Qd Q a r1 r2 q kd => by
  unfold rAddD at q
  split at q
  · rename_i i j
    exact .inl ⟨i, j, r1, r2, kd F H M (.int _) _ (Same.refl _) a rfl q⟩
  · rename_i z w
    exact .inr (.inl ⟨z, w, r1.1, r2.1, q.1, kd F H M (.str _) _ (Same.refl _) a ⟨rfl, sok_append r1.2 r2.2 q.1⟩ q.2⟩)
  · rename_i xs ys
    obtain ⟨p, vx, rfl, hx, rx⟩ := r1
    obtain ⟨p2, vy, rfl, hy, ry⟩ := r2
    have lx := rx.length
    have ly := ry.length
    refine .inr (.inr (.inl ⟨p, p2, vx, vy, rfl, rfl, Same.seqT a.fz hx, Same.seqT a.fz hy, by omega, fun e => ?_, fun _ e => ?_, fun _ _ P hP => tup_new a (rx.append ry) kd q.2 hP⟩))
    · have : xs = [] := List.eq_nil_of_length_eq_zero (by rw [lx, e]; rfl)
      subst this
      exact kd F H M (.tup ys) _ (Same.refl _) a ⟨p2, vy, rfl, hy, ry⟩ q.2
    · have : ys = [] := List.eq_nil_of_length_eq_zero (by rw [ly, e]; rfl)
      subst this
      exact kd F H M (.tup xs) _ (Same.refl _) a ⟨p, vx, rfl, hx, rx⟩ (by have := q.2; rwa [List.append_nil] at this)
  · rename_i xs ys
    obtain ⟨p, vx, rfl, hx, rx⟩ := r1
    obtain ⟨p2, vy, rfl, hy, ry⟩ := r2
    have lx := rx.length
    have ly := ry.length
    exact .inr (.inr (.inr ⟨p, p2, vx, vy, rfl, rfl, a.fz _ _ hx, a.fz _ _ hy, by omega, fun P hP => lst_new a (rx.append ry) kd q.2 hP⟩))
  · exact q.elim⟩
/-- x in xs -/
def strIn (x y : Str) : Bool := !(Builtin.Str.occurrences y x 0 y.length 1).isEmpty
def rInK (g : Bool → Bool) (d e : D) (M : Mp) (Q : DK) : Prop := match resK M e with
  | some (ks, ds) => match keyD d with
    | some k => Q (.bl (g (findK ks ds k).isSome)) M
    | none => False
  | none => False
def rInDD (g : Bool → Bool) : R2D := fun d e M Q => match resD M e with
  | .str y => match d with
    | .str x => Q (.bl (g (strIn x y))) M
    | _ => False
  | .lst ys => (D.le 60 d = true ∧ D.les 58 ys = true) ∧ Q (.bl (g (ys.any fun z => eqD z d))) M
  | .tup ys => (D.le 60 d = true ∧ D.les 58 ys = true) ∧ Q (.bl (g (ys.any fun z => eqD z d))) M
  | _ => rInK g d e M Q
theorem any_py (ys : List D) (d : D) : ((D.pys ys).any fun z => PyData.eqv z d.py) = ys.any fun z => eqD z d := by
  induction ys with
  | nil => rfl
  | cons y ys ih => simp only [D.pys, List.any_cons, ih, eqD]
theorem lst_shaped {K : PySem.W.Frag} {F : Hp} {ys : List D} {v : V} (r : Rep K F (.lst ys) v) (h : D.les 58 ys = true) : Dp K F v (.list (D.pys ys)) ∧ SeqAt.shaped (.list (D.pys ys)) = true := by
  obtain ⟨h1, h2, h3⟩ := py_dp (n := 59) r (by simpa [D.le] using h)
  simp only [D.py] at h1 h2 h3
  exact ⟨h1, by unfold SeqAt.shaped; rw [h2, decide_eq_true (by omega)]; rfl⟩
theorem tup_shaped {K : PySem.W.Frag} {F : Hp} {ys : List D} {v : V} (r : Rep K F (.tup ys) v) (h : D.les 58 ys = true) : Dp K F v (.tuple (D.pys ys)) ∧ SeqAt.shaped (.tuple (D.pys ys)) = true := by
  obtain ⟨h1, h2, h3⟩ := py_dp (n := 59) r (by simpa [D.le] using h)
  simp only [D.py] at h1 h2 h3
  exact ⟨h1, by unfold SeqAt.shaped; rw [h2, decide_eq_true (by omega)]; rfl⟩
/-- y in a dict -/
def rInT (g : Bool → Bool) : R2 := fun y x H Q => ∃ a o, x = .ref a ∧ DGet H a y o ∧ Q (.bl (g o.isSome)) H
theorem op_inT (hu : X.A.units + 1 < cLine) : OpR X (compareOp .In) (rInT id) := by
  intro pins s σ H y x v u Q I ry rx ⟨a, o, e, g, q⟩
  subst e
  obtain rfl : u = Value.ref a := rx
  exact d_in hu I g ry fun s' I' => ⟨.bl o.isSome, H, I', rfl, q⟩
theorem op_notinT (hu : X.A.units + 1 < cLine) : OpR X (compareOp .NotIn) (rInT not) := by
  intro pins s σ H y x v u Q I ry rx ⟨a, o, e, g, q⟩
  subst e
  obtain rfl : u = Value.ref a := rx
  exact d_notIn hu I g ry fun s' I' => ⟨.bl (!o.isSome), H, I', rfl, q⟩
theorem in_served {K : PySem.W.Frag} (g : Bool → Bool) {rS rL : R2} (hS : ∀ i j H (Q : VK), Q (.bl (g (!(Builtin.Str.occurrences j i 0 j.length 1).isEmpty))) H → rS (.str i) (.str j) H Q)
    (hL : ∀ x y (d : PyData) (ds : List PyData) H (Q : VK), Dp K H x d → (Dp K H y (.list ds) ∧ SeqAt.shaped (.list ds) = true ∨ Dp K H y (.tuple ds) ∧ SeqAt.shaped (.tuple ds) = true) → SeqAt.shaped d = true → Q (.bl (g (ds.any fun z => PyData.eqv z d))) H → rL x y H Q) :
    Serves2 K (rInDD g) (fun x y H Q => rS x y H Q ∨ rL x y H Q ∨ rInT g x y H Q) := fun R F M H d e x y Qd Q a r1 r2 q kd => by
  have r2' := res_rep a r2
  have key : rInK g d e M Qd → rInT g x y H Q := fun q => by
    unfold rInK at q
    split at q
    · rename_i ks ds hr
      split at q
      · rename_i k hk
        obtain ⟨p, o, rfl, hg, h1, h2⟩ := resK_get a r2 r1 hr hk
        refine ⟨p, o, rfl, hg, kd F H M (.bl (g o.isSome)) _ (Same.refl _) a rfl ?_⟩
        have eo : o.isSome = (findK ks ds k).isSome := by
          cases hf : findK ks ds k with
          | none => rw [h2 hf]; rfl
          | some z => obtain ⟨v, e, _⟩ := h1 z hf; rw [e]; rfl
        rw [eo]; exact q
      · exact q.elim
    · exact q.elim
  unfold rInDD at q
  split at q
  · rename_i z hz
    rw [hz] at r2'
    split at q
    · rename_i w
      obtain ⟨e1, _⟩ := r1
      obtain ⟨e2, _⟩ := r2'
      subst e1 e2
      exact .inl (hS w z H Q (kd F H M (.bl _) _ (Same.refl _) a rfl q))
    · exact q.elim
  · rename_i ys hz
    rw [hz] at r2'
    obtain ⟨⟨l1, l2⟩, q⟩ := q
    obtain ⟨d1, s1⟩ := py_shaped (r1.mono a.fz) l1
    obtain ⟨d2, s2⟩ := lst_shaped r2' l2
    exact .inr (.inl (hL x y _ _ H Q d1 (.inl ⟨d2, s2⟩) s1 (by rw [any_py]; exact kd F H M (.bl _) _ (Same.refl _) a rfl q)))
  · rename_i ys hz
    rw [hz] at r2'
    obtain ⟨⟨l1, l2⟩, q⟩ := q
    obtain ⟨d1, s1⟩ := py_shaped (r1.mono a.fz) l1
    obtain ⟨d2, s2⟩ := tup_shaped r2' l2
    exact .inr (.inl (hL x y _ _ H Q d1 (.inr ⟨d2, s2⟩) s1 (by rw [any_py]; exact kd F H M (.bl _) _ (Same.refl _) a rfl q)))
  · exact .inr (.inr (key q))
/-- .. in a tuple -/
def rInU (K : PySem.W.Frag) (g : Bool → Bool) : R2 := fun x y H Q => ∃ d ds, Dp K H x d ∧ Dp K H y (.tuple ds) ∧ SeqAt.shaped d = true ∧ SeqAt.shaped (.tuple ds) = true ∧ Q (.bl (g (ds.any fun z => PyData.eqv z d))) H
theorem op_inU (hu : X.A.units + 65 < cLine) : OpR X (compareOp .In) (rInU X.K id) := by
  intro pins s σ H x y v u Q I rx ry ⟨d, ds, hd, he, sd, se, q⟩
  obtain ⟨as, r1⟩ := Dp.reads I d x v hd rx
  obtain ⟨bs, r2⟩ := Dp.reads I (.tuple ds) y u he ry
  exact SeqAt.in_tuple_reads r2 r1 (SeqAt.canLay_of_shaped se) (SeqAt.canLay_of_shaped sd) (room_in_shaped sd hu) ⟨.bl (ds.any fun z => PyData.eqv z d), H, I, rfl, q⟩
theorem op_notinU (hu : X.A.units + 65 < cLine) : OpR X (compareOp .NotIn) (rInU X.K not) := by
  intro pins s σ H x y v u Q I rx ry ⟨d, ds, hd, he, sd, se, q⟩
  obtain ⟨as, r1⟩ := Dp.reads I d x v hd rx
  obtain ⟨bs, r2⟩ := Dp.reads I (.tuple ds) y u he ry
  exact SeqAt.notIn_tuple_reads r2 r1 (SeqAt.canLay_of_shaped se) (SeqAt.canLay_of_shaped sd) (room_in_shaped sd hu) ⟨.bl (!(ds.any fun z => PyData.eqv z d)), H, I, rfl, q⟩
theorem opd_in {k : Nat} (hr : Room k X.A) : OpD X (compareOp .In) (rInDD id) := ⟨_, op_in_str.or (((op_inD (by have := hr.un; omega)).or (op_inU (by have := hr.un; omega))).or (op_inT (by have := hr.un; omega))),
  in_served (rL := fun x y H Q => rInD X.K x y H Q ∨ rInU X.K id x y H Q) id (fun i j H Q q => ⟨i, j, rfl, rfl, q⟩) fun x y d ds H Q d1 d2 s1 q => d2.elim (fun z => .inl ⟨d, ds, d1, z.1, s1, z.2, q⟩) fun z => .inr ⟨d, ds, d1, z.1, s1, z.2, q⟩⟩
theorem opd_notin {k : Nat} (hr : Room k X.A) : OpD X (compareOp .NotIn) (rInDD not) := ⟨_, op_notin_str.or (((op_notInD (by have := hr.un; omega)).or (op_notinU (by have := hr.un; omega))).or (op_notinT (by have := hr.un; omega))),
  in_served (rL := fun x y H Q => rNotInD X.K x y H Q ∨ rInU X.K not x y H Q) not (fun i j H Q q => ⟨i, j, rfl, rfl, q⟩) fun x y d ds H Q d1 d2 s1 q => d2.elim (fun z => .inl ⟨d, ds, d1, z.1, s1, z.2, q⟩) fun z => .inr ⟨d, ds, d1, z.1, s1, z.2, q⟩⟩
/-! ### subscripts -/
variable {a b : Expr} {e : Expr} {es : List Expr} {te ta tb : DE} {t : DA} {pos p : Pos}
def rIxK (d e : D) (M : Mp) (Q : DK) : Prop := match resK M d with
  | some (ks, ds) => match keyD e with
    | some k => match findK ks ds k with
      | some x => Q x M
      | none => False
    | none => False
  | none => False
def rIxI (e : D) (xs : List D) (M : Mp) (Q : DK) : Prop := match e with
  | .int i => match atI xs i with
    | some x => Q x M
    | none => False
  | _ => False
def rIxD : R2D := fun d e M Q => match resD M d with
  | .tup ds => rIxI e ds M Q
  | .lst ds => rIxI e ds M Q
  | .str z => match e with
    | .int i => match atI z.cps.toList i with
      | some c => Q (sgn c) M
      | none => False
    | _ => False
  | _ => rIxK d e M Q
theorem atI_reps {K : PySem.W.Frag} {F : Hp} {ds : List D} {vs : List V} {i : Int} {d : D} (r : Reps K F ds vs) (h : atI ds i = some d) : ∃ v, atI vs i = some v ∧ Rep K F d v := by
  unfold atI at h ⊢
  rw [← r.length]
  cases e : ixN ds.length i with
  | none => rw [e] at h; cases h
  | some j => rw [e] at h; exact r.get h
theorem atI_mem {α : Type} {xs : List α} {i : Int} {v : α} (h : atI xs i = some v) : v ∈ xs := by
  unfold atI at h
  cases e : ixN xs.length i with
  | none => rw [e] at h; cases h
  | some j => rw [e] at h; exact List.mem_of_getElem? h
def rIxT2 : R2 := fun x y H Q => ∃ a v, x = .ref a ∧ DGet H a y (some v) ∧ Q v H
theorem ix_dT (hu : X.A.units + 1 < cLine) : IxR X rIxT2 := by
  intro value slice pins s σ H x y v u Q I rx ry ⟨a, w, e, g, q⟩ hs
  subst e
  obtain rfl : v = Value.ref a := rx
  exact tail_any (dict_typeIs I g) PySem.F.slot_dict_getitem.lookup (d_getItem hu I g ry fun w' s' I' r => ⟨w, H, I', r, q⟩) hs
theorem ixI_el {e : D} {xs : List D} {M : Mp} {Q : DK} (h : rIxI e xs M Q) : ∃ i x, e = .int i ∧ atI xs i = some x ∧ Q x M := by
  unfold rIxI at h
  split at h
  · split at h
    · rename_i hx; exact ⟨_, _, rfl, hx, h⟩
    · exact h.elim
  · exact h.elim
theorem ix_served {K : PySem.W.Frag} : Serves2 K rIxD (fun x y H Q => rIx K x y H Q ∨ rIxT2 x y H Q) := fun R F M H d e x y Qd Q a r1 r2 q kd => by
  -- an item of a frozen sequence is data; of an own one too
  have key : ∀ i ds g, e = .int i → (resD M d = .tup ds ∨ resD M d = .lst ds) → atI ds i = some g → Qd g M → rIx K x y H Q := by
    intro i ds g he hd hg qg
    subst he
    cases (show y = V.int i from r2)
    cases d with
    | tup es =>
      have e1 : es = ds := by rcases hd with z | z <;> cases z; rfl
      subst e1
      obtain ⟨P, vs, rfl, hq, r⟩ := r1
      obtain ⟨v, hv, rv⟩ := atI_reps r hg
      exact .inr (.inl ⟨P, vs, i, v, rfl, rfl, Same.seqT a.fz hq, hv, kd F H M g v (Same.refl _) a rv qg⟩)
    | lst es =>
      have e1 : es = ds := by rcases hd with z | z <;> cases z; rfl
      subst e1
      obtain ⟨P, vs, rfl, hq, r⟩ := r1
      obtain ⟨v, hv, rv⟩ := atI_reps r hg
      exact .inl ⟨P, vs, i, v, rfl, rfl, SqL.of (a.fz _ _ hq), hv, kd F H M g v (Same.refl _) a rv qg⟩
    | ref P =>
      cases (show x = V.ref P from r1)
      simp only [resD] at hd
      split at hd
      · rename_i es hm
        have e1 : es = ds := by rcases hd with z | z <;> cases z; rfl
        subst e1
        obtain ⟨_, u, hu, vs, rfl, r⟩ := a.mu _ _ hm
        obtain ⟨v, hv, rv⟩ := atI_reps r hg
        exact .inl ⟨P, vs, i, v, rfl, rfl, SqL.of hu, hv, kd F H M g v (Same.refl _) a rv qg⟩
      · rcases hd with z | z <;> cases z
    | _ => rcases hd with z | z <;> cases z
  unfold rIxD at q
  split at q
  · rename_i ds hd
    obtain ⟨i, g, he, hg, q⟩ := ixI_el q
    exact .inl (key i ds g he (.inl hd) hg q)
  · rename_i ds hd
    obtain ⟨i, g, he, hg, q⟩ := ixI_el q
    exact .inl (key i ds g he (.inr hd) hg q)
  · rename_i z hd
    split at q
    · rename_i i
      cases (show y = V.int i from r2)
      split at q
      · rename_i c hg
        have rz := res_rep a r1
        rw [hd] at rz
        exact .inl (.inr (.inr ⟨z, i, c, rz.1, rfl, rz.2.1, hg, kd F H M (sgn c) _ (Same.refl _) a ⟨rfl, sgn_ok rz.2 (atI_mem hg)⟩ q⟩))
      · exact q.elim
    · exact q.elim
  · unfold rIxK at q
    split at q
    · rename_i ks ds hr
      split at q
      · rename_i k hk
        split at q
        · rename_i g hg
          obtain ⟨p, o, rfl, hget, h1, _⟩ := resK_get a r1 r2 hr hk
          obtain ⟨v, rfl, rv⟩ := h1 g hg
          exact .inr ⟨p, v, rfl, hget, kd F H M g v (Same.refl _) a rv q⟩
        · exact q.elim
      · exact q.elim
    · exact q.elim
theorem pd_ix {k : Nat} (hr : Room k X.A) (ha : PDE X a ta) (hb : PDE X b tb) (hs : PlainIx b := by intro _ _; rfl) : PDE X (.Subscript a b pos) (dBin rIxD ta tb) := pe_imp (pe_ix (ix_seq.or (ix_dT (by have := hr.un; omega))) ha hb hs) (up_bin ix_served)
/-! ### slices -/
abbrev DO := DEnv → Mp → (Option Int → Mp → Prop) → Prop
def upO (K : PySem.W.Frag) (t : DO) : TO := fun σ H Z => ∃ R F env M Qd, At K R F M H ∧ EnvR K F σ env ∧ t env M Qd ∧ ∀ F' H' M' o, Same F F' → At K R F' M' H' → Qd o M' → Z o H'
abbrev PDO (X : Cx) (e : Option Expr) (t : DO) : Prop := PO X e (upO X.K t)
def dNoPart : DO := fun _ M Q => Q none M
def dPart (te : DE) : DO := fun env M Q => te env M fun d M1 => match d with
  | .int i => Q (some i) M1
  | _ => False
theorem po_imp {o : Option Expr} {t t' : TO} (h : PO X o t) (i : ∀ σ H Q, t' σ H Q → t σ H Q) : PO X o t' := ⟨fun pins s σ H Q I q => h.run pins s σ H Q I (i _ _ _ q)⟩
theorem pdo_none : PDO X none dNoPart := po_imp po_none fun σ H Z ⟨R, F, env, M, Qd, a, e, h, k⟩ => k F H M none (Same.refl _) a h
theorem pdo_some (he : PDE X e te) : PDO X (some e) (dPart te) := po_imp (po_some he) fun σ H Z ⟨R, F, env, M, Qd, a, e, h, k⟩ => ⟨R, F, env, M, _, a, e, h, fun F1 H1 M1 d v s1 a1 r1 q1 => by
  cases d with
  | int i => exact ⟨i, r1, k F1 H1 M1 _ s1 a1 q1⟩
  | _ => exact q1.elim⟩
def cut {α : Type} (xs : List α) (lo hi : Option Int) : List α := (xs.drop (HT.sIx xs.length 0 lo)).take (HT.sIx xs.length xs.length hi - HT.sIx xs.length 0 lo)
theorem cut_reps {K : PySem.W.Frag} {F : Hp} {ds : List D} {vs : List V} (r : Reps K F ds vs) (lo hi : Option Int) : Reps K F (cut ds lo hi) (cutV vs lo hi) := by
  unfold cut cutV
  rw [← r.length]
  exact (r.drop _).take _
theorem cut_le {α : Type} (xs : List α) (lo hi : Option Int) : (cut xs lo hi).length ≤ xs.length := by
  unfold cut; rw [List.length_take, List.length_drop]; omega
theorem cut_mem {α : Type} {xs : List α} {lo hi : Option Int} {x : α} (h : x ∈ cut xs lo hi) : x ∈ xs := List.mem_of_mem_drop (List.mem_of_mem_take h)
def dSl (te : DE) (tl th : DO) : DE := fun env M Q => te env M fun d M1 => tl env M1 fun lo M2 => th env M2 fun hi M3 => match resD M3 d with
  | .tup ds => Q (.tup (cut ds lo hi)) M3
  | .lst ds => Q (.lst (cut ds lo hi)) M3
  | .lsk ds => Q (.lst (cut ds lo hi)) M3
  | .str x => Q (.str (cutS x lo hi)) M3
  | _ => False
theorem sok_cut {x : Str} (h : SOk x) (lo hi : Option Int) : SOk (cutS x lo hi) := ⟨Nat.le_trans (cutS_length x lo hi) h.1, fun c hc => h.2 c (by
  unfold cutS at hc
  exact List.mem_of_mem_drop (List.mem_of_mem_take (by simpa using hc)))⟩
theorem pd_slice {lo hi : Option Expr} {tl th : DO} {p2 : Pos} (he : PDE X e te) (hl : PDO X lo tl) (hu : PDO X hi th) : PDE X (.Subscript e (.Slice lo hi none p2) pos) (dSl te tl th) := by
  refine pe_imp (pe_slice (sl_tupA.or (sl_list.or sl_str)) he hl hu) fun σ H Q ⟨R, F, env, M, Qd, a, e, h, k⟩ => ⟨R, F, env, M, _, a, e, h, fun F1 H1 M1 d v s1 a1 r1 q1 =>
    ⟨R, F1, env, M1, _, a1, e.mono s1, q1, fun F2 H2 M2 lo s2 a2 q2 => ⟨R, F2, env, M2, _, a2, (e.mono s1).mono s2, q2, fun F3 H3 M3 hi s3 a3 q3 => ?_⟩⟩⟩
  have r3 := r1.mono (s2.trans s3)
  have k3 := k.mono ((s1.trans s2).trans s3)
  have rr := res_rep a3 r3
  split at q3
  · rename_i ds hd
    have ed : d = .tup ds := by
      cases d with
      | ref q =>
        simp only [resD] at hd
        split at hd <;> cases hd
      | _ => exact hd
    subst ed
    obtain ⟨P, xs, rfl, hq, rx⟩ := r3
    refine .inl ⟨P, xs, rfl, Same.seqT a3.fz hq, fun hw => ?_, fun _ T hT => tup_new a3 (cut_reps rx lo hi) k3 q3 hT⟩
    have ec : cut ds lo hi = ds := by
      unfold cut
      rw [rx.length, hw.1, hw.2, ← rx.length]
      simp
    rw [ec] at q3
    exact k3 F3 H3 M3 (.tup ds) _ (Same.refl _) a3 ⟨P, xs, rfl, hq, rx⟩ q3
  · rename_i ds hd
    rw [hd] at rr
    have rcut : ∃ P xs, v = .ref P ∧ H3 P = some (.lst xs) ∧ Reps X.K F3 ds xs := by
      cases d with
      | ref q =>
        simp only [resD] at hd
        split at hd
        · rename_i es hm
          cases hd
          obtain ⟨_, u, hu, xs, rfl, rx⟩ := a3.mu _ _ hm
          exact ⟨q, xs, r3, hu, rx⟩
        · cases hd
      | lst es =>
        cases hd
        obtain ⟨P, xs, rfl, hq, rx⟩ := r3
        exact ⟨P, xs, rfl, a3.fz _ _ hq, rx⟩
      | _ => cases hd
    obtain ⟨P, xs, rfl, hq, rx⟩ := rcut
    exact .inr (.inl ⟨P, xs, rfl, SqL.of hq, fun T hT => lst_new a3 (cut_reps rx lo hi) k3 q3 hT⟩)
  · rename_i ds hd
    have ed : d = .lsk ds := by
      cases d with
      | ref q =>
        simp only [resD] at hd
        split at hd <;> cases hd
      | _ => exact hd
    subst ed
    obtain ⟨P, xs, rfl, hq, rx⟩ := r3
    exact .inr (.inl ⟨P, xs, rfl, a3.fz.seq hq, fun T hT => lst_new a3 (cut_reps rx lo hi) k3 q3 hT⟩)
  · rename_i x hd
    rw [hd] at rr
    exact .inr (.inr ⟨x, rr.1, rr.2.1, k3 F3 H3 M3 (.str _) _ (Same.refl _) a3 ⟨rfl, sok_cut rr.2 lo hi⟩ q3⟩)
  · exact q3.elim
end
end L3
set_option Elab.async false
set_option linter.all false
set_option maxRecDepth 100000
set_option maxHeartbeats 1000000
/-! L3, fifth part: stores, methods, built-ins, isinstance. -/
namespace L3
open PySem PySem.Spec PyProof.Rows L2
section
variable {X : Cx} {a b o i : Expr} {e : Expr} {es : List Expr} {te ta tb to ti : DE} {t : DA} {pos p apos tpos : Pos}
/-! ### own lists change -/
def mLst (M : Mp) (d : D) (k : Addr → List D → Prop) : Prop := match d with
  | .ref q => match M q with
    | some (.lst ds) => k q ds
    | _ => False
  | _ => False
theorem mLst_at {K : PySem.W.Frag} {R F : Hp} {M : Mp} {H : Hp} {d : D} {v : V} {k : Addr → List D → Prop} (a : At K R F M H) (r : Rep K F d v) (h : mLst M d k) : ∃ q ds xs, v = .ref q ∧ M q = some (.lst ds) ∧ H q = some (.lst xs) ∧ Reps K F ds xs ∧ k q ds := by
  unfold mLst at h
  split at h
  · rename_i q
    split at h
    · rename_i ds hm
      obtain ⟨_, u, hu, xs, rfl, rx⟩ := a.mu _ _ hm
      exact ⟨q, ds, xs, r, hm, hu, rx, h⟩
    · exact h.elim
  · exact h.elim
/-- o[i] = e of an own list, of an own dict -/
def mIx (M : Mp) (o i v : D) (k : Mp → Prop) : Prop := match o with
  | .ref q => match M q with
    | some (.lst ds) => match i with
      | .int j => match ixN ds.length j with
        | some n => k (mupd M q (.lst (ds.set n v)))
        | none => False
      | _ => False
    | some (.dct ks ds) => match keyD i with
      | some j => ks.length < sizeLine ∧ k (mupd M q (.dct (addK ks j) (setK ks ds j v)))
      | none => False
    | _ => False
  | _ => False
def dSetIx (te to ti : DE) : DS := fun D env M => te env M fun v M1 => to env M1 fun o M2 => ti env M2 fun i M3 => mIx M3 o i v fun M4 => D.nx env M4
theorem PSet.or {t u : TSet} (h : PSet X t) (g : PSet X u) : PSet X (fun o i v H Q => t o i v H Q ∨ u o i v H Q) := by
  intro pins s σ H o i v ov iv w Q I ro ri rv q
  rcases q with q | q
  · exact h pins s σ H o i v ov iv w Q I ro ri rv q
  · exact g pins s σ H o i v ov iv w Q I ro ri rv q
def rSetT : V → V → V → Hp → (Hp → Prop) → Prop := fun o i v H Q => ∃ a H', o = .ref a ∧ DPut H a i v H' ∧ Q H'
theorem set_dT (hu : X.A.units + 1 < cLine) : PSet X rSetT := by
  intro pins s σ H o i v ov iv u Q I ro ri rv ⟨a, H', e, g, q⟩
  subst e
  obtain rfl : ov = Value.ref a := ro
  exact d_setItem hu I g ri rv fun s' I' => ⟨H', I', q⟩
theorem mIx_ok {K : PySem.W.Frag} {R F : Hp} {M : Mp} {H : Hp} {o i d : D} {x y v : V} {k : Mp → Prop} {Q : Hp → Prop} (a : At K R F M H) (ro : Rep K F o x) (ri : Rep K F i y) (rv : Rep K F d v) (h : mIx M o i d k)
    (hk : ∀ M' H', At K R F M' H' → k M' → Q H') : rSetL x y v H Q ∨ rSetT x y v H Q := by
  unfold mIx at h
  split at h
  · rename_i q
    cases (show x = V.ref q from ro)
    split at h
    · rename_i ds hm
      obtain ⟨_, u, hu, xs, rfl, rx⟩ := a.mu _ _ hm
      split at h
      · rename_i j
        split at h
        · rename_i n hn
          exact .inl ⟨q, xs, j, n, rfl, ri, hu, by rw [← rx.length]; exact hn, hk _ _ (a.wrote hm (o := .lst (ds.set n d)) ⟨_, rfl, rx.set n rv⟩) h⟩
        · exact h.elim
      · exact h.elim
    · rename_i ks ds hm
      obtain ⟨_, u, hu, xs, rfl, l, rx⟩ := a.mu _ _ hm
      split at h
      · rename_i j hj
        obtain ⟨ys, e1, e2⟩ := setK_zip (j := j) l.1 rx rv
        refine .inr ⟨q, _, rfl, .inl ⟨_, j, hu, keyD_ok ri hj, ?_, rfl⟩, hk _ _ (a.wrote hm (o := .dct (addK ks j) (setK ks ds j d)) ⟨ys, by rw [e1], l.set (keyD_sok ri hj), e2⟩) h.2⟩
        rw [List.length_zip, ← rx.length, ← l.1, Nat.min_self]
        exact h.1
      · exact h.elim
    · exact h.elim
  · exact h.elim
theorem pds_setIx {kk : Nat} (hr : Room kk X.A) (he : PDE X e te) (ho : PDE X o to) (hi : PDE X i ti)
    (ha : ∀ v, assign (.Subscript o i tpos) X.env v = (do
      let ov ← holding [v] (eval o X.env)
      let iv ← holding [v, ov] (eval i X.env)
      standAt tpos
      holding [v, ov, iv] (setItem ov iv v)
      release [v, ov, iv] []) := by intro _; rfl)
    (hs : swapsWithSole [.Subscript o i tpos] e pos.line X.env = pure false := by rfl) (hw : swappedStores [.Subscript o i tpos] e X.env = pure none := by rfl)
    (h1 : (assignEach [.Subscript o i tpos] X.env).map (·.2) = [assign (.Subscript o i tpos) X.env] := by rfl) : PDS X (.Assign [.Subscript o i tpos] e pos) (dSetIx te to ti) :=
  ps_imp (ps_asg he (pg_sub ho hi (PSet.or set_list (set_dT (by have := hr.un; omega))) ha) hs hw h1) fun D σ H ⟨R, F, env, M, Dd, a, e, h, k⟩ => ⟨R, F, env, M, _, a, e, h, fun F1 H1 M1 d v s1 a1 r1 q1 =>
    ⟨R, F1, env, M1, _, a1, e.mono s1, q1, fun F2 H2 M2 d2 v2 s2 a2 r2 q2 => ⟨R, F2, env, M2, _, a2, (e.mono s1).mono s2, q2, fun F3 H3 M3 d3 v3 s3 a3 r3 q3 =>
      mIx_ok a3 (r2.mono s3) r3 (r1.mono (s2.trans s3)) q3 fun M' H' a' q' => k.nx F3 _ _ env σ ((s1.trans s2).trans s3) a' (((e.mono s1).mono s2).mono s3) q'⟩⟩⟩
/-- methods of own lists -/
def dAppend (to te : DE) : DE := fun env M Q => to env M fun o M1 => (mLst M1 o fun _ _ => True) ∧ te env M1 fun d M2 => mLst M2 o fun q ds => ds.length < sizeLine ∧ Q .non (mupd M2 q (.lst (ds ++ [d])))
theorem mLst_ty {K : PySem.W.Frag} {R F : Hp} {M : Mp} {H : Hp} {d : D} {v : V} {k : Addr → List D → Prop} (a : At K R F M H) (r : Rep K F d v) (h : mLst M d k) : tyV K "list" v H := by
  obtain ⟨q, ds, xs, rfl, hm, hh, rx, _⟩ := mLst_at a r h
  exact .inl ⟨rfl, xs, SqL.of hh⟩
theorem pd_append (ho : PDE X o to) (he : PDE X e te) (hbase : attributeBase o "append" X.env (eval o X.env) = eval o X.env := by rfl)
    (hfew : ((backTo pos (starEach [e] X.env)).all (fun x => !x.1) && (backToKw pos (keywordEach [] X.env)).all (fun x => x.1.isSome)
      && decide ([e].length + ([] : List Keyword).length + (if ([] : List Keyword).isEmpty then 0 else 1) < 30)) = true := by rfl)
    (hline : (apos.endLine == pos.line) = true := by rfl) (hs : starEach [e] X.env = (false, eval e X.env) :: starEach [] X.env := by rfl) (hplain : (backTo pos (starEach [] X.env)).any (·.1) = false := by rfl) :
    PDE X (.Call (.Attribute o "append" apos) [e] [] pos) (dAppend to te) :=
  pe_imp (pe_bm PySem.F.plainAttrs_list PySem.F.slot_list_append PySem.F.type_list_append mt_append ho (pa_cons he pa_nil hs) hbase hfew hline hs hplain) fun σ H Q ⟨R, F, env, M, Qd, a, e, h, k⟩ =>
    ⟨R, F, env, M, _, a, e, h, fun F1 H1 M1 d v s1 a1 r1 q1 => ⟨mLst_ty a1 r1 q1.1, R, F1, env, M1, _, a1, e.mono s1, q1.2, fun F2 H2 M2 d2 v2 s2 a2 r2 q2 => by
      obtain ⟨q, ds, xs, rfl, hm, hh, rx, hz, q2⟩ := mLst_at a2 (r1.mono s2) q2
      exact ⟨q, xs, v2, rfl, rfl, hh, by rw [← rx.length]; exact hz, k F2 _ _ .non .non (s1.trans s2) (a2.wrote hm (o := .lst (ds ++ [d2])) ⟨_, rfl, rx.append (Reps.one r2)⟩) rfl q2⟩⟩⟩
/-! ### built-ins of one value -/
abbrev R1D := D → Mp → DK → Prop
/-- a call of a built-in by its rule on data -/
def Serves1 (K : PySem.W.Frag) (r : R1D) (rV : List V → Hp → VK → Prop) : Prop := ∀ R F M H d x Qd Q, At K R F M H → Rep K F d x → r d M Qd → KD K R F Qd Q → rV [x] H Q
structure CallD (X : Cx) (f : Value) (r : R1D) : Prop where
  ex : ∃ rV, CallR X f rV ∧ Serves1 X.K r rV
theorem up_call1 {K : PySem.W.Frag} {r : R1D} {rV : List V → Hp → VK → Prop} (hs : Serves1 K r rV) : ∀ σ H Q, up K (dUn r ta) σ H Q → tCB rV (tCons (up K ta) tNil) σ H Q := fun σ H Q ⟨R, F, env, M, Qd, a, e, h, k⟩ =>
  ⟨R, F, env, M, _, a, e, h, fun F1 H1 M1 d v s1 a1 r1 h1 => hs R F1 M1 H1 d v Qd Q a1 r1 h1 (k.mono s1)⟩
theorem pd_bltn {x : Str} {f : String} {r : R1D} (hc : CallD X (.builtin f) r) (hm : X.mg x = none) (ha : PDE X a ta) (hv : bootBuiltins x = some (.builtin f) := by decide +kernel) (hg : Gl X x := by rfl) (hn : x ≠ "__name__" := by decide) (hdb : (x == ("__debug__" : Str)) = false := by decide)
    (he : starEach [a] X.env = (false, eval a X.env) :: starEach [] X.env := by rfl) (hpl : (backTo pos (starEach [] X.env)).any (·.1) = false := by rfl) : PDE X (.Call (.Name x p) [a] [] pos) (dUn r ta) := by
  obtain ⟨rV, h1, h2⟩ := hc.ex
  exact pe_imp (pe_callB h1 hg hm hv (pa_cons ha pa_nil he) hn hdb he hpl) (up_call1 h2)
theorem pd_type {x : Str} {f : String} {r : R1D} (hc : CallD X (.type f) r) (hm : X.mg x = none) (ha : PDE X a ta) (hv : bootBuiltins x = some (.type f) := by decide +kernel) (hg : Gl X x := by rfl) (hn : x ≠ "__name__" := by decide) (hdb : (x == ("__debug__" : Str)) = false := by decide)
    (he : starEach [a] X.env = (false, eval a X.env) :: starEach [] X.env := by rfl) (hpl : (backTo pos (starEach [] X.env)).any (·.1) = false := by rfl) : PDE X (.Call (.Name x p) [a] [] pos) (dUn r ta) := by
  obtain ⟨rV, h1, h2⟩ := hc.ex
  exact pe_imp (pe_callTy h1 hg hm hv (pa_cons ha pa_nil he) hn hdb he hpl) (up_call1 h2)
def rLenD : R1D := fun d M Q => match resD M d with
  | .tup ds => Q (.int ds.length) M
  | .lst ds => Q (.int ds.length) M
  | .str x => Q (.int x.length) M
  | _ => match resK M d with
    | some (ks, _) => Q (.int ks.length) M
    | none => False
/-- a sequence as it stands -/
theorem seq_at {K : PySem.W.Frag} {R F : Hp} {M : Mp} {H : Hp} {d : D} {v : V} (a : At K R F M H) (r : Rep K F d v) :
    (∀ {ds : List D}, resD M d = .lst ds → ∃ P xs, v = .ref P ∧ H P = some (.lst xs) ∧ Reps K F ds xs) ∧ (∀ {ds : List D}, resD M d = .tup ds → ∃ P xs, v = .ref P ∧ SqT K F P xs ∧ Reps K F ds xs) := by
  cases d with
  | ref q =>
    refine ⟨fun h => ?_, fun h => ?_⟩
    · simp only [resD] at h
      split at h
      · rename_i es hm
        cases h
        obtain ⟨_, u, hu, xs, rfl, rx⟩ := a.mu _ _ hm
        exact ⟨q, xs, r, hu, rx⟩
      · cases h
    · simp only [resD] at h
      split at h <;> cases h
  | lst es =>
    refine ⟨fun h => ?_, fun h => ?_⟩
    · cases h
      obtain ⟨P, xs, rfl, hq, rx⟩ := r
      exact ⟨P, xs, rfl, a.fz _ _ hq, rx⟩
    · cases h
  | tup es =>
    refine ⟨fun h => ?_, fun h => ?_⟩
    · cases h
    · cases h
      exact r
  | _ => refine ⟨fun h => ?_, fun h => ?_⟩ <;> cases h
/-- len of a dict, locked or not -/
theorem call_lenR : CallR X (.builtin "len") (fun xs H Q => ∃ a kvs, xs = [V.ref a] ∧ Rd H a (.dK kvs) ∧ Q (.int kvs.length) H) := by
  intro pins s σ H xs us Q I r ⟨a, kvs, e, ha, q⟩
  subst e
  rw [Vals.ref1 r]
  exact d_len I ha fun t s' I' => ⟨.int kvs.length, H, I', ⟨t, rfl⟩, q⟩
theorem calld_len : CallD X (.builtin "len") rLenD := ⟨_, (call_len_seq.or call_len_str).or call_lenR, fun R F M H d x Qd Q a r q kd => by
  unfold rLenD at q
  split at q
  · rename_i ds hd
    obtain ⟨P, xs, rfl, hq, rx⟩ := (seq_at a r).2 hd
    exact .inl (.inl ⟨P, xs, rfl, .inr (Same.seqT a.fz hq), kd F H M (.int _) _ (Same.refl _) a (by rw [rx.length]; rfl) q⟩)
  · rename_i ds hd
    obtain ⟨P, xs, rfl, hq, rx⟩ := (seq_at a r).1 hd
    exact .inl (.inl ⟨P, xs, rfl, .inl (SqL.of hq), kd F H M (.int _) _ (Same.refl _) a (by rw [rx.length]; rfl) q⟩)
  · rename_i z hd
    have rz := res_rep a r
    rw [hd] at rz
    exact .inl (.inr ⟨z, by rw [rz.1], rz.2.1, kd F H M (.int _) _ (Same.refl _) a rfl q⟩)
  · split at q
    · rename_i ks ds hk
      obtain ⟨P, xs, rfl, hq, l, rx⟩ := resK_at a r hk
      exact .inr ⟨P, _, rfl, hq, kd F H M (.int _) _ (Same.refl _) a (by rw [List.length_zip, ← rx.length, ← l.1, Nat.min_self]; rfl) q⟩
    · exact q.elim⟩
def asBls : List D → Option (List Bool)
  | [] => some []
  | .bl b :: r => (asBls r).map (b :: ·)
  | _ => none
theorem asBls_map : ∀ bs : List Bool, asBls (bs.map D.bl) = some bs
  | [] => rfl
  | b :: bs => by simp [asBls, asBls_map bs]
theorem asBls_ok : ∀ {ds : List D} {bs : List Bool}, asBls ds = some bs → ds = bs.map D.bl
  | [], bs, h => by cases h; rfl
  | d :: r, bs, h => by
    cases d with
    | bl b =>
      simp only [asBls, Option.map_eq_some_iff] at h
      obtain ⟨cs, h1, rfl⟩ := h
      rw [asBls_ok h1]; rfl
    | _ => simp [asBls] at h
def rAllD : R1D := fun d M Q => match resD M d with
  | .lst ds => match asBls ds with
    | some bs => Q (.bl (bs.all id)) M
    | none => False
  | _ => False
def rAnyD : R1D := fun d M Q => match resD M d with
  | .lst ds => match asBls ds with
    | some bs => Q (.bl (bs.any id)) M
    | none => False
  | _ => False
theorem calld_all (hc : X.calm = true := by rfl) : CallD X (.builtin "all") rAllD := ⟨_, cr_all hc, fun R F M H d x Qd Q a r q kd => by
  unfold rAllD at q
  split at q
  · rename_i ds hd
    split at q
    · rename_i bs hb
      obtain ⟨P, xs, rfl, hq, rx⟩ := (seq_at a r).1 hd
      rw [asBls_ok hb] at rx
      have := rx.bls
      subst this
      exact ⟨P, bs, rfl, SqL.of hq, kd F H M (.bl _) _ (Same.refl _) a rfl q⟩
    · exact q.elim
  · exact q.elim⟩
theorem calld_any (hc : X.calm = true := by rfl) : CallD X (.builtin "any") rAnyD := ⟨_, cr_any hc, fun R F M H d x Qd Q a r q kd => by
  unfold rAnyD at q
  split at q
  · rename_i ds hd
    split at q
    · rename_i bs hb
      obtain ⟨P, xs, rfl, hq, rx⟩ := (seq_at a r).1 hd
      rw [asBls_ok hb] at rx
      have := rx.bls
      subst this
      exact ⟨P, bs, rfl, SqL.of hq, kd F H M (.bl _) _ (Same.refl _) a rfl q⟩
    · exact q.elim
  · exact q.elim⟩
/-- list(xs), a frozen one -/
def rListD : R1D := fun d M Q => match resD M d with
  | .lst ds => Q (.lst ds) M
  | .tup ds => Q (.lst ds) M
  | _ => False
theorem calld_list : CallD X (.type "list") rListD := ⟨_, call_list_of, fun R F M H d x Qd Q a r q kd => by
  unfold rListD at q
  split at q
  · rename_i ds hd
    obtain ⟨P, xs, rfl, hq, rx⟩ := (seq_at a r).1 hd
    exact ⟨P, xs, rfl, .inl (SqL.of hq), fun l hl => lst_new a rx kd q hl⟩
  · rename_i ds hd
    obtain ⟨P, xs, rfl, hq, rx⟩ := (seq_at a r).2 hd
    exact ⟨P, xs, rfl, .inr (Same.seqT a.fz hq), fun l hl => lst_new a rx kd q hl⟩
  · exact q.elim⟩
/-- list(xs), one that may change -/
def rListM : R1D := fun d M Q => match resD M d with
  | .lst ds => ∀ q, M q = none → Q (.ref q) (mupd M q (.lst ds))
  | .tup ds => ∀ q, M q = none → Q (.ref q) (mupd M q (.lst ds))
  | _ => False
theorem calld_listM : CallD X (.type "list") rListM := ⟨_, call_list_of, fun R F M H d x Qd Q a r q kd => by
  unfold rListM at q
  split at q
  · rename_i ds hd
    obtain ⟨P, xs, rfl, hq, rx⟩ := (seq_at a r).1 hd
    exact ⟨P, xs, rfl, .inl (SqL.of hq), fun l hl => lst_born a rx kd q hl⟩
  · rename_i ds hd
    obtain ⟨P, xs, rfl, hq, rx⟩ := (seq_at a r).2 hd
    exact ⟨P, xs, rfl, .inr (Same.seqT a.fz hq), fun l hl => lst_born a rx kd q hl⟩
  · exact q.elim⟩
def rTupleD : R1D := fun d M Q => match resD M d with
  | .lst ds => Q (.tup ds) M
  | .tup ds => Q (.tup ds) M
  | _ => False
theorem calld_tuple : CallD X (.type "tuple") rTupleD := ⟨_, call_tuple_of, fun R F M H d x Qd Q a r q kd => by
  unfold rTupleD at q
  split at q
  · rename_i ds hd
    obtain ⟨P, xs, rfl, hq, rx⟩ := (seq_at a r).1 hd
    exact ⟨P, xs, rfl, .inl ⟨SqL.of hq, fun l hl => tup_new a rx kd q hl⟩⟩
  · rename_i ds hd
    obtain ⟨P, xs, rfl, hq, rx⟩ := (seq_at a r).2 hd
    exact ⟨P, xs, rfl, .inr ⟨Same.seqT a.fz hq, kd F H M (.tup ds) _ (Same.refl _) a ⟨P, xs, rfl, hq, rx⟩ q⟩⟩
  · exact q.elim⟩
/-! ### sep.join(xs) -/
def asStrs : List D → Option (List Str)
  | [] => some []
  | .str b :: r => (asStrs r).map (b :: ·)
  | _ => none
theorem asStrs_map : ∀ bs : List Str, asStrs (bs.map D.str) = some bs
  | [] => rfl
  | b :: bs => by simp [asStrs, asStrs_map bs]
theorem asStrs_ok : ∀ {ds : List D} {bs : List Str}, asStrs ds = some bs → ds = bs.map D.str
  | [], bs, h => by cases h; rfl
  | d :: r, bs, h => by
    cases d with
    | str b =>
      simp only [asStrs, Option.map_eq_some_iff] at h
      obtain ⟨cs, h1, rfl⟩ := h
      rw [asStrs_ok h1]; rfl
    | _ => simp [asStrs] at h
theorem joinL_mem {S : List Nat} {c : Nat} : ∀ {ps : List (List Nat)}, c ∈ TL.joinL S ps → c ∈ S ∨ ∃ p ∈ ps, c ∈ p
  | [], h => by cases h
  | [p], h => .inr ⟨p, by simp, h⟩
  | p :: q :: r, h => by
    rcases List.mem_append.mp (show c ∈ p ++ (S ++ TL.joinL S (q :: r)) from h) with h | h
    · exact .inr ⟨p, by simp, h⟩
    · rcases List.mem_append.mp h with h | h
      · exact .inl h
      · rcases joinL_mem h with h | ⟨z, hz, h⟩
        · exact .inl h
        · exact .inr ⟨z, List.mem_cons_of_mem _ hz, h⟩
theorem joinL_len {S : List Nat} : ∀ (ps : List (List Nat)), (TL.joinL S ps).length ≤ (ps.map List.length).sum + ps.length * S.length
  | [] => by simp [TL.joinL]
  | [p] => by simp [TL.joinL]
  | p :: q :: r => by
    have ih := joinL_len (S := S) (q :: r)
    show (p ++ (S ++ TL.joinL S (q :: r))).length ≤ _
    have e : ((p :: q :: r).length) * S.length = (q :: r).length * S.length + S.length := by rw [List.length_cons, Nat.succ_mul]
    rw [e, List.map_cons, List.sum_cons, List.length_append, List.length_append]
    omega
theorem join_ok {a : Str} {ys : List Str} (ha : SOk a) (hy : ∀ y ∈ ys, SOk y) (hz : (ys.map (·.length)).sum + ys.length * a.length ≤ 16777216) : SOk (Txt.join a ys) := by
  have e : (Txt.join a ys).cps.toList = TL.joinL a.cps.toList (ys.map fun y => y.cps.toList) := by
    rw [TL.join_eq]; exact TL.tl_join a ys
  refine ⟨?_, fun c hc => ?_⟩
  · show (Txt.join a ys).cps.size ≤ _
    rw [← Array.length_toList, e, sizeLine_eq]
    refine Nat.le_trans (joinL_len _) ?_
    rw [List.map_map, List.length_map, Array.length_toList]
    exact hz
  · rw [e] at hc
    rcases joinL_mem hc with h | ⟨z, hz, h⟩
    · exact ha.2 c h
    · obtain ⟨y, hy', rfl⟩ := List.mem_map.mp hz
      exact (hy y hy').2 c h
theorem strs_ok {K : PySem.W.Frag} {F : Hp} : ∀ {ys : List Str} {vs : List V}, Reps K F (ys.map D.str) vs → ∀ y ∈ ys, SOk y
  | [], _, _, _, h => by cases h
  | z :: ys, _, ⟨x, r, e, h1, h2⟩, y, h => by
    rcases List.mem_cons.mp h with rfl | h
    · exact h1.2
    · exact strs_ok h2 y h
def dJoin (to te : DE) : DE := fun env M Q => to env M fun o M1 => match o with
  | .str a => te env M1 fun d M2 => match resD M2 d with
    | .lst ds => match asStrs ds with
      | some ys => (ys.map (·.length)).sum + ys.length * a.length ≤ 16777216 ∧ Q (.str (Txt.join a ys)) M2
      | none => False
    | _ => False
  | _ => False
theorem pd_join (ho : PDE X o to) (he : PDE X e te) (hs : starEach [e] X.env = [(false, eval e X.env)] := by rfl) (hbase : attributeBase o "join" X.env (eval o X.env) = eval o X.env := by rfl) (hline : (apos.endLine == pos.line) = true := by rfl) :
    PDE X (.Call (.Attribute o "join" apos) [e] [] pos) (dJoin to te) := by
  refine pe_imp (pe_join ho he hs hbase hline) fun σ H Q ⟨R, F, env, M, Qd, a, e, h, k⟩ => ⟨R, F, env, M, _, a, e, h, fun F1 H1 M1 d v s1 a1 r1 q1 => ?_⟩
  cases d with
  | str x =>
    obtain ⟨rfl, hx⟩ := r1
    refine ⟨⟨x, rfl⟩, R, F1, env, M1, _, a1, e.mono s1, q1, fun F2 H2 M2 d2 v2 s2 a2 r2 q2 => ?_⟩
    split at q2
    · rename_i ds hd
      split at q2
      · rename_i ys hy
        obtain ⟨P, xs, rfl, hq, rx⟩ := (seq_at a2 r2).1 hd
        have e1 := asStrs_ok hy
        subst e1
        have e2 := rx.strs
        subst e2
        exact ⟨x, P, ys, rfl, rfl, .inl (SqL.of hq), q2.1, k F2 H2 M2 (.str _) _ (s1.trans s2) a2 ⟨rfl, join_ok hx (strs_ok rx) q2.1⟩ q2.2⟩
      · exact q2.elim
    · exact q2.elim
  | _ => exact q1.elim
/-! ### isinstance -/
def tyD (M : Mp) (d : D) : Option String := match resD M d with
  | .non => some "NoneType"
  | .bl _ => some "bool"
  | .int _ => some "int"
  | .str _ => some "str"
  | .tup _ => some "tuple"
  | .lst _ => some "list"
  | _ => none
theorem sqt_ty {K : PySem.W.Frag} {H : Hp} {p : Addr} {xs : List V} (h : SqT K H p xs) : TyX K H (.ref p) (.type "tuple") := by
  rcases h with (h | ⟨o, h⟩) | ⟨o, its, n, hk, hc, _⟩
  · exact .base (.tup h)
  · exact .fTuple h
  · exact .kTuple hk hc
theorem tyD_ok {K : PySem.W.Frag} {R F : Hp} {M : Mp} {H : Hp} {d : D} {v : V} {T : String} (a : At K R F M H) (r : Rep K F d v) (h : tyD M d = some T) : TyX K H v (.type T) := by
  unfold tyD at h
  have rr := res_rep a r
  split at h <;> rename_i hd
  · rw [hd] at rr; cases h; cases (show v = .non from rr); exact .base .non
  · rw [hd] at rr; cases h; cases (show v = .bl _ from rr); exact .base (.bl _)
  · rw [hd] at rr; cases h; cases (show v = .int _ from rr); exact .base (.int _)
  · rw [hd] at rr; cases h; obtain ⟨rr, _⟩ := rr; cases rr; exact .base (.str _)
  · rw [hd] at rr; cases h; obtain ⟨p, xs, rfl, hq, _⟩ := rr; exact sqt_ty hq
  · rw [hd] at rr; cases h; obtain ⟨p, xs, rfl, hq, _⟩ := rr; exact .base (.lst hq)
  · cases h
inductive Ty where
  | list | tuple | bool | int | str
def Ty.name : Ty → String
  | .list => "list" | .tuple => "tuple" | .bool => "bool" | .int => "int" | .str => "str"
def isIn : Ty → D → Option Bool
  | .list, .lst _ => some true
  | .tuple, .tup _ => some true
  | .bool, .bl _ => some true
  | .int, .int _ => some true
  | .int, .bl _ => some true
  | .str, .str _ => some true
  | _, .non => some false
  | _, .bl _ => some false
  | _, .int _ => some false
  | _, .str _ => some false
  | _, .tup _ => some false
  | _, .lst _ => some false
  | _, _ => none
theorem isIn_ok {M : Mp} {d : D} {T : Ty} {b : Bool} (h : isIn T (resD M d) = some b) : ∃ t, tyD M d = some t ∧ kitB t T.name = some b := by
  unfold tyD
  cases e : resD M d <;> rw [e] at h <;> cases T <;> first
    | (simp [isIn] at h; done)
    | (simp only [isIn, Option.some.injEq] at h; subst h; exact ⟨_, rfl, by decide +kernel⟩)
/-- isinstance(e, T), T a built-in class -/
def dIsi (T : Ty) (te : DE) : DE := fun env M Q => te env M fun d M1 => match isIn T (resD M1 d) with
  | some b => Q (.bl b) M1
  | none => False
theorem pd_isi {T : Str} (t : Ty) {p2 : Pos} (hm : X.mg "isinstance" = none) (he : PDE X e te) (hT : X.mg T = none) (hv : bootBuiltins T = some (.type t.name) := by decide +kernel) (hg : Gl X "isinstance" := by rfl) (hgT : Gl X T := by rfl)
    (hn : T ≠ "__name__" := by decide) (hd : (T == ("__debug__" : Str)) = false := by decide)
    (hs : starEach [e, .Name T p2] X.env = (false, eval e X.env) :: starEach [.Name T p2] X.env := by rfl) (hs2 : starEach [.Name T p2] X.env = (false, eval (.Name T p2) X.env) :: starEach [] X.env := by rfl) (hpl : (backTo pos (starEach [.Name T p2] X.env)).any (·.1) = false := by rfl) :
    PDE X (.Call (.Name "isinstance" p) [e, .Name T p2] [] pos) (dIsi t te) :=
  pe_imp (pe_callB call_isi hg hm (by decide +kernel) (pa_cons he (pa_cons (pe_bltn (v := .ty t.name) hgT hT hv rfl hn hd) pa_nil hs2) hs) (by decide) (by decide) hs hpl) fun σ H Q ⟨R, F, env, M, Qd, a, e, h, k⟩ =>
    ⟨R, F, env, M, _, a, e, h, fun F1 H1 M1 d v s1 a1 r1 q1 => by
      split at q1
      · rename_i b hb
        obtain ⟨tt, ht, hb⟩ := isIn_ok hb
        exact ⟨v, .ty t.name, .type tt, .type t.name, b, rfl, .ty _, tyD_ok a1 r1 ht, kit_ty hb, k F1 H1 M1 (.bl b) _ s1 a1 rfl q1⟩
      · exact q1.elim⟩
/-- isinstance(e, (T, U)) -/
def dIsi2 (T U : Ty) (te : DE) : DE := fun env M Q => te env M fun d M1 => match isIn T (resD M1 d), isIn U (resD M1 d) with
  | some b, some c => Q (.bl (b || c)) M1
  | _, _ => False
theorem pd_isi2 {T U : Str} (t u : Ty) {p2 p3 p4 : Pos} {kk : Nat} (hm : X.mg "isinstance" = none) (he : PDE X e te) (hT : X.mg T = none) (hU : X.mg U = none) (hv : bootBuiltins T = some (.type t.name) := by decide +kernel) (hv2 : bootBuiltins U = some (.type u.name) := by decide +kernel)
    (hg : Gl X "isinstance" := by rfl) (hgT : Gl X T := by rfl) (hgU : Gl X U := by rfl) (hn : T ≠ "__name__" := by decide) (hd : (T == ("__debug__" : Str)) = false := by decide) (hn2 : U ≠ "__name__" := by decide) (hd2 : (U == ("__debug__" : Str)) = false := by decide)
    (hs0 : starEach [.Name T p2, .Name U p3] X.env = (false, eval (.Name T p2) X.env) :: starEach [.Name U p3] X.env := by rfl) (hs1 : starEach [.Name U p3] X.env = (false, eval (.Name U p3) X.env) :: starEach [] X.env := by rfl)
    (hs : starEach [e, .Tuple [.Name T p2, .Name U p3] kk p4] X.env = (false, eval e X.env) :: starEach [.Tuple [.Name T p2, .Name U p3] kk p4] X.env := by rfl)
    (hs2 : starEach [.Tuple [.Name T p2, .Name U p3] kk p4] X.env = (false, eval (.Tuple [.Name T p2, .Name U p3] kk p4) X.env) :: starEach [] X.env := by rfl) (hpl : (backTo pos (starEach [.Tuple [.Name T p2, .Name U p3] kk p4] X.env)).any (·.1) = false := by rfl) :
    PDE X (.Call (.Name "isinstance" p) [e, .Tuple [.Name T p2, .Name U p3] kk p4] [] pos) (dIsi2 t u te) :=
  pe_imp (pe_callB call_isiT hg hm (by decide +kernel) (pa_cons he (pa_cons (pe_tup (pa_cons (pe_bltn (v := .ty t.name) hgT hT hv rfl hn hd) (pa_cons (pe_bltn (v := .ty u.name) hgU hU hv2 rfl hn2 hd2) pa_nil hs1) hs0)) pa_nil hs2) hs) (by decide) (by decide) hs hpl) fun σ H Q ⟨R, F, env, M, Qd, a, e, h, k⟩ =>
    ⟨R, F, env, M, _, a, e, h, fun F1 H1 M1 d v s1 a1 r1 q1 => ⟨by show 2 ≤ sizeLine; decide, fun P hP => by
      obtain ⟨a2, s2⟩ := a1.laid hP (.tup [.ty t.name, .ty u.name])
      split at q1
      · rename_i b c hb hc
        obtain ⟨tt, ht, hb⟩ := isIn_ok hb
        obtain ⟨tt2, ht2, hc⟩ := isIn_ok hc
        rw [ht] at ht2; cases ht2
        refine ⟨v, P, _, .type tt, [.type t.name, .type u.name], b || c, rfl, upd_same, .cons (.ty _) (.cons (.ty _) .nil), tyD_ok a2 (r1.mono s2) ht, kitAny_cons (kit_ty hb) (fun e => ?_) (fun e => by rw [e]; rfl), k _ _ M1 (.bl _) _ (s1.trans s2) a2 rfl q1⟩
        subst e
        exact kitAny_cons (kit_ty hc) (fun e => by rw [e]; exact kitAny_nil) (fun e => by rw [e]; rfl)
      · exact q1.elim⟩⟩
end
end L3
set_option Elab.async false
set_option linter.all false
set_option maxRecDepth 100000
set_option maxHeartbeats 1000000
/-! L3, sixth part: sorted, dicts. -/
namespace L3
open PySem PySem.Spec PyProof.Rows L2
section
variable {X : Cx} {a b o i kx vx : Expr} {e : Expr} {es : List Expr} {te ta tb to ti tk tv : DE} {t : DA} {pos p apos tpos : Pos}
/-! ### xs.pop() -/
def dPop (to : DE) : DE := fun env M Q => to env M fun o M1 => mLst M1 o fun q ds => match ds.getLast? with
  | some d => Q d (mupd M1 q (.lst ds.dropLast))
  | none => False
theorem pd_pop (ho : PDE X o to) (hbase : attributeBase o "pop" X.env (eval o X.env) = eval o X.env := by rfl) (hline : (apos.endLine == pos.line) = true := by rfl) : PDE X (.Call (.Attribute o "pop" apos) [] [] pos) (dPop to) :=
  pe_imp (pe_bm0 PySem.F.plainAttrs_list PySem.F.slot_list_pop PySem.F.type_list_pop mt_pop ho hbase hline) fun σ H Q ⟨R, F, env, M, Qd, a, e, h, k⟩ =>
    ⟨R, F, env, M, _, a, e, h, fun F1 H1 M1 d v s1 a1 r1 q1 => ⟨mLst_ty a1 r1 q1, by
      obtain ⟨q, ds, xs, rfl, hm, hh, rx, q2⟩ := mLst_at a1 r1 q1
      split at q2
      · rename_i g hg
        have hg' : ds[ds.length - 1]? = some g := by rw [← hg, List.getLast?_eq_getElem?]
        obtain ⟨v, hv, rv⟩ := rx.get hg'
        exact ⟨q, xs, v, rfl, rfl, hh, by rw [← rx.length]; exact hv, k F1 _ _ g v s1 (a1.wrote hm (o := .lst ds.dropLast) ⟨_, rfl, rx.dropLast⟩) rv q2⟩
      · exact q2.elim⟩⟩
/-! ### sorted -/
def leD (d e : D) : Bool := PySem.W.dataLe false D.py d e
def sortD (ds : List D) : List D := ds.mergeSort leD
/-- what may be sorted -/
def SrtOk (ds : List D) : Prop := PySem.W.AllAlike (ds.map D.py) ∧ PySem.W.Sortable (ds.map D.py)
def rSortV (K : PySem.W.Frag) : List V → Hp → VK → Prop := fun vs H Q => ∃ a xs F ds, vs = [.ref a] ∧ SqL K H a xs ∧ Same F H ∧ Reps K F ds xs ∧ D.les 50 ds = true ∧ SrtOk ds ∧ ∀ ys p, Reps K F (sortD ds) ys → H p = none → Q (.ref p) (upd H p (.lst ys))
theorem each_rep {K : PySem.W.Frag} {F : Hp} : ∀ {ds : List D} {xs : List V} {us : List Value}, Reps K F ds xs → Vals xs us → PySem.W.EachIs (fun u d => ∃ x, RelV x u ∧ Rep K F d x) us ds
  | [], _, _, h, r => by cases h; cases r; exact .nil
  | d :: ds, _, us, ⟨x, rr, e, h1, h2⟩, r => by
    subst e
    cases r with
    | cons r1 r2 => exact .cons ⟨x, r1, h1⟩ (each_rep h2 r2)
theorem rep_each {K : PySem.W.Frag} {F : Hp} : ∀ {ds : List D} {us : List Value}, PySem.W.EachIs (fun u d => ∃ x, RelV x u ∧ Rep K F d x) us ds → ∃ xs, Vals xs us ∧ Reps K F ds xs
  | _, _, .nil => ⟨[], .nil, rfl⟩
  | _, _, .cons ⟨x, r, h⟩ t => by
    obtain ⟨xs, r2, h2⟩ := rep_each t
    exact ⟨x :: xs, .cons r r2, x, xs, rfl, h, h2⟩
theorem each_reads {pins : List (Addr × Obj)} {σ : L2.St} {H : Hp} {s : Shared} {F : Hp} (I : Inv X pins σ H s) (sm : Same F H) : ∀ {ds : List D} {xs : List V} {us : List Value}, Reps X.K F ds xs → Vals xs us → D.les 50 ds = true → PySem.W.EachIs (fun u d => ∃ as, Reads s.heap u d.py as) us ds
  | [], _, _, h, r, _ => by cases h; cases r; exact .nil
  | d :: ds, _, us, ⟨x, rr, e, h1, h2⟩, r, l => by
    subst e
    simp only [D.les, Bool.and_eq_true] at l
    cases r with
    | cons r1 r2 => exact .cons (Dp.reads I d.py x _ (dp_mono sm (py_dp h1 l.1).1) r1) (each_reads I sm h2 r2 l.2)
theorem les_each : ∀ {n : Nat} {ds : List D}, D.les n ds = true → ∀ d ∈ ds, D.le n d = true
  | n, d :: ds, h, g, hg => by
    simp only [D.les, Bool.and_eq_true] at h
    rcases List.mem_cons.mp hg with rfl | hg
    · exact h.1
    · exact les_each h.2 g hg
mutual
theorem py_depth : ∀ {n : Nat} {d : D}, D.le n d = true → d.py.depth ≤ n + 1
  | n, .non, _ => by simp [D.py, PyData.depth]
  | n, .bl b, _ => by simp [D.py, PyData.depth]
  | n, .int i, _ => by simp [D.py, PyData.depth]
  | n, .str x, _ => by simp [D.py, PyData.depth]
  | n + 1, .tup ds, h => by
    have := pys_depth (show D.les n ds = true by simpa [D.le] using h)
    simp only [D.py, PyData.depth]; omega
  | n + 1, .lst ds, h => by
    have := pys_depth (show D.les n ds = true by simpa [D.le] using h)
    simp only [D.py, PyData.depth]; omega
  | 0, .tup ds, h => by simp [D.le] at h
  | 0, .lst ds, h => by simp [D.le] at h
  | _, .ref _, h => by simp [D.le] at h
  | _, .ty _, h => by simp [D.le] at h
  | _, .lsk _, h => by simp [D.le] at h
  | _, .dct _ _, h => by simp [D.le] at h
  | _, .obj _ _, h => by simp [D.le] at h
  | _, .dkd _ _ _, h => by simp [D.le] at h
theorem pys_depth : ∀ {n : Nat} {ds : List D}, D.les n ds = true → PyData.depthAll (D.pys ds) ≤ n + 1
  | n, [], _ => by simp [D.pys, PyData.depthAll]
  | n, d :: ds, h => by
    have h' : D.le n d = true ∧ D.les n ds = true := by simpa [D.les] using h
    have h1 := py_depth h'.1
    have h2 := pys_depth h'.2
    simp only [D.pys, PyData.depthAll]; omega
end
theorem cr_sortedV (hu : X.A.units + 65 < cLine) : CallR X (.builtin "sorted") (rSortV X.K) := by
  intro pins s σ H vs us Q I r ⟨a, xs, F, ds, ev, hs, sm, rx, hl, ok, q⟩
  subst ev
  obtain ⟨its, rv, pl, hz⟩ := I.list hs
  rw [Vals.ref1 r]
  have hlen : its.length = ds.length := by rw [← rv.length, rx.length]
  refine PySem.W.sorted_data (vs := its) (bs := ds) (enc := D.py) (R := fun u d => ∃ x, RelV x u ∧ Rep X.K F d x) pl.isList (each_rep rx rv) (each_reads I sm rx rv hl) ok.1 ok.2 (by rw [rx.length]; exact hz) (fun b hb => ?_) fun out ho hout => ?_
  · have := py_depth (les_each hl b hb); omega
  · obtain ⟨ys, ry, rys⟩ := rep_each hout
    obtain ⟨ep, he'⟩ := PyProof.Rows.sortedAll_at s.heap its out.toArray
    have hy : ys.length ≤ sizeLine := by rw [ry.length, ho, rx.length]; exact hz
    exact ⟨.ref _, upd H (s.heap.objs.size + 1) (.lst ys), I.laid (t' := s.toks) (fun _ _ => PyProof.Rows.sortedAll_old) (Nat.le_succ _) ⟨hy, out, ep, ry, he'⟩, rfl, q ys _ rys (I.hok.fresh (Nat.le_succ _))⟩
def keyInts : List L2.Key → Option (List Int)
  | [] => some []
  | .inl i :: r => (keyInts r).map (i :: ·)
  | _ => none
theorem keyInts_ok : ∀ {ks : List L2.Key} {ns : List Int}, keyInts ks = some ns → ks = ns.map Sum.inl
  | [], _, h => by cases h; rfl
  | .inl i :: r, _, h => by
    simp only [keyInts, Option.map_eq_some_iff] at h
    obtain ⟨cs, h1, rfl⟩ := h
    rw [keyInts_ok h1]; rfl
  | .inr _ :: _, _, h => by cases h
theorem keyInts_map : ∀ ns : List Int, keyInts (ns.map Sum.inl) = some ns
  | [] => rfl
  | n :: ns => by show (keyInts (ns.map Sum.inl)).map _ = _; rw [keyInts_map ns]; rfl
def keyStrs : List L2.Key → Option (List Str)
  | [] => some []
  | .inr i :: r => (keyStrs r).map (i :: ·)
  | _ => none
theorem keyStrs_ok : ∀ {ks : List L2.Key} {ns : List Str}, keyStrs ks = some ns → ks = ns.map Sum.inr
  | [], _, h => by cases h; rfl
  | .inr i :: r, _, h => by
    simp only [keyStrs, Option.map_eq_some_iff] at h
    obtain ⟨cs, h1, rfl⟩ := h
    rw [keyStrs_ok h1]; rfl
  | .inl _ :: _, _, h => by cases h
/-- sorted(xs): a frozen list; of a dict its keys, numbers -/
def rSortG (mk : List D → Mp → DK → Prop) : R1D := fun d M Q => match resD M d with
  | .lst ds => (D.les 50 ds = true ∧ SrtOk ds) ∧ mk (sortD ds) M Q
  | _ => match resK M d with
    | some (ks, _) => match keyInts ks with
      | some ns => ns.length < 64 ∧ ∀ ys : List Int, ys.Perm ns → ys.Pairwise (· ≤ ·) → mk (ys.map D.int) M Q
      | none => False
    | none => False
def mkF : List D → Mp → DK → Prop := fun ds M Q => Q (.lst ds) M
def mkM : List D → Mp → DK → Prop := fun ds M Q => ∀ p, M p = none → Q (.ref p) (mupd M p (.lst ds))
abbrev rSortD : R1D := rSortG mkF
abbrev rSortM : R1D := rSortG mkM
theorem zip_fst {α β : Type} : ∀ {xs : List α} {ys : List β}, xs.length = ys.length → (xs.zip ys).map (·.1) = xs
  | [], _, _ => by simp
  | _ :: _, [], h => by simp at h
  | x :: xs, y :: ys, h => by simp [zip_fst (xs := xs) (ys := ys) (by simpa using h)]
theorem calld_sortG {mk : List D → Mp → DK → Prop} (hmk : ∀ {K : PySem.W.Frag} {R F : Hp} {M : Mp} {H : Hp} {ds : List D} {vs : List V} {Qd : DK} {Q : VK} {p : Addr}, At K R F M H → Reps K F ds vs → KD K R F Qd Q → mk ds M Qd → H p = none → Q (.ref p) (upd H p (.lst vs)))
    {k : Nat} (hr : Room k X.A) (hc : X.calm = true) : CallD X (.builtin "sorted") (rSortG mk) := ⟨_, (cr_sortedV (by have := hr.un; omega)).or (call_sortedDI hc), fun R F M H d x Qd Q a r q kd => by
  unfold rSortG at q
  split at q
  · rename_i ds hd
    obtain ⟨P, xs, rfl, hq, rx⟩ := (seq_at a r).1 hd
    exact .inl ⟨P, xs, F, ds, rfl, SqL.of hq, a.fz, rx, q.1.1, q.1.2, fun ys p ry hp => hmk a ry kd q.2 hp⟩
  · split at q
    · rename_i ks ds hk
      split at q
      · rename_i ns hn
        obtain ⟨P, xs, rfl, hq, l, rx⟩ := resK_at a r hk
        refine .inr ⟨P, _, ns, rfl, hq, ?_, q.1, fun ys p h1 h2 hp => hmk a (Reps.ofInts ys) kd (q.2 ys h1 h2) hp⟩
        rw [zip_fst (l.1.trans rx.length), keyInts_ok hn]
      · exact q.elim
    · exact q.elim⟩
theorem calld_sort {k : Nat} (hr : Room k X.A) (hc : X.calm = true := by rfl) : CallD X (.builtin "sorted") rSortD := calld_sortG (fun a r k h hp => lst_new a r k h hp) hr hc
theorem calld_sortM {k : Nat} (hr : Room k X.A) (hc : X.calm = true := by rfl) : CallD X (.builtin "sorted") rSortM := calld_sortG (fun a r k h hp => lst_born a r k h hp) hr hc
/-! ### new dicts -/
theorem dct_born {K : PySem.W.Frag} {R F : Hp} {M : Mp} {H : Hp} {ks : List L2.Key} {ds : List D} {vs : List V} {Qd : DK} {Q : VK} {p : Addr} (a : At K R F M H) (l : KsOk ks ds) (r : Reps K F ds vs) (k : KD K R F Qd Q) (h : ∀ p, M p = none → Qd (.ref p) (mupd M p (.dct ks ds))) (hp : H p = none) : Q (.ref p) (upd H p (.dK (ks.zip vs))) :=
  k F _ _ (.ref p) _ (Same.refl F) (a.born hp (o := .dct ks ds) ⟨vs, rfl, l, r⟩) rfl (h p (a.freeM hp))
/-- {} -/
def dDct0 : DE := fun _ M Q => ∀ p, M p = none → Q (.ref p) (mupd M p (.dct [] []))
theorem pd_dct0 : PDE X (.Dict [] [] pos) dDct0 := pe_imp pe_dnewK fun σ H Q ⟨R, F, env, M, Qd, a, e, h, k⟩ p hp => dct_born (ks := []) (ds := []) (vs := []) a ⟨rfl, fun _ h => nomatch h⟩ rfl k h hp
/-- {k: v, ..} -/
def dPairs : List (DE × DE) → DEnv → Mp → (List (D × D) → Mp → Prop) → Prop
  | [], _, M, Q => Q [] M
  | (tk, tv) :: r, env, M, Q => tk env M fun x M1 => tv env M1 fun y M2 => dPairs r env M2 fun ps M3 => Q ((x, y) :: ps) M3
def tabOf : List (D × D) → List L2.Key → List D → Option (List L2.Key × List D)
  | [], ks, ds => some (ks, ds)
  | (x, y) :: r, ks, ds => match keyD x with
    | some k => tabOf r (addK ks k) (setK ks ds k y)
    | none => none
def dDct (ps : List (DE × DE)) : DE := fun env M Q => dPairs ps env M fun qs M1 => match tabOf qs [] [] with
  | some (ks, ds) => ∀ p, M1 p = none → Q (.ref p) (mupd M1 p (.dct ks ds))
  | none => False
def upPs (K : PySem.W.Frag) (ps : List (DE × DE)) : List (TE × TE) := ps.map fun p => (up K p.1, up K p.2)
def RepPs (K : PySem.W.Frag) (F : Hp) : List (D × D) → List (V × V) → Prop
  | [], xs => xs = []
  | (d, g) :: ds, xs => ∃ x y r, xs = (x, y) :: r ∧ Rep K F d x ∧ Rep K F g y ∧ RepPs K F ds r
theorem pairs_up {K : PySem.W.Frag} : ∀ (ps : List (DE × DE)) {σ : L2.St} {H : Hp} {R F : Hp} {env : DEnv} {M : Mp} {Qd : List (D × D) → Mp → Prop} {Q : List (V × V) → Hp → Prop}, At K R F M H → EnvR K F σ env → dPairs ps env M Qd →
    (∀ F' H' M' ds vs, Same F F' → At K R F' M' H' → RepPs K F' ds vs → ds.length = ps.length → Qd ds M' → Q vs H') → tPairs (upPs K ps) σ H Q
  | [], _, H, R, F, _, M, _, _, a, _, h, k => k F H M [] [] (Same.refl F) a rfl rfl h
  | (tk, tv) :: r, σ, H, R, F, env, M, Qd, Q, a, e, h, k => ⟨R, F, env, M, _, a, e, h, fun F1 H1 M1 x v s1 a1 r1 q1 => ⟨R, F1, env, M1, _, a1, e.mono s1, q1, fun F2 H2 M2 y w s2 a2 r2 q2 =>
      pairs_up r a2 ((e.mono s1).mono s2) q2 fun F3 H3 M3 ds vs s3 a3 r3 l3 q3 => k F3 H3 M3 ((x, y) :: ds) ((v, w) :: vs) ((s1.trans s2).trans s3) a3 ⟨v, w, vs, rfl, (r1.mono s2).mono s3, r2.mono s3, r3⟩ (by simp [l3]) q3⟩⟩
theorem tab_ok {K : PySem.W.Frag} {F : Hp} : ∀ {qs : List (D × D)} {vs : List (V × V)} {ks ks' : List L2.Key} {ds ds' : List D} {xs : List V}, RepPs K F qs vs → KsOk ks ds → Reps K F ds xs → tabOf qs ks ds = some (ks', ds') →
    ∃ (kvs : List (L2.Key × V)) (ys : List V), vs = kvs.map (fun kv => (kV kv.1, kv.2)) ∧ kvs.length = qs.length ∧ mergeK (ks.zip xs) kvs = ks'.zip ys ∧ KsOk ks' ds' ∧ Reps K F ds' ys
  | [], _, ks, ks', ds, ds', xs, r, l, rx, h => by
    cases r; cases h
    exact ⟨[], xs, rfl, rfl, rfl, l, rx⟩
  | (x, y) :: qs, _, ks, ks', ds, ds', xs, ⟨v, w, rr, e, r1, r2, r3⟩, l, rx, h => by
    subst e
    simp only [tabOf] at h
    split at h
    · rename_i k hk
      obtain ⟨ys, e1, e2⟩ := setK_zip (j := k) l.1 rx r2
      obtain ⟨kvs, zs, i1, i2, i3, i4, i5⟩ := tab_ok r3 (l.set (keyD_sok r1 hk)) e2 h
      refine ⟨(k, w) :: kvs, zs, ?_, by simp [i2], ?_, i4, i5⟩
      · rw [keyD_ok r1 hk, i1]; rfl
      · rw [← i3, ← e1]; rfl
    · cases h
theorem pps_up {pos : Pos} {k v : Expr} {ks : List (Option Expr)} {vs : List Expr} {tk tv : DE} {ps : List (DE × DE)} (hk : PDE X k tk) (hv : PDE X v tv) (hr : PPs X pos ks vs (upPs X.K ps)) : PPs X pos (some k :: ks) (v :: vs) (upPs X.K ((tk, tv) :: ps)) := pps_cons hk hv hr
theorem pps_up0 {pos : Pos} : PPs X pos [] [] (upPs X.K []) := pps_nil
theorem pd_dct {keys : List (Option Expr)} {values : List Expr} {ps : List (DE × DE)} (h : PPs X pos keys values (upPs X.K ps)) (hn : ps.length ≤ 15 := by decide) (hall : keys.all (·.isSome) = true := by rfl) (hl : keys.length = values.length := by rfl) (h0 : keys ≠ [] := by simp)
    (h15 : keys.length ≤ 15 := by decide) : PDE X (.Dict keys values pos) (dDct ps) :=
  pe_imp (pe_disp h hall hl h0 h15) fun σ H Q ⟨R, F, env, M, Qd, a, e, h, k⟩ p hp => by
    have hR := a.freeR hp
    refine pairs_up ps (a.lend hp _) e h fun F1 H1 M1 qs vs s1 a1 r1 l1 q1 => ⟨(a1.fr p _ upd_same).2.2, ?_⟩
    split at q1
    · rename_i ks ds ht
      obtain ⟨kvs, ys, i1, i2, i3, i4, i5⟩ := tab_ok (ks := []) (ds := []) (xs := []) r1 ⟨rfl, fun _ h => nomatch h⟩ rfl ht
      refine ⟨kvs, i1, by omega, ?_⟩
      have a2 := a1.relend (.dK (mergeK [] kvs))
      have e3 : mergeK [] kvs = ks.zip ys := i3
      rw [e3] at a2 ⊢
      exact k F1 _ _ (.ref p) _ s1 (a2.takeM hR (o := .dct ks ds) ⟨ys, rfl, i4, i5⟩) rfl (q1 p (a1.fr p _ upd_same).2.1)
    · exact q1.elim
/-! ### dict comprehensions -/
def dDcL0 (t : Tg) (tt : DT) (tk tv : DE) (env : DEnv) : List D → List L2.Key → List D → Mp → (List L2.Key → List D → Mp → Prop) → Prop
  | [], ks, ds, M, Q => Q ks ds M
  | x :: r, ks, ds, M, Q => t.bind x env fun env1 => tt env1 M fun b M1 => brn b (tk env1 M1 fun y M2 => tv env1 M2 fun z M3 => match keyD y with
      | some k => dDcL0 t tt tk tv env r (addK ks k) (setK ks ds k z) M3 Q
      | none => False) (dDcL0 t tt tk tv env r ks ds M1 Q)
@[irreducible] def dDcL (t : Tg) (tt : DT) (tk tv : DE) (env : DEnv) (xs : List D) (ks : List L2.Key) (ds : List D) (M : Mp) (Q : List L2.Key → List D → Mp → Prop) : Prop := dDcL0 t tt tk tv env xs ks ds M Q
theorem dDcL_eq {t : Tg} {tt : DT} {tk tv : DE} {env : DEnv} {xs ds : List D} {ks : List L2.Key} {M : Mp} {Q : List L2.Key → List D → Mp → Prop} : dDcL t tt tk tv env xs ks ds M Q = dDcL0 t tt tk tv env xs ks ds M Q := by unfold dDcL; rfl
def dDc (w : DI) (t : Tg) (tt : DT) (tk tv : DE) (vs : List Nat) : DE := fun env M Q => w env M fun items M1 => dDcL t tt tk tv (wipeD env vs) items [] [] M1 fun ks ds M2 => Q (.dct ks ds) M2
def dDcM (w : DI) (t : Tg) (tt : DT) (tk tv : DE) (vs : List Nat) : DE := fun env M Q => w env M fun items M1 => dDcL t tt tk tv (wipeD env vs) items [] [] M1 fun ks ds M2 => ∀ p, M2 p = none → Q (.ref p) (mupd M2 p (.dct ks ds))
theorem setK_le {ks : List L2.Key} {ds : List D} {j : L2.Key} {e : D} (h : ks.length = ds.length) : (setK ks ds j e).length ≤ ds.length + 1 := by
  unfold setK
  split
  · rw [List.length_zipWith]; omega
  · simp
theorem dc_served {K : PySem.W.Frag} {w : DI} {t : Tg} {tt : DT} {tk tv : DE} {vs : List Nat} (hv : ∀ v ∈ t.slots, v ∈ vs) {σ : L2.St} {H : Hp} {Q : VK} {R F : Hp} {env : DEnv} {M : Mp} {Qd : List L2.Key → List D → Mp → Prop}
    (a : At K R F M H) (e : EnvR K F σ env) (h : w env M fun items M1 => dDcL t tt tk tv (wipeD env vs) items [] [] M1 Qd)
    (k : ∀ F' H' M' ks ds D xs, Same F F' → At K (upd R D (.dK (ks.zip xs))) F' M' H' → R D = none → KsOk ks ds → Reps K F' ds xs → Qd ks ds M' → Q (.ref D) H') :
    tDc (upI K w) (tgOf K t) (upT K tt) (up K tk) (up K tv) vs σ H Q := by
  refine ⟨R, F, env, M, _, a, e, h, fun F1 H1 M1 items J s1 a1 gv q1 => ?_⟩
  rw [dDcL_eq] at q1
  intro D hD
  have hRD := a1.freeR hD
  refine ⟨fun i m H => ∃ F2 M2 ks ds xs, Same F1 F2 ∧ At K (upd R D (.dK (ks.zip xs))) F2 M2 H ∧ KsOk ks ds ∧ Reps K F2 ds xs ∧ dDcL0 t tt tk tv (wipeD env vs) (items.drop i) ks ds M2 Qd ∧ m = items.length - i ∧ i ≤ items.length ∧ ds.length ≤ i,
    ⟨items.length, F1, M1, [], [], [], Same.refl _, a1.lend hD _, ⟨rfl, fun _ h => nomatch h⟩, rfl, q1, by simp, Nat.zero_le _, Nat.le_refl _⟩, ?_⟩
  rintro i m H2 ⟨F2, M2, ks, ds, xs, s2, a2, lk, rx, q2, rfl, hi, hl⟩
  by_cases hlt : i < items.length
  · rw [List.drop_eq_getElem_cons hlt] at q2
    obtain ⟨hgo, hy⟩ := gv.go i items[i] _ F2 _ _ s2 a2 (List.getElem?_eq_getElem hlt)
    refine .inr ⟨hgo, fun H' => ∃ F3 M3 ks3 ds3 xs3, Same F1 F3 ∧ At K (upd R D (.dK (ks3.zip xs3))) F3 M3 H' ∧ KsOk ks3 ds3 ∧ Reps K F3 ds3 xs3 ∧ dDcL0 t tt tk tv (wipeD env vs) (items.drop (i + 1)) ks3 ds3 M3 Qd ∧ ds3.length ≤ i + 1,
      fun H' ⟨F3, M3, ks3, ds3, xs3, s3, a3, lk3, r3, q3, l3⟩ => ⟨items.length - (i + 1), by omega, F3, M3, ks3, ds3, xs3, s3, a3, lk3, r3, q3, rfl, hlt, l3⟩, fun x H' y => ?_⟩
    obtain ⟨F3, s3, a3, r3⟩ := hy x H' y
    refine tg_serves a3 t (wipe σ vs) (wipeD env vs) items[i] x _ _ ((e.wipe vs).mono ((s1.trans s2).trans s3)) r3 q2 fun σ' env' e' w' q' => ?_
    refine ⟨(wipe_sub hv w').trans (wipe_wipe σ vs), _, F3, env', M2, _, a3, e', q', fun F4 H4 M4 b s4 a4 q4 => ?_⟩
    show if b = true then _ else _
    cases b with
    | true =>
      rw [brn_t] at q4; rw [if_pos rfl]
      refine ⟨_, F4, env', M4, _, a4, e'.mono s4, q4, fun F5 H5 M5 d v s5 a5 r5 q5 => ⟨_, F5, env', M5, _, a5, (e'.mono s4).mono s5, q5, fun F6 H6 M6 g u s6 a6 r6 q6 => ?_⟩⟩
      have z := a6.fr D _ upd_same
      split at q6
      · rename_i kk hk
        have rx' := (((rx.mono s3).mono s4).mono s5).mono s6
        obtain ⟨ys, e1, e2⟩ := setK_zip (j := kk) lk.1 rx' r6
        have h1 := rx.length
        have h2 := gv.small
        have h3 := lk.1
        refine ⟨_, kk, keyD_ok r5 hk, z.2.2, ?_, F6, M6, addK ks kk, setK ks ds kk g, ys, ((((s2.trans s3).trans s4).trans s5).trans s6), ?_, lk.set (keyD_sok r5 hk), e2, q6, Nat.le_trans (setK_le lk.1) (by omega)⟩
        · rw [List.length_zip, ← h1, h3, Nat.min_self]; omega
        · have := a6.relend (u' := .dK (putK (ks.zip xs) kk u))
          rw [e1] at this ⊢
          exact this
      · exact q6.elim
    | false =>
      rw [brn_f] at q4; rw [if_neg Bool.false_ne_true]
      exact ⟨F4, M4, ks, ds, xs, (s2.trans s3).trans s4, a4, lk, (rx.mono s3).mono s4, q4, by omega⟩
  · have e : i = items.length := by omega
    subst e
    rw [List.drop_length] at q2
    exact .inl ⟨gv.stop _ F2 M2 _ s2 a2, k F2 _ M2 ks ds D xs (s1.trans s2) a2 hRD lk rx q2⟩
section
variable {tg iter : Expr} {ifs : List Expr} {scope : Scope} {own : List (Str × Nat)} {w : DI} {t : Tg} {tt : DT}
theorem pd_dc (hN : X.N.Nodup) (hi : PDI X tg iter w) (ok : BlkOk X.N X.env.scope scope own)
    (hg : BlkAll X scope fun Y => PDG Y tg t) (ht : BlkAll X scope fun Y => PDTs Y ifs tt) (hk : BlkAll X scope fun Y => PDE Y kx tk) (he : BlkAll X scope fun Y => PDE Y vx tv) (hv : ∀ v ∈ t.slots, v ∈ own.map (·.2) := by decide)
    (hc : X.calm = true := by rfl) (hs : ∀ x, foldedSetIterable iter X.env x = pure x := by intro _; rfl) :
    PDE X (.DictComp kx vx [⟨tg, iter, ifs, 0⟩] scope pos) (dDc w t tt tk tv (own.map (·.2))) :=
  pe_imp (pe_lock (pe_dc hc hN hi ok hg ht hk he hs)) fun σ H Q ⟨R, F, env, M, Qd, a, e, h, k⟩ => dc_served hv a e h fun F' H' M' ks ds D xs s a' hR lk r q => by
    have hD := (a'.fr D _ upd_same).2.2
    refine .inr ⟨D, _, rfl, hD, trivial, fun o => ?_⟩
    obtain ⟨a2, s2⟩ := (a'.relend (.frz o (.dK (ks.zip xs)))).takeF hR
    exact k _ _ M' (.dct ks ds) _ (s.trans s2) a2 ⟨D, o, xs, rfl, upd_same, lk, r.mono s2⟩ q
theorem pd_dcM (hN : X.N.Nodup) (hi : PDI X tg iter w) (ok : BlkOk X.N X.env.scope scope own)
    (hg : BlkAll X scope fun Y => PDG Y tg t) (ht : BlkAll X scope fun Y => PDTs Y ifs tt) (hk : BlkAll X scope fun Y => PDE Y kx tk) (he : BlkAll X scope fun Y => PDE Y vx tv) (hv : ∀ v ∈ t.slots, v ∈ own.map (·.2) := by decide)
    (hc : X.calm = true := by rfl) (hs : ∀ x, foldedSetIterable iter X.env x = pure x := by intro _; rfl) :
    PDE X (.DictComp kx vx [⟨tg, iter, ifs, 0⟩] scope pos) (dDcM w t tt tk tv (own.map (·.2))) :=
  pe_imp (pe_dc hc hN hi ok hg ht hk he hs) fun σ H Q ⟨R, F, env, M, Qd, a, e, h, k⟩ => dc_served hv a e h fun F' H' M' ks ds D xs s a' hR lk r q =>
    k F' H' _ (.ref D) _ s (a'.takeM hR (o := .dct ks ds) ⟨xs, rfl, lk, r⟩) rfl (q D (a'.fr D _ upd_same).2.1)
end
/-! ### a frozen dict walked -/
def iDct (g : List L2.Key → List D → List D) (te : DE) : DI := fun env M Q => te env M fun d M1 => match d with
  | .dct ks ds => Q (g ks ds) M1
  | _ => False
abbrev iKeysD : DE → DI := iDct fun ks _ => ks.map dKey
abbrev iValsD : DE → DI := iDct fun _ ds => ds
abbrev iItemsD : DE → DI := iDct fun ks ds => List.zipWith (fun k d => .tup [dKey k, d]) ks ds
theorem dKey_rep {K : PySem.W.Frag} {F : Hp} {k : L2.Key} (h : ∀ x, Sum.inr x = k → SOk x) : Rep K F (dKey k) (kV k) := by
  cases k with
  | inl i => rfl
  | inr x => exact ⟨rfl, h x rfl⟩
theorem zip_get {α β : Type} {xs : List α} {ys : List β} {i : Nat} (hi : i < xs.length) (h : xs.length = ys.length) : ∃ x y, xs[i]? = some x ∧ ys[i]? = some y ∧ (xs.zip ys)[i]? = some (x, y) := by
  refine ⟨xs[i], ys[i]'(h ▸ hi), List.getElem?_eq_getElem hi, List.getElem?_eq_getElem (h ▸ hi), ?_⟩
  rw [List.getElem?_eq_getElem (by rw [List.length_zip, ← h]; omega), List.getElem_zip]
theorem dct_small {pins : List (Addr × Obj)} {σ : L2.St} {H : Hp} {s : Shared} {p : Addr} {o : Obj} {kvs : List (L2.Key × V)} (I : Inv X pins σ H s) (h : H p = some (.frz o (.dK kvs))) : kvs.length ≤ sizeLine := by
  obtain ⟨hd, z, hs, vs, kv, _⟩ := I.hok p _ h
  exact z
theorem pdi_keys {tg : Expr} (he : PDE X e te) : PDI X tg e (iKeysD te) := by
  refine pi_imp (pi_keys (pe_held he)) fun σ H Z ⟨R, F, env, M, Qd, a, e, h, k⟩ => ⟨R, F, env, M, _, a, e, h, fun F1 H1 M1 d v s1 a1 r1 q1 pins s σ I => ?_⟩
  cases d with
  | dct ks ds =>
    obtain ⟨p, o, xs, rfl, hq, lk, rx⟩ := r1
    have hx : ks.length = xs.length := lk.1.trans rx.length
    have hH := a1.fz _ _ hq
    have hz := dct_small I hH
    rw [List.length_zip, ← hx, Nat.min_self] at hz
    refine ⟨p, o, rfl, .inl ⟨_, hH, k F1 H1 M1 _ _ s1 a1 ⟨by rw [List.length_map]; exact hz, fun R F' M H s a' => ⟨a'.fz _ _ (s _ _ hq), by rw [List.length_zip, List.length_map, ← hx, Nat.min_self]; exact Nat.le_refl _⟩, fun i d R F' M H s a' hi => ?_⟩ q1⟩⟩
    rw [List.getElem?_map] at hi
    cases hk : ks[i]? with
    | none => rw [hk] at hi; cases hi
    | some kk =>
      rw [hk] at hi
      cases hi
      have hlt := (List.getElem?_eq_some_iff.mp hk).1
      obtain ⟨x, y, h1, h2, h3⟩ := zip_get hlt hx
      refine ⟨⟨a'.fz _ _ (s _ _ hq), by rw [List.length_zip, ← hx, Nat.min_self]; exact hlt⟩, fun v H' ⟨e1, k', v', e2, e3⟩ => ⟨F', Same.refl _, by rw [e1]; exact a', ?_⟩⟩
      rw [h3] at e2
      cases e2
      rw [hk] at h1
      cases h1
      subst e3
      exact dKey_rep fun z hz => lk.2 z (hz ▸ List.mem_of_getElem? hk)
  | _ => exact q1.elim
theorem pdi_values {tg : Expr} (he : PDE X e te) (hbase : attributeBase e "values" X.env (eval e X.env) = eval e X.env := by rfl) (hline : (apos.endLine == pos.line) = true := by rfl) : PDI X tg (.Call (.Attribute e "values" apos) [] [] pos) (iValsD te) := by
  refine pi_imp (pi_values (pe_held he) hbase hline) fun σ H Z ⟨R, F, env, M, Qd, a, e, h, k⟩ => ⟨R, F, env, M, _, a, e, h, fun F1 H1 M1 d v s1 a1 r1 q1 pins s σ I => ?_⟩
  cases d with
  | dct ks ds =>
    obtain ⟨p, o, xs, rfl, hq, lk, rx⟩ := r1
    have hx : ks.length = xs.length := lk.1.trans rx.length
    have hH := a1.fz _ _ hq
    have hz := dct_small I hH
    rw [List.length_zip, ← hx, Nat.min_self] at hz
    refine ⟨p, o, _, rfl, hH, k F1 H1 M1 _ _ s1 a1 ⟨by rw [← lk.1]; exact hz, fun R F' M H s a' => ⟨a'.fz _ _ (s _ _ hq), by rw [List.length_zip, ← hx, Nat.min_self, lk.1]; exact Nat.le_refl _⟩, fun i d R F' M H s a' hi => ?_⟩ q1⟩
    have hlt : i < ks.length := by rw [lk.1]; exact (List.getElem?_eq_some_iff.mp hi).1
    obtain ⟨x, y, h1, h2, h3⟩ := zip_get hlt hx
    obtain ⟨u, hu, ru⟩ := rx.get hi
    refine ⟨⟨a'.fz _ _ (s _ _ hq), by rw [List.length_zip, ← hx, Nat.min_self]; exact hlt⟩, fun v H' ⟨e1, k', e2⟩ => ⟨F', Same.refl _, by rw [e1]; exact a', ?_⟩⟩
    rw [h3] at e2
    cases e2
    rw [h2] at hu
    cases hu
    exact ru.mono s
  | _ => exact q1.elim
theorem pdi_items {elts : List Expr} {kk : Nat} {tpos : Pos} (he : PDE X e te) (hbase : attributeBase e "items" X.env (eval e X.env) = eval e X.env := by rfl) (hline : (apos.endLine == pos.line) = true := by rfl) :
    PDI X (.Tuple elts kk tpos) (.Call (.Attribute e "items" apos) [] [] pos) (iItemsD te) := by
  refine pi_imp (pi_items (pe_held he) hbase hline) fun σ H Z ⟨R, F, env, M, Qd, a, e, h, k⟩ => ⟨R, F, env, M, _, a, e, h, fun F1 H1 M1 d v s1 a1 r1 q1 pins s σ I => ?_⟩
  cases d with
  | dct ks ds =>
    obtain ⟨p, o, xs, rfl, hq, lk, rx⟩ := r1
    have hx : ks.length = xs.length := lk.1.trans rx.length
    have hH := a1.fz _ _ hq
    have hz := dct_small I hH
    rw [List.length_zip, ← hx, Nat.min_self] at hz
    have hzl : (List.zipWith (fun k d => D.tup [dKey k, d]) ks ds).length = ks.length := by rw [List.length_zipWith, ← lk.1, Nat.min_self]
    refine ⟨p, o, _, rfl, hH, k F1 H1 M1 _ _ s1 a1 ⟨by rw [hzl]; exact hz, fun R F' M H s a' => ⟨a'.fz _ _ (s _ _ hq), by rw [hzl, List.length_zip, ← hx, Nat.min_self]; exact Nat.le_refl _⟩, fun i d R F' M H s a' hi => ?_⟩ q1⟩
    have hlt : i < ks.length := by rw [← hzl]; exact (List.getElem?_eq_some_iff.mp hi).1
    obtain ⟨x, y, h1, h2, h3⟩ := zip_get hlt hx
    obtain ⟨x', g, h4, h5, _⟩ := zip_get hlt lk.1
    rw [List.getElem?_zipWith, h4, h5] at hi
    cases hi
    obtain ⟨u, hu, ru⟩ := rx.get h5
    refine ⟨⟨a'.fz _ _ (s _ _ hq), by rw [List.length_zip, ← hx, Nat.min_self]; exact hlt⟩, fun v H' ⟨T, k', v', e2, ev, hT, eH⟩ => ?_⟩
    rw [h3] at e2
    cases e2
    rw [h1] at h4
    cases h4
    rw [h2] at hu
    cases hu
    subst ev eH
    exact new_pair a' hT (dKey_rep fun z hz => lk.2 z (hz ▸ List.mem_of_getElem? h1)) (ru.mono s)
  | _ => exact q1.elim
/-! ### dicts compared -/
def hitsD (ls : List L2.Key) (es : List D) : List L2.Key → List D → Bool
  | k :: ks, d :: ds => match findK ls es k with
    | some g => eqD d g && hitsD ls es ks ds
    | none => false
  | _, _ => true
def eqTab (ks : List L2.Key) (ds : List D) (ls : List L2.Key) (es : List D) : Bool := (ks.length == ls.length) && hitsD ls es ks ds
theorem findK_mem : ∀ {ks : List L2.Key} {ds : List D} {k : L2.Key} {d : D}, findK ks ds k = some d → d ∈ ds
  | [], _, _, _, h => by simp [findK] at h
  | k :: ks, [], _, _, h => by simp [findK] at h
  | k :: ks, d :: ds, j, g, h => by
    simp only [findK] at h
    split at h
    · cases h; exact List.mem_cons_self
    · exact List.mem_cons_of_mem _ (findK_mem h)
theorem hits_ok {pins : List (Addr × Obj)} {σ : L2.St} {H : Hp} {s : Shared} {F : Hp} {A : Around} (I : Inv X pins σ H s) (sm : Same F H) (hu : A.in1.units + 64 < cLine) {ls : List L2.Key} {es : List D} {ys : List V} {vb : List (L2.Key × Value)} (rb : KV (ls.zip ys) vb) (lb : ls.length = es.length) (re : Reps X.K F es ys) (he : D.les 60 es = true) :
    ∀ {ks : List L2.Key} {ds : List D} {xs : List V} {va : List (L2.Key × Value)}, KV (ks.zip xs) va → ks.length = ds.length → Reps X.K F ds xs → D.les 60 ds = true → PySem.W.KeqHits A.in1 s vb va (hitsD ls es ks ds)
  | [], ds, xs, va, ra, l, r, h => by
    cases ds with
    | nil => cases ra; exact .nil
    | cons _ _ => simp at l
  | k :: ks, [], xs, va, ra, l, r, h => by simp at l
  | k :: ks, d :: ds, _, va, ra, l, ⟨x, rr, e, r1, r2⟩, h => by
    subst e
    simp only [D.les, Bool.and_eq_true] at h
    cases ra with
    | @cons p q ps qs h1 t =>
      obtain ⟨k', v⟩ := q
      obtain ⟨e1, rv⟩ := h1
      obtain rfl : k = k' := e1
      obtain ⟨f1, f2⟩ := findK_some (j := k) lb re
      have rel : RelO (valV (ls.zip ys) k) (valueAt vb k) := rb.val k
      simp only [hitsD]
      cases hf : findK ls es k with
      | none =>
        rw [f2 hf] at rel
        refine .miss ?_
        cases hv : valueAt vb k with
        | none => rfl
        | some z => rw [hv] at rel; exact (show False from rel).elim
      | some g =>
        obtain ⟨w, hw, rw'⟩ := f1 g hf
        rw [hw] at rel
        obtain ⟨y, hy, ry⟩ := rel.some_of
        obtain ⟨d1, s1⟩ := py_shaped r1 h.1
        obtain ⟨d2, s2⟩ := py_shaped rw' (les_each he g (findK_mem hf))
        obtain ⟨as, q1⟩ := Dp.reads I d.py x v (dp_mono sm d1) rv
        obtain ⟨bs, q2⟩ := Dp.reads I g.py w y (dp_mono sm d2) ry
        exact .hit hy (PySem.W.keq_at q1 q2 s1 s2 hu) (hits_ok I sm hu rb lb re he t (by simpa using l) r2 h.2)
def rEqTV (K : PySem.W.Frag) (g : Bool → Bool) : R2 := fun x y H Q => ∃ a b ks ds xs ls es ys F, x = .ref a ∧ y = .ref b ∧ Rd H a (.dK (ks.zip xs)) ∧ Rd H b (.dK (ls.zip ys)) ∧ Same F H ∧ ks.length = ds.length ∧ Reps K F ds xs ∧ D.les 60 ds = true ∧ ls.length = es.length ∧ Reps K F es ys ∧ D.les 60 es = true ∧ Q (.bl (g (eqTab ks ds ls es))) H
theorem op_eqTV (hu : X.A.units + 65 < cLine) : OpR X (compareOp .Eq) (rEqTV X.K id) := by
  intro pins s σ H x y v u Q I rx ry ⟨a, b, ks, ds, xs, ls, es, ys, F, ex, ey, ha, hb, sm, l1, r1, h1, l2, r2, h2, q⟩
  subst ex ey
  obtain rfl : v = Value.ref a := rx
  obtain rfl : u = Value.ref b := ry
  obtain ⟨_, ya, va, ra, da⟩ := dk_rd I.hok ha
  obtain ⟨_, yb, vb, rb, db⟩ := dk_rd I.hok hb
  have e1 : va.length = ks.length := by rw [← ra.length, List.length_zip, ← r1.length, ← l1, Nat.min_self]
  have e2 : vb.length = ls.length := by rw [← rb.length, List.length_zip, ← r2.length, ← l2, Nat.min_self]
  refine PySem.W.keq_eq (knd := mixKind X.prog X.w) (r := hitsD ls es ks ds) ya yb da db (by omega) (fun _ => hits_ok I sm (by have := Around.in1_units X.A; omega) rb l2 r2 h2 ra l1 r1 h1) (fin_bl I q ?_)
  rw [e1, e2]; rfl
theorem op_neTV (hu : X.A.units + 65 < cLine) : OpR X (compareOp .NotEq) (rEqTV X.K not) := by
  intro pins s σ H x y v u Q I rx ry ⟨a, b, ks, ds, xs, ls, es, ys, F, ex, ey, ha, hb, sm, l1, r1, h1, l2, r2, h2, q⟩
  subst ex ey
  obtain rfl : v = Value.ref a := rx
  obtain rfl : u = Value.ref b := ry
  obtain ⟨_, ya, va, ra, da⟩ := dk_rd I.hok ha
  obtain ⟨_, yb, vb, rb, db⟩ := dk_rd I.hok hb
  have e1 : va.length = ks.length := by rw [← ra.length, List.length_zip, ← r1.length, ← l1, Nat.min_self]
  have e2 : vb.length = ls.length := by rw [← rb.length, List.length_zip, ← r2.length, ← l2, Nat.min_self]
  refine PySem.W.keq_ne (knd := mixKind X.prog X.w) (r := hitsD ls es ks ds) ya yb da db (by omega) (fun _ => hits_ok I sm (by have := Around.in1_units X.A; omega) rb l2 r2 h2 ra l1 r1 h1) (fin_bl I q ?_)
  rw [e1, e2]; rfl
def rEqKD (g : Bool → Bool) : R2D := fun d e M Q => match resK M d with
  | some (ks, ds) => match resK M e with
    | some (ls, es) => (D.les 60 ds = true ∧ D.les 60 es = true) ∧ Q (.bl (g (eqTab ks ds ls es))) M
    | none => False
  | none => False
theorem eqK_served {K : PySem.W.Frag} (g : Bool → Bool) : Serves2 K (rEqKD g) (rEqTV K g) := fun R F M H d e x y Qd Q a r1 r2 q kd => by
  unfold rEqKD at q
  split at q
  · rename_i ks ds hk
    split at q
    · rename_i ls es hl
      obtain ⟨p, xs, rfl, h1, l1, rx⟩ := resK_at a r1 hk
      obtain ⟨p2, ys, rfl, h2, l2, ry⟩ := resK_at a r2 hl
      exact ⟨p, p2, ks, ds, xs, ls, es, ys, F, rfl, rfl, h1, h2, a.fz, l1.1, rx, q.1.1, l2.1, ry, q.1.2, kd F H M (.bl _) _ (Same.refl _) a rfl q.2⟩
    · exact q.elim
  · exact q.elim
theorem opd_eqK {k : Nat} (hr : Room k X.A) : OpD X (compareOp .Eq) (rEqKD id) := ⟨_, op_eqTV (by have := hr.un; omega), eqK_served id⟩
theorem opd_neK {k : Nat} (hr : Room k X.A) : OpD X (compareOp .NotEq) (rEqKD not) := ⟨_, op_neTV (by have := hr.un; omega), eqK_served not⟩
/-! ### a name's own object is frozen ahead of a statement: a step of ours -/
def dFrzN (i : Nat) (t : DS) : DS := fun D env M => match env[i]? with
  | some (some (.ref q)) => match M q with
    | some (.lst ds) => t D (env.set i (some (.lst ds))) (mdel M q)
    | some (.dct ks ds) => t D (env.set i (some (.dct ks ds))) (mdel M q)
    | some (.ins c ds) => t D (env.set i (some (.obj c ds))) (mdel M q)
    | some (.dkd w ks ds) => t D (env.set i (some (.dkd w ks ds))) (mdel M q)
    | none => False
  | _ => False
theorem EnvR.reset {K : PySem.W.Frag} {F : Hp} {σ : L2.St} {env : DEnv} {i : Nat} {d : D} {v : V} (e : EnvR K F σ env) (hv : σ[i]? = some (some v)) (r : Rep K F d v) : EnvR K F σ (env.set i (some d)) := by
  refine ⟨by rw [List.length_set]; exact e.len, fun j g h => ?_⟩
  by_cases hj : i = j
  · subst hj
    rw [List.getElem?_set] at h
    rw [if_pos rfl] at h
    split at h
    · cases h; exact ⟨v, hv, r⟩
    · cases h
  · rw [List.getElem?_set_ne hj] at h
    exact e.get j g h
theorem ps_lock {st : Stmt} {t : TS} (h : PS X st t) : PS X st (fun D σ H => t D σ H ∨ ∃ d u, H d = some u ∧ Mut (some u) ∧ ∀ o, t D σ (upd H d (.frz o u))) := ⟨fun pins s σ H D I q => by
  rcases q with q | ⟨d, kvs, hd, mu, q⟩
  · exact h.run pins s σ H D I q
  · obtain ⟨od, I2⟩ := I.lock hd mu
    exact h.run pins s σ _ D I2 (q od)⟩
theorem pds_frz {st : Stmt} {t : DS} (i : Nat) (h : PDS X st t) : PDS X st (dFrzN i t) := ps_imp (ps_lock h) fun D σ H ⟨R, F, env, M, Dd, a, e, h, k⟩ => by
  unfold dFrzN at h
  split at h
  · rename_i q hq
    obtain ⟨v, hv, rv⟩ := e.get i _ hq
    cases (show v = V.ref q from rv)
    split at h
    · rename_i ds hm
      obtain ⟨u, ru, a2, s2⟩ := a.freeze hm
      obtain ⟨xs, rfl, rx⟩ := ru
      exact .inl ⟨R, _, _, _, Dd, a2, (e.mono s2).reset hv (d := .lst ds) ⟨q, xs, rfl, upd_same, rx.mono s2⟩, h, k.mono s2⟩
    · rename_i ks ds hm
      obtain ⟨_, u, hu, xs, rfl, l, rx⟩ := a.mu _ _ hm
      refine .inr ⟨q, _, hu, trivial, fun o => ?_⟩
      obtain ⟨a2, s2⟩ := a.freezeAs hm (.frz o (.dK (ks.zip xs)))
      exact ⟨R, _, _, _, Dd, a2, (e.mono s2).reset hv (d := .dct ks ds) ⟨q, o, xs, rfl, upd_same, l, rx.mono s2⟩, h, k.mono s2⟩
    · rename_i c ds hm
      obtain ⟨u, ru, a2, s2⟩ := a.freeze hm
      obtain ⟨dx, xs, rfl, l, rx⟩ := ru
      exact .inl ⟨R, _, _, _, Dd, a2, (e.mono s2).reset hv (d := .obj c ds) ⟨q, dx, xs, rfl, upd_same, l, rx.mono s2⟩, h, k.mono s2⟩
    · rename_i w ks ds hm
      obtain ⟨_, u, hu, Ls, rfl, l, r1, r2⟩ := a.mu _ _ hm
      refine .inr ⟨q, _, hu, trivial, fun o => ?_⟩
      obtain ⟨a2, s2⟩ := a.freezeAs hm (.frz o (DkO w q Ls))
      exact ⟨R, _, _, _, Dd, a2, (e.mono s2).reset hv (d := .dkd w ks ds) ⟨q, o, Ls, rfl, upd_same, l, r1.mono s2, r2.mono s2⟩, h, k.mono s2⟩
    · exact h.elim
  · exact h.elim
end
end L3
set_option Elab.async false
set_option linter.all false
set_option maxRecDepth 100000
set_option maxHeartbeats 1000000
/-! L3, seventh part: peeks, built-ins of two values. -/
namespace L3
open PySem PySem.Spec PyProof.Rows L2
section
variable {X : Cx} {a b o i : Expr} {e : Expr} {es : List Expr} {te ta tb to ti : DE} {t : DA} {pos p apos tpos : Pos}
/-! ### an own list is read as data while an expression runs: a step of ours -/
def flatD : D → Bool
  | .non => true
  | .bl _ => true
  | .int _ => true
  | .str _ => true
  | _ => false
def dPeek (i : Nat) (te : DE) : DE := fun env M Q => match env[i]? with
  | some (some (.ref q)) => match M q with
    | some (.lst ds) => te (env.set i (some (.lst ds))) (fun _ => none) fun d _ => flatD d = true ∧ Q d M
    | _ => False
  | _ => False
theorem flat_rep {K : PySem.W.Frag} {F F' : Hp} {d : D} {v : V} (h : flatD d = true) (r : Rep K F d v) : Rep K F' d v := by
  cases d with
  | non => exact r
  | bl b => exact r
  | int b => exact r
  | str b => exact r
  | _ => cases h
theorem pd_peek (i : Nat) (he : PDE X e te) : PDE X e (dPeek i te) := pe_imp he fun σ H Q ⟨R, F, env, M, Qd, a, e, h, k⟩ => by
  unfold dPeek at h
  split at h
  · rename_i q hq
    obtain ⟨v, hv, rv⟩ := e.get i _ hq
    cases (show v = V.ref q from rv)
    split at h
    · rename_i ds hm
      obtain ⟨hF, u, hu, xs, rfl, rx⟩ := a.mu _ _ hm
      have s2 : Same F (upd F q (.lst xs)) := same_upd hF
      -- all the rest is another's meanwhile
      have a2 : At X.K (fun b => if b = q then none else match M b with | some _ => H b | none => R b) (upd F q (.lst xs)) (fun _ => none) H := by
        refine ⟨fun b w hw => ?_, fun b o ho => (by cases ho), fun b w hw => ?_⟩
        · by_cases hb : b = q
          · subst hb; rw [upd_same] at hw; cases hw; exact hu
          · rw [upd_ne hb] at hw; exact a.fz _ _ hw
        · by_cases hb : b = q
          · rw [if_pos hb] at hw; cases hw
          · rw [if_neg hb] at hw
            rw [upd_ne hb]
            cases hM : M b with
            | some o => rw [hM] at hw; exact ⟨(a.mu _ _ hM).1, rfl, hw⟩
            | none => rw [hM] at hw; exact ⟨(a.fr _ _ hw).1, rfl, (a.fr _ _ hw).2.2⟩
      refine ⟨_, _, _, _, _, a2, (e.mono s2).reset hv (d := .lst ds) ⟨q, xs, rfl, upd_same, rx.mono s2⟩, h, fun F3 H3 M3 d w s3 a3 r3 ⟨fl, q3⟩ => ?_⟩
      refine k F H3 M d w (Same.refl F) ⟨fun b w hw => a3.fz _ _ (s3 _ _ (s2 _ _ hw)), fun b o ho => ?_, fun b w hw => ?_⟩ (flat_rep fl r3) q3
      · obtain ⟨h1, u2, h2, h3⟩ := a.mu _ _ ho
        refine ⟨h1, u2, ?_, h3⟩
        by_cases hb : b = q
        · subst hb
          rw [hm] at ho
          cases ho
          rw [hu] at h2
          cases h2
          exact a3.fz _ _ (s3 _ _ upd_same)
        · exact (a3.fr b u2 (by simp only [if_neg hb]; rw [ho]; exact h2)).2.2
      · obtain ⟨h1, h2, h3⟩ := a.fr _ _ hw
        have hb : b ≠ q := fun z => by subst z; rw [hm] at h2; cases h2
        exact ⟨h1, h2, (a3.fr b w (by simp only [if_neg hb]; rw [h2]; exact hw)).2.2⟩
    · exact h.elim
  · exact h.elim
/-- {}, frozen at once -/
def dDctF0 : DE := fun _ M Q => Q (.dct [] []) M
theorem pd_dctF0 : PDE X (.Dict [] [] pos) dDctF0 := pe_imp (pe_lock pe_dnewK) fun σ H Q ⟨R, F, env, M, Qd, a, e, h, k⟩ p hp => .inr ⟨p, _, rfl, upd_same, trivial, fun o => by
  obtain ⟨a2, s2⟩ := a.laid hp (.frz o (.dK []))
  rw [upd_upd]
  exact k _ _ M (.dct [] []) _ s2 a2 ⟨p, o, [], rfl, upd_same, ⟨rfl, fun _ h => nomatch h⟩, rfl⟩ h⟩
/-! ### built-ins of two values -/
structure CallD2 (X : Cx) (f : Value) (r : R2D) : Prop where
  ex : ∃ rV, CallR X f rV ∧ ∀ R F M H d e x y Qd Q, At X.K R F M H → Rep X.K F d x → Rep X.K F e y → r d e M Qd → KD X.K R F Qd Q → rV [x, y] H Q
theorem pd_bltn2 {x : Str} {f : String} {r : R2D} (hc : CallD2 X (.builtin f) r) (hm : X.mg x = none) (ha : PDE X a ta) (hb : PDE X b tb) (hv : bootBuiltins x = some (.builtin f) := by decide +kernel) (hg : Gl X x := by rfl) (hn : x ≠ "__name__" := by decide) (hdb : (x == ("__debug__" : Str)) = false := by decide)
    (he : starEach [a, b] X.env = (false, eval a X.env) :: starEach [b] X.env := by rfl) (he2 : starEach [b] X.env = (false, eval b X.env) :: starEach [] X.env := by rfl) (hpl : (backTo pos (starEach [b] X.env)).any (·.1) = false := by rfl) : PDE X (.Call (.Name x p) [a, b] [] pos) (dBin r ta tb) := by
  obtain ⟨rV, h1, h2⟩ := hc.ex
  exact pe_imp (pe_callB h1 hg hm hv (pa_cons ha (pa_cons hb pa_nil he2) he) hn hdb he hpl) fun σ H Q ⟨R, F, env, M, Qd, a, e, h, k⟩ =>
    ⟨R, F, env, M, _, a, e, h, fun F1 H1 M1 d v s1 a1 r1 h1 => ⟨R, F1, env, M1, _, a1, e.mono s1, h1, fun F2 H2 M2 d2 v2 s2 a2 r2 q2 => h2 R F2 M2 H2 d d2 v v2 Qd Q a2 (r1.mono s2) r2 q2 (k.mono (s1.trans s2))⟩⟩
abbrev rMaxI : R2D := r2J fun i j => .int (if j > i then j else i)
abbrev rMinI : R2D := r2J fun i j => .int (if j < i then j else i)
theorem calld_max (hc : X.calm = true := by rfl) : CallD2 X (.builtin "max") rMaxI := ⟨_, call_max2 hc, fun R F M H d e x y Qd Q a r1 r2 q kd => by
  unfold rMaxI r2J at q
  split at q
  · rename_i i j
    obtain rfl : x = V.int i := r1
    obtain rfl : y = V.int j := r2
    exact ⟨i, j, rfl, kd F H M (.int _) _ (Same.refl _) a rfl q⟩
  · exact q.elim⟩
theorem calld_min (hc : X.calm = true := by rfl) : CallD2 X (.builtin "min") rMinI := ⟨_, call_min2 hc, fun R F M H d e x y Qd Q a r1 r2 q kd => by
  unfold rMinI r2J at q
  split at q
  · rename_i i j
    obtain rfl : x = V.int i := r1
    obtain rfl : y = V.int j := r2
    exact ⟨i, j, rfl, kd F H M (.int _) _ (Same.refl _) a rfl q⟩
  · exact q.elim⟩
end
end L3
set_option Elab.async false
set_option linter.all false
set_option maxRecDepth 100000
set_option maxHeartbeats 1000000
/-! Readings of the helpers that the laws share: the bag, draws, letters, likeness. -/
namespace L3
open PySem PySem.Spec PyProof.Rows L2
local macro_rules | `(tactic| walk_at "w") => `(tactic| conv => whnf)
set_option hygiene false in
local macro_rules | `(tactic| walk_at "m") => `(tactic| (conv => whnf; rw [resD_ref hM]; conv => whnf))
set_option hygiene false in
local macro_rules | `(tactic| walk_at "n") => `(tactic| (conv => whnf; rw [resD_new]; conv => whnf))
theorem resD_ref {M : Mp} {p : Addr} {ds : List D} (h : M p = some (.lst ds)) : resD M (.ref p) = .lst ds := by
  simp only [resD, h]
theorem resD_new {M : Mp} {p : Addr} {ds : List D} : resD (mupd M p (.lst ds)) (.ref p) = .lst ds := resD_ref mupd_same
/-! ### letters -/
def letters : Str := "abcdefghijklmnopqrstuvwxyz"
theorem letters_list : letters.cps.toList = (List.range 26).map (· + 97) := by decide +kernel
def isLetter (c : Nat) : Bool := decide (97 ≤ c) && decide (c ≤ 122)
theorem mem_letters (c : Nat) : c ∈ letters.cps.toList ↔ isLetter c = true := by
  rw [letters_list, List.mem_map]
  unfold isLetter
  rw [Bool.and_eq_true, decide_eq_true_eq, decide_eq_true_eq]
  constructor
  · rintro ⟨a, h, rfl⟩
    have := List.mem_range.mp h
    omega
  · rintro ⟨h1, h2⟩
    exact ⟨c - 97, List.mem_range.mpr (by omega), by omega⟩
theorem strIn_letters (c : Nat) : strIn ⟨#[c]⟩ letters = isLetter c := by
  unfold strIn
  rw [PySem.StrLaws.found_one]
  rw [Bool.eq_iff_iff, decide_eq_true_eq]
  exact mem_letters c
def isName (x : Str) : Bool := decide (0 < x.length) && (decide (x.length ≤ 6) && x.cps.toList.all isLetter)
/-! ### loops and comprehensions by what holds between two turns -/
theorem lc_go {t : Tg} {tt : DT} {te : DE} {env : DEnv} {Q : List D → Mp → Prop} {xs : List D} (Pv : Nat → List D → Mp → Prop)
    (hs : ∀ i x acc M (K : List D → Mp → Prop), xs[i]? = some x → Pv i acc M → (∀ acc' M', Pv (i + 1) acc' M' → K acc' M') → t.bind x env fun env1 => tt env1 M fun b M1 => brn b (te env1 M1 fun y M2 => K (acc ++ [y]) M2) (K acc M1))
    (hd : ∀ acc M, Pv xs.length acc M → Q acc M) : ∀ (r : List D) (k : Nat) (acc : List D) (M : Mp), xs.drop k = r → k ≤ xs.length → Pv k acc M → dLcL0 t tt te env r acc M Q
  | [], k, acc, M, e, hk, p => by
    have : k = xs.length := by have := List.drop_eq_nil_iff.mp e; omega
    subst this
    exact hd acc M p
  | x :: r, k, acc, M, e, hk, p => by
    have hx : xs[k]? = some x := by rw [← List.head?_drop, e]; rfl
    have hr : xs.drop (k + 1) = r := by rw [← List.drop_drop, e]; rfl
    have hlt : k < xs.length := (List.getElem?_eq_some_iff.mp hx).1
    exact hs k x acc M _ hx p fun acc' M' p' => lc_go Pv hs hd r (k + 1) acc' M' hr hlt p'
theorem lc_inv {t : Tg} {tt : DT} {te : DE} {env : DEnv} {M : Mp} {Q : List D → Mp → Prop} {xs : List D} (Pv : Nat → List D → Mp → Prop) (h0 : Pv 0 [] M)
    (hs : ∀ i x acc M (K : List D → Mp → Prop), xs[i]? = some x → Pv i acc M → (∀ acc' M', Pv (i + 1) acc' M' → K acc' M') → t.bind x env fun env1 => tt env1 M fun b M1 => brn b (te env1 M1 fun y M2 => K (acc ++ [y]) M2) (K acc M1))
    (hd : ∀ acc M, Pv xs.length acc M → Q acc M) : dLcL t tt te env xs [] M Q := by
  rw [dLcL_eq]; exact lc_go Pv hs hd xs 0 [] M rfl (Nat.zero_le _) h0
/-- each element is one value, nothing changes -/
theorem lc_map {t : Tg} {tt : DT} {te : DE} {env : DEnv} {M : Mp} {Q : List D → Mp → Prop} {xs : List D} (f : D → D)
    (h : ∀ x ∈ xs, ∀ (K1 : DK) (K2 : Mp → Prop), K1 (f x) M → t.bind x env fun env1 => tt env1 M fun b M1 => brn b (te env1 M1 K1) (K2 M1)) (q : Q (xs.map f) M) : dLcL t tt te env xs [] M Q := by
  refine lc_inv (fun i acc M' => M' = M ∧ acc = (xs.take i).map f) ⟨rfl, by simp⟩ (fun i x acc M' K hx ⟨e1, e2⟩ hK => ?_) fun acc M' ⟨e1, e2⟩ => ?_
  · subst e1
    refine h x (List.mem_of_getElem? hx) _ _ (hK _ _ ⟨rfl, ?_⟩)
    rw [e2, List.take_add_one, hx]; simp
  · rw [e1, e2, List.take_length]; exact q
theorem lc_filter {t : Tg} {tt : DT} {te : DE} {env : DEnv} {M : Mp} {Q : List D → Mp → Prop} {xs : List D} (p : D → Bool) (f : D → D)
    (h : ∀ x ∈ xs, ∀ (K1 : DK) (K2 : Mp → Prop), (p x = true → K1 (f x) M) → (p x = false → K2 M) → t.bind x env fun env1 => tt env1 M fun b M1 => brn b (te env1 M1 K1) (K2 M1)) (q : Q ((xs.filter p).map f) M) : dLcL t tt te env xs [] M Q := by
  refine lc_inv (fun i acc M' => M' = M ∧ acc = ((xs.take i).filter p).map f) ⟨rfl, by simp⟩ (fun i x acc M' K hx ⟨e1, e2⟩ hK => ?_) fun acc M' ⟨e1, e2⟩ => ?_
  · subst e1
    refine h x (List.mem_of_getElem? hx) _ _ (fun hp => hK _ _ ⟨rfl, ?_⟩) fun hp => hK _ _ ⟨rfl, ?_⟩
    · rw [e2, List.take_add_one, hx]; simp [List.filter_append, hp]
    · rw [e2, List.take_add_one, hx]; simp [List.filter_append, hp]
  · rw [e1, e2, List.take_length]; exact q
theorem for_go {t : Tg} {tb : DS} {E : DEnds} {xs : List D} (Pv : Nat → DEnv → Mp → Prop)
    (hs : ∀ i x env M (K : DEnv → Mp → Prop), xs[i]? = some x → Pv i env M → (∀ env' M', Pv (i + 1) env' M' → K env' M') → t.bind x env fun env1 => tb { E with nx := K, ct := K, bk := E.nx } env1 M)
    (hd : ∀ env M, Pv xs.length env M → E.nx env M) : ∀ (r : List D) (k : Nat) (env : DEnv) (M : Mp), xs.drop k = r → k ≤ xs.length → Pv k env M → dForL0 t tb r E env M
  | [], k, env, M, e, hk, p => by
    have : k = xs.length := by have := List.drop_eq_nil_iff.mp e; omega
    subst this
    exact hd env M p
  | x :: r, k, env, M, e, hk, p => by
    have hx : xs[k]? = some x := by rw [← List.head?_drop, e]; rfl
    have hr : xs.drop (k + 1) = r := by rw [← List.drop_drop, e]; rfl
    have hlt : k < xs.length := (List.getElem?_eq_some_iff.mp hx).1
    exact hs k x env M _ hx p fun env' M' p' => for_go Pv hs hd r (k + 1) env' M' hr hlt p'
theorem for_inv {t : Tg} {tb : DS} {E : DEnds} {xs : List D} {env : DEnv} {M : Mp} (Pv : Nat → DEnv → Mp → Prop) (h0 : Pv 0 env M)
    (hs : ∀ i x env M (K : DEnv → Mp → Prop), xs[i]? = some x → Pv i env M → (∀ env' M', Pv (i + 1) env' M' → K env' M') → t.bind x env fun env1 => tb { E with nx := K, ct := K, bk := E.nx } env1 M)
    (hd : ∀ env M, Pv xs.length env M → E.nx env M) : dForL t tb xs E env M := by
  rw [dForL_eq]; exact for_go Pv hs hd xs 0 env M rfl (Nat.zero_le _) h0
theorem rng_at {lo : Int} {n i : Nat} {x : D} (h : (rng lo n)[i]? = some x) : i < n ∧ x = .int (lo + i) := by
  have hlt : i < n := by have := (List.getElem?_eq_some_iff.mp h).1; rwa [rng_length] at this
  unfold rng at h
  rw [List.getElem?_map, List.getElem?_range hlt] at h
  cases h
  exact ⟨hlt, rfl⟩
/-! ### the bag -/
abbrev mod0 : Int := 2147483563
structure Bag where
  cells : List Int
  at_ : Int
  left : Int
  seed : Int
def Bag.l (b : Bag) : List D := [.lst (b.cells.map D.int), .int b.at_, .int b.left, .int b.seed]
structure Bag.Ok (b : Bag) : Prop where
  at0 : 0 ≤ b.at_
  at1 : b.at_ ≤ b.cells.length
  left0 : 0 ≤ b.left
  seed0 : 0 ≤ b.seed
  seed1 : b.seed < 2147483563
def sp_law_bag : SpD := fun ds M Q _ => ∃ ns : List Int, ds = [.lsk (ns.map D.int)] ∧ ∀ p b, M p = none → Bag.Ok b → Q (.ref p) (mupd M p (.lst b.l))
def t_law_bag_1 : DS := (dRet (dLstM (dCons (dUn rListD (dSl (dVar 0) dNoPart (dPart (dC (.int 63))))) (dCons (dC (.int 0)) (dCons (dC (.int 0)) (dCons (dVar 1) dNil))))))
def t_law_bag : DS := (dSeq (dSet 1 (dC (.int 9450)))
    (dSeq (dFor (iLst (dSl (dVar 0) dNoPart (dPart (dC (.int 63))))) (.name 2) (dSet 1 (dBin rModI (dBin rAddD (dBin rAddD (dBin rMulI (dVar 1) (dC (.int 40014))) (dBin rModI (dVar 2) (dC (.int 2147483563)))) (dC (.int 13))) (dC (.int 2147483563)))))
    t_law_bag_1))
theorem cut_map {α β : Type} (f : α → β) (xs : List α) (lo hi : Option Int) : cut (xs.map f) lo hi = (cut xs lo hi).map f := by
  unfold cut; simp [List.map_drop, List.map_take]
theorem r_law_bag (ds : List D) (M : Mp) (Q : DK) (E : DX) (hl : ds.length = 1) (h : sp_law_bag ds M Q E) : t_law_bag { nx := fun _ M' => Q .non M', rt := Q } (startD ["_law_script", "_law_salt", "_law_cell"] ds) M := by
  obtain ⟨ns, rfl, q⟩ := h
  walk_at "w"
  rw [cut_map]
  refine for_inv (fun i env M' => M' = M ∧ ∃ (salt : Int) (c : Option D), env = [some (.lsk (ns.map D.int)), some (.int salt), c] ∧ 0 ≤ salt ∧ salt < 2147483563) ⟨rfl, 9450, none, rfl, by omega, by omega⟩ (fun i x env M' K hx ⟨e, salt, c, he, h0, h1⟩ hK => ?_) fun env M' ⟨e, salt, c, he, h0, h1⟩ => ?_
  · subst e he
    have hm := List.mem_of_getElem? hx
    obtain ⟨z, _, rfl⟩ := List.mem_map.mp hm
    walk_at "w"
    refine ⟨.inl (by omega), by omega, by omega, hK _ _ ⟨rfl, _, _, rfl, by omega, by omega⟩⟩
  · subst e he
    walk_at "w"
    intro p hp
    rw [cut_map]
    exact q p ⟨cut ns none (some 63), 0, 0, salt⟩ hp ⟨by show (0 : Int) ≤ 0; omega, by show (0 : Int) ≤ _; omega, by show (0 : Int) ≤ 0; omega, h0, h1⟩
theorem atI_0 {α : Type} {x : α} {xs : List α} : atI (x :: xs) 0 = some x := by
  unfold atI ixN; simp
theorem atI_of {α : Type} {xs : List α} {i : Nat} {x : α} (h : xs[i]? = some x) : atI xs (i : Int) = some x := atI_nat h
theorem atI_1 {α : Type} {x y : α} {xs : List α} : atI (x :: y :: xs) 1 = some y := atI_nat (j := 1) rfl
theorem atI_2 {α : Type} {x y z : α} {xs : List α} : atI (x :: y :: z :: xs) 2 = some z := atI_nat (j := 2) rfl
theorem atI_3 {α : Type} {x y z u : α} {xs : List α} : atI (x :: y :: z :: u :: xs) 3 = some u := atI_nat (j := 3) rfl
theorem atI_in {α : Type} {xs : List α} {i : Int} (h0 : 0 ≤ i) (h1 : i < xs.length) : ∃ x, atI xs i = some x ∧ x ∈ xs := by
  obtain ⟨j, rfl⟩ := Int.eq_ofNat_of_zero_le h0
  have hj : j < xs.length := by omega
  exact ⟨xs[j], atI_nat (List.getElem?_eq_getElem hj), List.getElem_mem hj⟩
def sp_law_pull : SpD := fun ds M Q _ => ∃ p b n, ds = [.ref p, .int n] ∧ M p = some (.lst (Bag.l b)) ∧ b.Ok ∧ 0 < n ∧ n < 1073741824 ∧ ∀ r b', Bag.Ok b' → 0 ≤ r → r < n → Q (.int r) (mupd M p (.lst b'.l))
def t_law_pull_1 : DS := (dSeq (dSet 2 (dBin rIxD (dVar 0) (dC (.int 3))))
    (dSeq (dSetIx (dBin rModI (dBin rAddD (dBin rAddD (dBin rMulI (dBin rMulI (dVar 2) (dVar 2)) (dC (.int 3))) (dBin rMulI (dVar 2) (dC (.int 16807)))) (dC (.int 1013904223))) (dC (.int 2147483563))) (dVar 0) (dC (.int 3)))
    (dRet (dBin rModI (dBin rAddD (dBin rDivI (dBin rIxD (dVar 0) (dC (.int 3))) (dC (.int 61))) (dBin rMulI (dBin rModI (dBin rIxD (dVar 0) (dC (.int 3))) (dC (.int 8191))) (dC (.int 17)))) (dVar 1)))))
def t_law_pull_2 : DS := (dSeq (dIfS (dTest (dBin rGtI (dBin rIxD (dVar 0) (dC (.int 2))) (dC (.int 0)))) (dSeq (dSet 4 (dBin rModI (dBin rIxD (dVar 0) (dC (.int 2))) (dVar 1)))
    (dSeq (dSetIx (dBin rDivI (dBin rIxD (dVar 0) (dC (.int 2))) (dVar 1)) (dVar 0) (dC (.int 2)))
    (dRet (dVar 4)))) dNext)
    t_law_pull_1)
def t_law_pull : DS := (dSeq (dIfS (dAnd (dTest (dBin (rEqDD id) (dBin rIxD (dVar 0) (dC (.int 2))) (dC (.int 0)))) (dTest (dBin rLtI (dBin rIxD (dVar 0) (dC (.int 1))) (dUn rLenD (dBin rIxD (dVar 0) (dC (.int 0))))))) (dSeq (dSet 3 (dBin rIxD (dBin rIxD (dVar 0) (dC (.int 0))) (dBin rIxD (dVar 0) (dC (.int 1)))))
    (dSeq (dSetIx (dBin rAddD (dBin rIxD (dVar 0) (dC (.int 1))) (dC (.int 1))) (dVar 0) (dC (.int 1)))
    (dIfS (dTest (dBin rGeI (dVar 3) (dBin rPowI (dC (.int 10)) (dC (.int 18))))) (dSetIx (dBin rSubI (dVar 3) (dBin rPowI (dC (.int 10)) (dC (.int 18)))) (dVar 0) (dC (.int 2))) (dSetIx (dBin rModI (dBin rAddD (dBin rAddD (dBin rMulI (dBin rIxD (dVar 0) (dC (.int 3))) (dC (.int 48271))) (dBin rMulI (dBin rModI (dVar 3) (dC (.int 2147483563))) (dC (.int 69621)))) (dC (.int 7))) (dC (.int 2147483563))) (dVar 0) (dC (.int 3)))))) dNext)
    t_law_pull_2)
theorem eqD_int {i j : Int} : eqD (.int i) (.int j) = (i == j) := rfl
theorem eqD_bl {i j : Bool} : eqD (.bl i) (.bl j) = (i == j) := rfl
theorem eqD_str {i j : Str} : eqD (.str i) (.str j) = (i == j) := rfl
theorem r_pull1 (p : Addr) (b : Bag) (n : Int) (M : Mp) (Q : DK) (nx : DEnv → Mp → Prop) (c : Option D) (hM : M p = some (.lst b.l)) (hb : b.Ok) (h0 : 0 < n) (h1 : n < 1073741824)
    (q : ∀ r b', Bag.Ok b' → 0 ≤ r → r < n → Q (.int r) (mupd M p (.lst b'.l))) : t_law_pull_1 { nx := nx, rt := Q } [some (.ref p), some (.int n), none, c, none] M := by
  have s0 := hb.seed0
  have s1 := hb.seed1
  walk_at "m"
  refine ⟨.inl (by omega), ?_⟩
  walk_at "w"
  refine ⟨.inr (by omega), ?_⟩
  walk_at "w"
  refine ⟨.inl (by omega), ?_⟩
  walk_at "w"
  refine ⟨by omega, ?_⟩
  walk_at "w"
  rw [hM]
  walk_at "n"
  refine ⟨by show (0 : Int) < 61 ∧ (61 : Int) < 1073741824; omega, ?_⟩
  walk_at "n"
  refine ⟨by show (0 : Int) < 8191; omega, ?_⟩
  walk_at "w"
  refine ⟨.inr (by omega), ?_⟩
  walk_at "w"
  refine ⟨h0, ?_⟩
  exact q _ { b with seed := (b.seed * b.seed * 3 + b.seed * 16807 + 1013904223) % 2147483563 } ⟨hb.at0, hb.at1, hb.left0, Int.emod_nonneg _ (by decide), Int.emod_lt_of_pos _ (by decide)⟩ (Int.emod_nonneg _ (by omega)) (Int.emod_lt_of_pos _ h0)
theorem r_pull2 (p : Addr) (b : Bag) (n : Int) (M : Mp) (Q : DK) (nx : DEnv → Mp → Prop) (c : Option D) (hM : M p = some (.lst b.l)) (hb : b.Ok) (h0 : 0 < n) (h1 : n < 1073741824)
    (q : ∀ r b', Bag.Ok b' → 0 ≤ r → r < n → Q (.int r) (mupd M p (.lst b'.l))) : t_law_pull_2 { nx := nx, rt := Q } [some (.ref p), some (.int n), none, c, none] M := by
  walk_at "m"
  refine brn_by (fun hc => ?_) fun hc => r_pull1 p b n M Q nx c hM hb h0 h1 q
  have hl : 0 < b.left := of_decide_eq_true hc
  walk_at "m"
  refine ⟨h0, ?_⟩
  walk_at "m"
  refine ⟨⟨h0, h1⟩, ?_⟩
  walk_at "w"
  rw [hM]
  walk_at "w"
  exact q _ { b with left := b.left / n } ⟨hb.at0, hb.at1, Int.ediv_nonneg hb.left0 (by omega), hb.seed0, hb.seed1⟩ (Int.emod_nonneg _ (by omega)) (Int.emod_lt_of_pos _ h0)
theorem r_law_pull (ds : List D) (M : Mp) (Q : DK) (E : DX) (hl : ds.length = 2) (h : sp_law_pull ds M Q E) : t_law_pull { nx := fun _ M' => Q .non M', rt := Q } (startD ["_law_bag_here", "_law_many", "_law_seed", "_law_cell", "_law_got"] ds) M := by
  obtain ⟨p, b, n, rfl, hM, hb, h0, h1, q⟩ := h
  walk_at "m"
  refine ⟨⟨rfl, rfl⟩, ?_⟩
  walk_at "w"
  refine brn_by (fun hc => ?_) fun hc => r_pull2 p b n M Q _ none hM hb h0 h1 q
  walk_at "m"
  rw [resD_ref hM]
  walk_at "w"
  refine brn_by (fun hc2 => ?_) fun hc2 => r_pull2 p b n M Q _ none hM hb h0 h1 q
  walk_at "m"
  have hlt : b.at_ < b.cells.length := by
    have := of_decide_eq_true hc2
    simpa using this
  rw [resD_ref hM]
  walk_at "w"
  obtain ⟨x, hx, hm⟩ := atI_in (xs := b.cells.map D.int) hb.at0 (by simpa using hlt)
  obtain ⟨z, _, rfl⟩ := List.mem_map.mp hm
  rw [hx]
  walk_at "m"
  rw [hM]
  walk_at "w"
  have hb1 : Bag.Ok { b with at_ := b.at_ + 1 } := ⟨by have := hb.at0; show 0 ≤ b.at_ + 1; omega, by show b.at_ + 1 ≤ (b.cells.length : Int); omega, hb.left0, hb.seed0, hb.seed1⟩
  refine ⟨⟨by decide, by decide, by decide⟩, ?_⟩
  walk_at "w"
  refine brn_by (fun hc3 => ?_) fun hc3 => ?_
  · walk_at "w"
    refine ⟨⟨by decide, by decide, by decide⟩, ?_⟩
    walk_at "w"
    rw [mupd_same]
    have hz : (10 : Int) ^ 18 ≤ z := of_decide_eq_true hc3
    refine r_pull2 p { b with at_ := b.at_ + 1, left := z - 10 ^ 18 } n (M := mupd (mupd M p _) p _) Q _ _ mupd_same ⟨hb1.at0, hb1.at1, by show (0 : Int) ≤ z - 10 ^ 18; omega, hb.seed0, hb.seed1⟩ h0 h1 fun r b' h1 h2 h3 => ?_
    rw [mupd_mupd, mupd_mupd]
    exact q r b' h1 h2 h3
  · walk_at "n"
    refine ⟨.inr (by omega), ?_⟩
    walk_at "w"
    refine ⟨by omega, ?_⟩
    walk_at "w"
    refine ⟨.inr (by omega), ?_⟩
    walk_at "w"
    refine ⟨by omega, ?_⟩
    walk_at "w"
    rw [mupd_same]
    refine r_pull2 p { b with at_ := b.at_ + 1, seed := (b.seed * 48271 + z % 2147483563 * 69621 + 7) % 2147483563 } n (M := mupd (mupd M p _) p _) Q _ _ mupd_same ⟨hb1.at0, hb1.at1, hb.left0, Int.emod_nonneg _ (by decide), Int.emod_lt_of_pos _ (by decide)⟩ h0 h1 fun r b' h1 h2 h3 => ?_
    rw [mupd_mupd, mupd_mupd]
    exact q r b' h1 h2 h3
/-! ### one of several things; the letters -/
def sp_law_of : SpD := fun ds M Q _ => ∃ p b d xs, ds = [.ref p, d] ∧ M p = some (.lst (Bag.l b)) ∧ b.Ok ∧ 0 < xs.length ∧ xs.length < 1000000 ∧
  ((resD M d = .lst xs ∧ d ≠ .ref p) ∨ d = .tup xs ∨ ∃ x, d = .str x ∧ xs = signs x) ∧ ∀ x b', Bag.Ok b' → x ∈ xs → Q x (mupd M p (.lst b'.l))
def sp_law_letters : SpD := fun ds M Q _ => ds = [] ∧ Q (.str letters) M
def t_law_of : DS := (dRet (dBin rIxD (dVar 1) (dCall sp_law_pull (dCons (dVar 0) (dCons (dUn rLenD (dVar 1)) dNil)))))
def t_law_letters : DS := (dRet (dC (.str "abcdefghijklmnopqrstuvwxyz")))
theorem resD_upd_ne {M : Mp} {p : Addr} {o : MO} {d : D} (h : d ≠ .ref p) : resD (mupd M p o) d = resD M d := by
  unfold resD
  split
  · rename_i q
    rw [mupd_ne (fun e => h (by rw [e]))]
  · rfl
theorem resD_pure {M : Mp} {d : D} {xs : List D} (h : d = .lst xs ∨ d = .tup xs) : resD M d = d := by
  rcases h with rfl | rfl <;> rfl
theorem atI_nn {α : Type} {xs : List α} {i : Int} (h0 : 0 ≤ i) (h1 : i < xs.length) : ∃ x, atI xs i = some x ∧ x ∈ xs := atI_in h0 h1
theorem r_law_of (ds : List D) (M : Mp) (Q : DK) (E : DX) (hl : ds.length = 2) (h : sp_law_of ds M Q E) : t_law_of { nx := fun _ M' => Q .non M', rt := Q } (startD ["_law_bag_here", "_law_things"] ds) M := by
  obtain ⟨p, b, d, xs, rfl, hM, hb, h0, h1, hd, q⟩ := h
  walk_at "w"
  rcases hd with ⟨hd, hne⟩ | rfl | ⟨x, rfl, rfl⟩
  · rw [hd]
    walk_at "w"
    refine ⟨p, b, xs.length, rfl, hM, hb, by omega, by omega, fun r b' hb' r0 r1 => ?_⟩
    walk_at "w"
    rw [resD_upd_ne hne, hd]
    walk_at "w"
    obtain ⟨x, hx, hm⟩ := atI_in r0 r1
    rw [hx]
    exact q x b' hb' hm
  · refine ⟨p, b, xs.length, rfl, hM, hb, by omega, by omega, fun r b' hb' r0 r1 => ?_⟩
    walk_at "w"
    obtain ⟨x, hx, hm⟩ := atI_in r0 r1
    rw [hx]
    exact q x b' hb' hm
  · have hl2 : (signs x).length = x.length := by unfold signs Str.length; simp
    refine ⟨p, b, x.length, rfl, hM, hb, by omega, by omega, fun r b' hb' r0 r1 => ?_⟩
    walk_at "w"
    obtain ⟨c, hx, hm⟩ := atI_in (xs := x.cps.toList) r0 (by simpa [Str.length] using r1)
    rw [hx]
    exact q (sgn c) b' hb' (List.mem_map.mpr ⟨c, hm, rfl⟩)
theorem r_law_letters (ds : List D) (M : Mp) (Q : DK) (E : DX) (hl : ds.length = 0) (h : sp_law_letters ds M Q E) : t_law_letters { nx := fun _ M' => Q .non M', rt := Q } (startD [] ds) M := by
  obtain ⟨rfl, q⟩ := h
  exact q
/-! ### likeness -/
mutual
/-- the same datum -/
def sameD : D → D → Bool
  | .non, .non => true
  | .bl a, .bl b => a == b
  | .int a, .int b => a == b
  | .str a, .str b => a == b
  | .tup a, .tup b => sameDs a b
  | .lst a, .lst b => sameDs a b
  | _, _ => false
def sameDs : List D → List D → Bool
  | [], [] => true
  | a :: as, b :: bs => sameD a b && sameDs as bs
  | _, _ => false
end
/-- promised up to the depth n -/
def sp_law_like : Nat → SpD
  | 0 => fun _ _ _ _ => False
  | n + 1 => fun ds M Q _ => ∃ d e, ds = [d, e] ∧ D.le n d = true ∧ D.le n e = true ∧ n ≤ 50 ∧ Q (.bl (sameD d e)) M
def t_law_like_1 (n : Nat) : DS := (dRet (dAndV (dBin (rEqDD id) (dUn rLenD (dVar 0)) (dUn rLenD (dVar 1))) (dUn rAllD (dLc (iZipD (dCons (dVar 0) (dCons (dVar 1) dNil))) (.tup [(.name 2), (.name 3)]) dYes (dCall (sp_law_like n) (dCons (dVar 2) (dCons (dVar 3) dNil))) [2, 3]))))
def t_law_like_2 (n : Nat) : DS := (dRet (dAndV (dBin (rEqDD id) (dIsi .str (dVar 0)) (dIsi .str (dVar 1))) (dBin (rEqDD id) (dVar 0) (dVar 1))))
def t_law_like_3 (n : Nat) : DS := (dSeq (dIfS (dOr (dTest (dBin (rEqDD not) (dIsi .bool (dVar 0)) (dIsi .bool (dVar 1)))) (dTest (dBin (rEqDD not) (dIsi .int (dVar 0)) (dIsi .int (dVar 1))))) (dRet (dC (.bl false))) dNext)
    (t_law_like_2 n))
def t_law_like_4 (n : Nat) : DS := (dSeq (dIfS (dOr (dTest (dBin (rIsD id) (dVar 0) (dC .non))) (dTest (dBin (rIsD id) (dVar 1) (dC .non)))) (dRet (dAndV (dBin (rIsD id) (dVar 0) (dC .non)) (dBin (rIsD id) (dVar 1) (dC .non)))) dNext)
    (t_law_like_3 n))
def t_law_like (n : Nat) : DS := (dSeq (dIfS (dTru (dIsi2 .list .tuple (dVar 1))) (dSeq (dIfS (dOr (dTest (dBin (rEqDD not) (dIsi .list (dVar 0)) (dIsi .list (dVar 1)))) (dTest (dBin (rEqDD not) (dIsi .tuple (dVar 0)) (dIsi .tuple (dVar 1))))) (dRet (dC (.bl false))) dNext)
    (t_law_like_1 n)) dNext)
    (t_law_like_4 n))
mutual
theorem le_mono : ∀ {n m : Nat} {d : D}, n ≤ m → D.le n d = true → D.le m d = true
  | n, m, .non, _, _ => by cases m <;> rfl
  | n, m, .bl _, _, _ => by cases m <;> rfl
  | n, m, .int _, _, _ => by cases m <;> rfl
  | n, m, .str _, _, _ => by cases m <;> rfl
  | 0, m, .tup _, _, h => by simp [D.le] at h
  | 0, m, .lst _, _, h => by simp [D.le] at h
  | n + 1, 0, .tup _, h, _ => by omega
  | n + 1, 0, .lst _, h, _ => by omega
  | n + 1, m + 1, .tup ds, h, q => by simp only [D.le] at q ⊢; exact les_mono (by omega) q
  | n + 1, m + 1, .lst ds, h, q => by simp only [D.le] at q ⊢; exact les_mono (by omega) q
  | n, m, .ref _, _, h => by cases n <;> simp [D.le] at h
  | n, m, .ty _, _, h => by cases n <;> simp [D.le] at h
  | n, m, .lsk _, _, h => by cases n <;> simp [D.le] at h
  | n, m, .obj _ _, _, h => by cases n <;> simp [D.le] at h
  | n, m, .dkd _ _ _, _, h => by cases n <;> simp [D.le] at h
theorem les_mono : ∀ {n m : Nat} {ds : List D}, n ≤ m → D.les n ds = true → D.les m ds = true
  | n, m, [], _, _ => by cases m <;> rfl
  | n, m, d :: ds, h, q => by
    simp only [D.les, Bool.and_eq_true] at q ⊢
    exact ⟨le_mono h q.1, les_mono h q.2⟩
end
theorem les_at : ∀ {n : Nat} {ds : List D}, D.les n ds = true → ∀ d ∈ ds, D.le n d = true
  | n, d :: ds, h, g, hg => by
    simp only [D.les, Bool.and_eq_true] at h
    rcases List.mem_cons.mp hg with rfl | hg
    · exact h.1
    · exact les_at h.2 g hg
theorem les_of : ∀ {n : Nat} {ds : List D}, (∀ d ∈ ds, D.le n d = true) → D.les n ds = true
  | n, [], _ => rfl
  | n, d :: ds, h => by
    simp only [D.les, Bool.and_eq_true]
    exact ⟨h d List.mem_cons_self, les_of fun g hg => h g (List.mem_cons_of_mem _ hg)⟩
theorem same_zip : ∀ {a b : List D}, a.length = b.length → ((List.zipWith (fun x y => D.tup [x, y]) a b).map fun z => match z with
    | .tup [x, y] => sameD x y
    | _ => false).all id = sameDs a b
  | [], [], _ => rfl
  | x :: a, y :: b, h => by
    have := same_zip (a := a) (b := b) (by simpa using h)
    simp only [List.zipWith_cons_cons, List.map_cons, List.all_cons, id_eq, sameDs, ← this]
  | [], _ :: _, h => by simp at h
  | _ :: _, [], h => by simp at h
theorem sameDs_len : ∀ {a b : List D}, a.length ≠ b.length → sameDs a b = false
  | [], [], h => absurd rfl h
  | [], _ :: _, _ => rfl
  | _ :: _, [], _ => rfl
  | x :: a, y :: b, h => by
    simp only [sameDs]
    rw [sameDs_len (a := a) (b := b) (by simpa using h), Bool.and_false]
def pairSame (z : D) : Bool := match z with
  | .tup [x, y] => sameD x y
  | _ => false
theorem r_like_seq (n : Nat) (a b : List D) (d e : D) (M : Mp) (Q : DK) (nx : DEnv → Mp → Prop) (hn : n ≤ 49) (la : D.les n a = true) (lb : D.les n b = true) (hd : (d = .lst a ∧ e = .lst b) ∨ (d = .tup a ∧ e = .tup b))
    (q : Q (.bl (sameDs a b)) M) : t_law_like_1 (n + 1) { nx := nx, rt := Q } [some d, some e, none, none] M := by
  have key : ∀ zs, zs = List.zipWith (fun x y => D.tup [x, y]) a b → a.length = b.length → dLcL (.tup [(.name 2), (.name 3)]) dYes (dCall (sp_law_like (n + 1)) (dCons (dVar 2) (dCons (dVar 3) dNil))) (wipeD [some d, some e, none, none] [2, 3]) zs [] M (fun ds M2 => rAllD (.lst ds) M2 Q) := by
    rintro zs rfl hl
    refine lc_map (fun z => .bl (pairSame z)) (fun z hz K1 K2 hK => ?_) ?_
    · obtain ⟨i, hi⟩ := List.getElem?_of_mem hz
      obtain ⟨x, y, h1, h2, rfl⟩ := zip_at hi
      walk_at "w"
      exact ⟨x, y, rfl, les_at la x (List.mem_of_getElem? h1), les_at lb y (List.mem_of_getElem? h2), by omega, hK⟩
    · have e1 : (List.zipWith (fun x y => D.tup [x, y]) a b).map (fun z => D.bl (pairSame z)) = ((List.zipWith (fun x y => D.tup [x, y]) a b).map pairSame).map D.bl := by rw [List.map_map]; rfl
      rw [e1]
      walk_at "w"
      rw [asBls_map]
      have e2 : ((List.zipWith (fun x y => D.tup [x, y]) a b).map pairSame).all id = sameDs a b := same_zip hl
      show Q (.bl (((List.zipWith (fun x y => D.tup [x, y]) a b).map pairSame).all id)) M
      rw [e2]
      exact q
  rcases hd with ⟨rfl, rfl⟩ | ⟨rfl, rfl⟩
  all_goals
    walk_at "w"
    refine ⟨⟨rfl, rfl⟩, ?_⟩
    walk_at "w"
    refine brn_by (fun hc => ?_) fun hc => ?_
    · have hl : a.length = b.length := by
        have h1 : ((a.length : Int) == (b.length : Int)) = true := hc
        exact Int.ofNat.inj (eq_of_beq h1)
      walk_at "w"
      exact key _ rfl hl
    · have hl : a.length ≠ b.length := by
        intro h
        have h1 : ((a.length : Int) == (b.length : Int)) = false := hc
        simp [h] at h1
      rw [sameDs_len hl] at q
      have h1 : ((a.length : Int) == (b.length : Int)) = false := hc
      show Q (.bl (id (eqD (.int a.length) (.int b.length)))) M
      rw [eqD_int, h1]
      exact q
theorem r_law_like (n : Nat) (ds : List D) (M : Mp) (Q : DK) (E : DX) (hl : ds.length = 2) (h : sp_law_like (n + 1) ds M Q E) : t_law_like n { nx := fun _ M' => Q .non M', rt := Q } (startD ["_law_found", "_law_due", "_law_one", "_law_other"] ds) M := by
  obtain ⟨d, e, rfl, ld, le, hn, q⟩ := h
  cases e <;> cases d <;> first
    | (exfalso; cases n <;> simp [D.le] at ld; done)
    | (exfalso; cases n <;> simp [D.le] at le; done)
    | skip
  all_goals
    walk_at "w"
    try refine ⟨⟨rfl, rfl⟩, ?_⟩
    try walk_at "w"
    try refine ⟨⟨rfl, rfl⟩, ?_⟩
    try walk_at "w"
    first
      | exact q
      | (refine ⟨⟨rfl, rfl⟩, ?_⟩; walk_at "w"; exact q)
      | (refine ⟨⟨rfl, rfl⟩, ?_⟩; walk_at "w"; refine ⟨⟨rfl, rfl⟩, ?_⟩; walk_at "w"; exact q)
      | (refine ⟨⟨rfl, rfl⟩, ?_⟩; walk_at "w"; refine ⟨⟨rfl, rfl⟩, ?_⟩; walk_at "w"; refine ⟨⟨rfl, rfl⟩, ?_⟩; walk_at "w"; exact q)
      | (refine ⟨⟨by cases n <;> rfl, by cases n <;> rfl⟩, ?_⟩; exact q)
      | (cases n with
        | zero => simp [D.le] at ld
        | succ m => exact r_like_seq m _ _ _ _ M Q _ (by omega) (by simpa [D.le] using ld) (by simpa [D.le] using le) (.inr ⟨rfl, rfl⟩) q)
      | (cases n with
        | zero => simp [D.le] at ld
        | succ m => exact r_like_seq m _ _ _ _ M Q _ (by omega) (by simpa [D.le] using ld) (by simpa [D.le] using le) (.inl ⟨rfl, rfl⟩) q)
theorem z_law_like (ds : List D) (M : Mp) (Q : DK) (E : DX) (h : sp_law_like 0 ds M Q E) : False := h
end L3
set_option Elab.async false
set_option linter.all false
set_option maxRecDepth 100000
set_option maxHeartbeats 1000000
/-! Readings of shared helpers, second part: names, signs, writers. -/
namespace L3
open PySem PySem.Spec PyProof.Rows L2
local macro_rules | `(tactic| walk_at "w") => `(tactic| conv => whnf)
/-- a while loop by a measure -/
theorem while_go {tc : DT} {tb : DS} {E : DEnds} (P : Nat → DEnv → Mp → Prop)
    (hs : ∀ n env M (K : DEnv → Mp → Prop), P n env M → (∀ m env' M', m < n → P m env' M' → K env' M') → tc env M fun b M1 => brn b (tb { E with nx := K, ct := K, bk := E.nx } env M1) (E.nx env M1)) :
    ∀ k n env M, n ≤ k → P n env M → dWhileN0 tc tb (k + 1) E env M
  | 0, n, env, M, hk, p => hs n env M _ p fun m env' M' hm _ => absurd hm (by omega)
  | k + 1, n, env, M, hk, p => hs n env M _ p fun m env' M' hm p' => while_go P hs k m env' M' (by omega) p'
theorem while_meas {tc : DT} {tb : DS} {E : DEnds} {env : DEnv} {M : Mp} (P : Nat → DEnv → Mp → Prop) (n : Nat) (h0 : P n env M)
    (hs : ∀ n env M (K : DEnv → Mp → Prop), P n env M → (∀ m env' M', m < n → P m env' M' → K env' M') → tc env M fun b M1 => brn b (tb { E with nx := K, ct := K, bk := E.nx } env M1) (E.nx env M1)) : dWhile tc tb E env M :=
  ⟨n + 1, by rw [dWhileN_eq]; exact while_go P hs n n env M (Nat.le_refl _) h0⟩
theorem mupd_comm {M : Mp} {a b : Addr} {x y : MO} (h : a ≠ b) : mupd (mupd M a x) b y = mupd (mupd M b y) a x := by
  funext c
  simp only [mupd]
  by_cases h1 : c = b
  · subst h1; rw [if_pos rfl, if_neg (Ne.symm h), if_pos rfl]
  · rw [if_neg h1, if_neg h1]
/-! ### texts cut -/
theorem cutS_to (x : Str) (k : Nat) : (cutS x none (some (k : Int))).cps.toList = x.cps.toList.take k := by
  unfold cutS
  rw [HT.sIx_none, HT.sIx_nat, List.drop_zero, Nat.sub_zero]
  show x.cps.toList.take _ = _
  have : x.length = x.cps.toList.length := by simp [Str.length]
  rw [this]
  by_cases h : k ≤ x.cps.toList.length
  · rw [Nat.min_eq_left h]
  · rw [Nat.min_eq_right (by omega), List.take_length, List.take_of_length_le (by omega)]
theorem cutS_from (x : Str) (k : Nat) : (cutS x (some (k : Int)) none).cps.toList = x.cps.toList.drop k := by
  unfold cutS
  rw [HT.sIx_none, HT.sIx_nat]
  have hl : x.length = x.cps.toList.length := by simp [Str.length]
  show ((x.cps.toList.drop _).take _) = _
  rw [hl]
  by_cases h : k ≤ x.cps.toList.length
  · rw [Nat.min_eq_left h, List.take_of_length_le (by rw [List.length_drop]; omega)]
  · rw [Nat.min_eq_right (by omega), List.drop_length, List.drop_eq_nil_of_le (by omega)]; simp
theorem app_list (x y : Str) : (x ++ y).cps.toList = x.cps.toList ++ y.cps.toList := by
  have e : (x ++ y).cps = x.cps ++ y.cps := rfl
  rw [e, Array.toList_append]
theorem len_list (x : Str) : x.length = x.cps.toList.length := by simp [Str.length]
theorem join_ones : ∀ {ys : List Str}, (∀ y ∈ ys, ∃ c, y = ⟨#[c]⟩ ∧ isLetter c = true) → (Txt.join (Str.ofString "") ys).cps.toList.length = ys.length ∧ (Txt.join (Str.ofString "") ys).cps.toList.all isLetter = true := by
  intro ys h
  have e : (Txt.join (Str.ofString "") ys).cps.toList = TL.joinL (Str.ofString "").cps.toList (ys.map fun y => y.cps.toList) := by
    rw [TL.join_eq]; exact TL.tl_join _ ys
  have e0 : (Str.ofString "").cps.toList = [] := by decide +kernel
  rw [e, e0]
  have key : ∀ zs : List (List Nat), (∀ z ∈ zs, ∃ c, z = [c] ∧ isLetter c = true) → (TL.joinL [] zs).length = zs.length ∧ (TL.joinL [] zs).all isLetter = true := by
    intro zs
    induction zs with
    | nil => intro _; exact ⟨rfl, rfl⟩
    | cons z zs ih =>
      intro hz
      obtain ⟨c, rfl, hc⟩ := hz z List.mem_cons_self
      have ih' := ih fun y hy => hz y (List.mem_cons_of_mem _ hy)
      cases zs with
      | nil => exact ⟨rfl, by simp [TL.joinL, hc]⟩
      | cons y ys =>
        have ej : TL.joinL [] ([c] :: y :: ys) = c :: TL.joinL [] (y :: ys) := by simp [TL.joinL]
        rw [ej]
        exact ⟨by rw [List.length_cons, ih'.1]; rfl, by rw [List.all_cons, hc, ih'.2]; rfl⟩
  have := key (ys.map fun y => y.cps.toList) fun z hz => by
    obtain ⟨y, hy, rfl⟩ := List.mem_map.mp hz
    obtain ⟨c, rfl, hc⟩ := h y hy
    exact ⟨c, rfl, hc⟩
  rw [List.length_map] at this
  exact this
theorem sum_ones {ys : List Str} (h : ∀ y ∈ ys, y.length = 1) : (ys.map (·.length)).sum = ys.length := by
  induction ys with
  | nil => rfl
  | cons y ys ih =>
    rw [List.map_cons, List.sum_cons, h y List.mem_cons_self, ih fun z hz => h z (List.mem_cons_of_mem _ hz), List.length_cons]
    omega
theorem letter_at {i : Int} (h0 : 0 ≤ i) (h1 : i < 26) : atI letters.cps.toList i = some (97 + i.toNat) := by
  obtain ⟨j, rfl⟩ := Int.eq_ofNat_of_zero_le h0
  rw [letters_list]
  have hj : j < 26 := by omega
  refine atI_nat (j := j) ?_
  rw [List.getElem?_map, List.getElem?_range hj]
  simp [Nat.add_comm]
/-! ### names -/
/-- a drawn name: letters, one to six, a given one at a given place -/
structure NmAt (a c : Nat) (x : Str) : Prop where
  pos : 0 < x.length
  few : x.length ≤ 6
  let_ : x.cps.toList.all isLetter = true
  at_ : x.cps.toList[a]? = some c
theorem NmAt.name {a c : Nat} {x : Str} (h : NmAt a c x) : isName x = true := by
  unfold isName
  rw [decide_eq_true h.pos, decide_eq_true h.few, h.let_]; rfl
/-- the letter of a step -/
def stepL (start step : Int) (k : Nat) : Nat := 97 + ((start + step * k) % 26).toNat
theorem stepL_inj {start step : Int} {i j : Nat} (hs : step = 1 ∨ step = 3 ∨ step = 5 ∨ step = 7) (hi : i < 26) (hj : j < 26) (h : stepL start step i = stepL start step j) : i = j := by
  unfold stepL at h
  have h1 := Int.emod_nonneg (start + step * i) (show (26 : Int) ≠ 0 by decide)
  have h2 := Int.emod_nonneg (start + step * j) (show (26 : Int) ≠ 0 by decide)
  have h3 : (start + step * i) % 26 = (start + step * j) % 26 := by omega
  rcases hs with rfl | rfl | rfl | rfl <;> omega
def sp_law_names : SpD := fun ds M Q _ => ∃ p b n, ds = [.ref p, .int n] ∧ M p = some (.lst (Bag.l b)) ∧ b.Ok ∧ 0 ≤ n ∧ n ≤ 26 ∧
  ∀ (xs : List Str) b', Bag.Ok b' → (xs.length : Int) = n → (∀ x ∈ xs, isName x = true) → xs.Nodup → Q (.lst (xs.map D.str)) (mupd M p (.lst b'.l))
def t_law_names_1 : DS := (dFrzN 9 (dRet (dVar 9)))
def t_law_names : DS := (dSeq (dAsg (dTup (dCons (dBin rAddD (dC (.int 1)) (dCall sp_law_pull (dCons (dVar 0) (dCons (dC (.int 6)) dNil)))) (dCons (dCall sp_law_letters dNil) dNil))) (.tup [(.name 4), (.name 5)]))
    (dSeq (dPar 6 7 (dCons (dCall sp_law_pull (dCons (dVar 0) (dCons (dVar 4) dNil))) (dCons (dCall sp_law_pull (dCons (dVar 0) (dCons (dC (.int 26)) dNil))) dNil)))
    (dSeq (dSet 2 (dCall sp_law_of (dCons (dVar 0) (dCons (dLst (dCons (dC (.int 1)) (dCons (dC (.int 3)) (dCons (dC (.int 5)) (dCons (dC (.int 7)) dNil))))) dNil))))
    (dSeq (dPar 8 9 (dCons (dJoin (dC (.str "")) (dLc (iRange1 (dCons (dVar 4) dNil)) (.name 3) dYes (dCall sp_law_of (dCons (dVar 0) (dCons (dVar 5) dNil))) [3])) (dCons (dLstM dNil) dNil)))
    (dSeq (dFor (iRange1 (dCons (dVar 1) dNil)) (.name 3) (dSeq (dSet 10 (dBin rIxD (dVar 5) (dBin rModI (dBin rAddD (dVar 7) (dBin rMulI (dVar 2) (dVar 3))) (dC (.int 26)))))
    (dSeq (dSet 11 (dBin rAddD (dBin rAddD (dSl (dVar 8) dNoPart (dPart (dVar 6))) (dVar 10)) (dSl (dVar 8) (dPart (dBin rAddD (dVar 6) (dC (.int 1)))) dNoPart)))
    (dDrop (dAppend (dVar 9) (dIf (dTest (dBin (rEqDD id) (dCall sp_law_pull (dCons (dVar 0) (dCons (dC (.int 3)) dNil))) (dC (.int 0)))) (dSl (dVar 11) dNoPart (dPart (dBin rMaxI (dBin rAddD (dVar 6) (dC (.int 1))) (dBin rSubI (dVar 4) (dVar 3))))) (dVar 11)))))))
    t_law_names_1)))))
theorem r_law_names (ds : List D) (M : Mp) (Q : DK) (E : DX) (hl : ds.length = 2) (h : sp_law_names ds M Q E) : t_law_names { nx := fun _ M' => Q .non M', rt := Q } (startD ["_law_bag_here", "_law_many", "_law_step", "_law_k", "_law_size", "_law_letters_here", "_law_at", "_law_start", "_law_base", "_law_found", "_law_sign", "_law_name"] ds) M := by
  obtain ⟨p, b, n, rfl, hM, hb, h0, h1, q⟩ := h
  walk_at "w"
  refine ⟨p, b, 6, rfl, hM, hb, by decide, by decide, fun r1 b1 hb1 r10 r11 => ?_⟩
  walk_at "w"
  refine ⟨rfl, ?_⟩
  walk_at "w"
  refine ⟨p, b1, 1 + r1, rfl, mupd_same, hb1, by omega, by omega, fun r2 b2 hb2 r20 r21 => ?_⟩
  rw [mupd_mupd]
  walk_at "w"
  refine ⟨p, b2, 26, rfl, mupd_same, hb2, by decide, by decide, fun r3 b3 hb3 r30 r31 => ?_⟩
  rw [mupd_mupd]
  walk_at "w"
  refine ⟨p, b3, .lst [.int 1, .int 3, .int 5, .int 7], [.int 1, .int 3, .int 5, .int 7], rfl, mupd_same, hb3, by decide, by decide, .inl ⟨rfl, fun e => by cases e⟩, fun y b4 hb4 hy => ?_⟩
  rw [mupd_mupd]
  obtain ⟨st, rfl, hst⟩ : ∃ st : Int, y = .int st ∧ (st = 1 ∨ st = 3 ∨ st = 5 ∨ st = 7) := by
    simp only [List.mem_cons, List.not_mem_nil, or_false] at hy
    rcases hy with rfl | rfl | rfl | rfl <;> exact ⟨_, rfl, by omega⟩
  walk_at "w"
  refine ⟨⟨by omega, by omega⟩, ?_⟩
  walk_at "w"
  refine lc_inv (fun i acc M' => ∃ b' ys, Bag.Ok b' ∧ M' = mupd M p (.lst b'.l) ∧ acc = ys.map D.str ∧ ys.length = i ∧ ∀ y ∈ ys, ∃ c, y = ⟨#[c]⟩ ∧ isLetter c = true) ⟨b4, [], hb4, rfl, rfl, rfl, fun y hy => by cases hy⟩ (fun i x acc M' K hx ⟨b', ys, hb', e1, e2, e3, e4⟩ hK => ?_) fun acc M' ⟨b', ys, hb', e1, e2, e3, e4⟩ => ?_
  · subst e1 e2
    walk_at "w"
    refine ⟨p, b', .str letters, signs letters, rfl, mupd_same, hb', by decide +kernel, by decide +kernel, .inr (.inr ⟨letters, rfl, rfl⟩), fun x b2 hb2 hx => ?_⟩
    obtain ⟨c, hc, rfl⟩ := List.mem_map.mp hx
    have hc' := (mem_letters c).mp hc
    refine hK _ _ ⟨b2, ys ++ [⟨#[c]⟩], hb2, by rw [mupd_mupd], by simp [sgn], by simp [e3], fun y hy => ?_⟩
    rcases List.mem_append.mp hy with hy | hy
    · exact e4 y hy
    · rw [List.mem_singleton.mp hy]; exact ⟨c, rfl, hc'⟩
  · subst e1 e2
    rw [rng_length] at e3
    walk_at "w"
    rw [asStrs_map]
    walk_at "w"
    have hj := join_ones e4
    have hs : (ys.map (·.length)).sum = ys.length := sum_ones fun y hy => by obtain ⟨c, rfl, _⟩ := e4 y hy; rfl
    have h00 : (Str.ofString "").length = 0 := by decide +kernel
    refine ⟨by rw [hs, h00]; omega, ?_⟩
    generalize Txt.join (Str.ofString "") ys = base at hj ⊢
    obtain ⟨bl, bLet⟩ := hj
    have hbl : (base.cps.toList.length : Int) = 1 + r1 := by rw [bl, e3]; omega
    walk_at "w"
    intro qa hqa
    have hpq : qa ≠ p := fun e => by rw [e, mupd_same] at hqa; cases hqa
    walk_at "w"
    refine ⟨⟨by omega, by omega⟩, ?_⟩
    walk_at "w"
    obtain ⟨at_, rfl⟩ := Int.eq_ofNat_of_zero_le r20
    refine for_inv (fun i env M' => ∃ k s10 s11 b', ∃ xs : List Str, env = [some (.ref p), some (.int n), some (.int st), k, some (.int (1 + r1)), some (.str letters), some (.int (at_ : Int)), some (.int r3), some (.str base), some (.ref qa), s10, s11] ∧ Bag.Ok b' ∧ M' = mupd (mupd M p (.lst b'.l)) qa (.lst (xs.map D.str)) ∧ xs.length = i ∧ ∀ j x, xs[j]? = some x → NmAt at_ (stepL r3 st j) x)
      ⟨none, none, none, b', [], rfl, hb', rfl, rfl, fun j x hx => by simp at hx⟩ (fun i x env M' K hx ⟨k, s10, s11, b5, xs, e1, hb5, e2, e3, e4⟩ hK => ?_) fun env M' ⟨k, s10, s11, b5, xs, e1, hb5, e2, e3, e4⟩ => ?_
    · obtain ⟨hi, rfl⟩ := rng_at hx
      subst e1 e2
      have hmod0 := Int.emod_nonneg (r3 + st * (0 + (i : Int))) (show (26 : Int) ≠ 0 by decide)
      have hmod1 := Int.emod_lt_of_pos (r3 + st * (0 + (i : Int))) (show (0 : Int) < 26 by decide)
      walk_at "w"
      refine ⟨.inr ?_, ?_⟩
      · rcases hst with rfl | rfl | rfl | rfl <;> omega
      walk_at "w"
      refine ⟨by show (0 : Int) < 26; decide, ?_⟩
      walk_at "w"
      rw [letter_at hmod0 hmod1]
      walk_at "w"
      have eL : (97 + ((r3 + st * (0 + (i : Int))) % 26).toNat) = stepL r3 st i := by unfold stepL; rw [Int.zero_add]
      rw [eL]
      have hcl : isLetter (stepL r3 st i) = true := by
        rw [← eL]; unfold isLetter
        rw [decide_eq_true (show 97 ≤ 97 + ((r3 + st * (0 + (i : Int))) % 26).toNat by omega), decide_eq_true (show 97 + ((r3 + st * (0 + (i : Int))) % 26).toNat ≤ 122 by omega)]; rfl
      generalize hcE : stepL r3 st i = c at hcl ⊢
      have hat : at_ < base.cps.toList.length := by omega
      have ca := cutS_to base at_
      have cb := cutS_from base (at_ + 1)
      have e11 : ((at_ + 1 : Nat) : Int) = (at_ : Int) + 1 := by omega
      rw [e11] at cb
      have la := congrArg List.length ca
      have lb := congrArg List.length cb
      rw [List.length_take, ← len_list] at la
      rw [List.length_drop, ← len_list] at lb
      refine ⟨by rw [sizeLine_eq, la]; show _ + 1 ≤ _; omega, ?_⟩
      walk_at "w"
      have l1 : (cutS base none (some (at_ : Int)) ++ (⟨#[c]⟩ : Str)).length = (cutS base none (some (at_ : Int))).length + 1 := by
        rw [len_list, app_list, List.length_append, ← len_list]; rfl
      refine ⟨by rw [sizeLine_eq, l1, la, lb]; omega, ?_⟩
      have hnm : NmAt at_ c (cutS base none (some (at_ : Int)) ++ (⟨#[c]⟩ : Str) ++ cutS base (some ((at_ : Int) + 1)) none) := by
        have el : (cutS base none (some (at_ : Int)) ++ (⟨#[c]⟩ : Str) ++ cutS base (some ((at_ : Int) + 1)) none).cps.toList = base.cps.toList.take at_ ++ c :: base.cps.toList.drop (at_ + 1) := by
          rw [app_list, app_list, ca, cb]; simp
        refine ⟨?_, ?_, ?_, ?_⟩
        · rw [len_list, el, List.length_append, List.length_cons, List.length_take, List.length_drop]; omega
        · rw [len_list, el, List.length_append, List.length_cons, List.length_take, List.length_drop]; omega
        · rw [el, List.all_append, List.all_cons, hcl, Bool.true_and, Bool.and_eq_true]
          rw [List.all_eq_true] at bLet
          exact ⟨List.all_eq_true.mpr fun z hz => bLet z (List.mem_of_mem_take hz), List.all_eq_true.mpr fun z hz => bLet z (List.mem_of_mem_drop hz)⟩
        · rw [el, List.getElem?_append_right (by rw [List.length_take]; exact Nat.min_le_left _ _), List.length_take, Nat.min_eq_left (Nat.le_of_lt hat), Nat.sub_self]; rfl
      generalize (cutS base none (some (at_ : Int)) ++ (⟨#[c]⟩ : Str) ++ cutS base (some ((at_ : Int) + 1)) none) = nm at hnm ⊢
      walk_at "w"
      refine ⟨?_, ?_⟩
      · walk_at "w"
        rw [mupd_same]
        trivial
      walk_at "w"
      refine ⟨p, b5, 3, rfl, by rw [mupd_ne (Ne.symm hpq), mupd_same], hb5, by decide, by decide, fun r4 b6 hb6 r40 r41 => ?_⟩
      rw [mupd_comm hpq, mupd_mupd]
      walk_at "w"
      refine ⟨⟨rfl, rfl⟩, ?_⟩
      have fin : ∀ y, NmAt at_ c y → (xs.map D.str).length < sizeLine ∧ K ((([some (D.ref p), some (D.int n), some (D.int st), k, some (D.int (1 + r1)), some (D.str letters), some (D.int (at_ : Int)), some (D.int r3), some (D.str base), some (D.ref qa), s10, s11].set 3 (some (D.int (0 + (i : Int))))).set 10 (some (sgn c))).set 11 (some (D.str nm))) (mupd (mupd (mupd M p (.lst b6.l)) qa (.lst (xs.map D.str))) qa (.lst (xs.map D.str ++ [.str y]))) := fun y hy =>
        ⟨by rw [List.length_map, sizeLine_eq]; omega, hK _ _ ⟨_, _, _, b6, xs ++ [y], rfl, hb6, by rw [mupd_mupd, List.map_append]; rfl, by rw [List.length_append, e3]; rfl, fun j x hx2 => by
          by_cases hj : j < xs.length
          · rw [List.getElem?_append_left hj] at hx2; exact e4 j x hx2
          · rw [List.getElem?_append_right (by omega)] at hx2
            have hj0 : j = i := by
              have := (List.getElem?_eq_some_iff.mp hx2).1
              simp at this
              omega
            subst hj0
            rw [e3, Nat.sub_self] at hx2
            cases hx2
            rw [hcE]; exact hy⟩⟩
      walk_at "w"
      refine brn_by (fun hc => ?_) fun hc => ?_
      · walk_at "w"
        have hm : ∃ m : Nat, (if (1 + r1 - (0 + (i : Int))) > ((at_ : Int) + 1) then (1 + r1 - (0 + (i : Int))) else ((at_ : Int) + 1)) = (m : Int) ∧ at_ < m := by
          split
          · exact ⟨(1 + r1 - (0 + (i : Int))).toNat, by omega, by omega⟩
          · exact ⟨at_ + 1, by omega, by omega⟩
        obtain ⟨m, em, hm⟩ := hm
        have hnm2 : NmAt at_ c (cutS nm none (some (m : Int))) := by
          have cm := cutS_to nm m
          have h1 := hnm.pos
          have h2 := hnm.few
          have h3 := hnm.let_
          rw [len_list] at h1 h2
          refine ⟨by rw [len_list, cm, List.length_take]; omega, by rw [len_list, cm, List.length_take]; omega, ?_, ?_⟩
          · rw [cm]
            rw [List.all_eq_true] at h3 ⊢
            exact fun z hz => h3 z (List.mem_of_mem_take hz)
          · rw [cm, List.getElem?_take, if_pos hm]; exact hnm.at_
        rw [em]
        rw [mupd_same]
        walk_at "w"
        refine fin _ hnm2
      · walk_at "w"
        rw [mupd_same]
        walk_at "w"
        refine fin _ hnm
    · subst e1 e2
      rw [rng_length] at e3
      walk_at "w"
      rw [mupd_same]
      walk_at "w"
      rw [mdel_mupd (by rw [mupd_ne hpq]; rw [mupd_ne hpq] at hqa; exact hqa)]
      refine q xs b5 hb5 (by omega) (fun x hx => ?_) ?_
      · obtain ⟨j, hj⟩ := List.getElem?_of_mem hx
        exact (e4 j x hj).name
      · rw [List.nodup_iff_pairwise_ne, List.pairwise_iff_getElem]
        intro i j hi hj hij e
        have h1 := e4 i xs[i] (List.getElem?_eq_getElem hi)
        have h2 := e4 j xs[j] (List.getElem?_eq_getElem hj)
        rw [e] at h1
        have := stepL_inj hst (by omega) (by omega) (Option.some.inj (h1.at_.symm.trans h2.at_))
        omega
/-! ### sorted data -/
theorem leD_int {a b : Int} : leD (.int a) (.int b) = decide (a ≤ b) := by
  show (!PySem.W.dataLt (.int b) (.int a)) = _
  rw [PySem.W.dataLt_int, PySem.W.not_lt_int]
theorem leD_str {a b : Str} : leD (.str a) (.str b) = decide (a.cps.toList ≤ b.cps.toList) := by
  show (!PySem.W.dataLt (.str b) (.str a)) = _
  rw [PySem.W.dataLt_str, PySem.W.not_lt_str]
theorem one_le {a b : Nat} : ([a] ≤ [b]) ↔ a ≤ b := by
  rw [← List.not_lt, ← Nat.not_lt]
  constructor
  · intro h q; exact h (List.Lex.rel q)
  · intro h q
    cases q with
    | rel q => exact h q
    | cons q => cases q
theorem leD_sgn {a b : Nat} : leD (sgn a) (sgn b) = decide (a ≤ b) := by
  unfold sgn
  rw [leD_str, decide_eq_decide]
  exact one_le
theorem sortD_pw (ds : List D) : (sortD ds).Pairwise (fun a b => leD a b = true) := PySem.W.sort_pairwise (PySem.W.sortLe_total _ false _) ds
theorem sortD_perm (ds : List D) : (sortD ds).Perm ds := List.mergeSort_perm _ _
theorem sortD_ints (ns : List Int) : ∃ ys : List Int, sortD (ns.map D.int) = ys.map D.int ∧ ys.Perm ns ∧ ys.Pairwise (· ≤ ·) := by
  have e := (PySem.W.sort_maps (r := fun a b => decide (a ≤ b)) (s := leD) D.int (l := ns) fun a _ b _ => leD_int.symm)
  refine ⟨_, e.symm, List.mergeSort_perm _ _, ?_⟩
  have h := sortD_pw (ns.map D.int)
  unfold sortD at h
  rw [← e, List.pairwise_map] at h
  exact h.imp fun h => of_decide_eq_true (leD_int ▸ h)
theorem sortD_sgns (cs : List Nat) : ∃ ys : List Nat, sortD (cs.map sgn) = ys.map sgn ∧ ys.Perm cs ∧ ys.Pairwise (· ≤ ·) := by
  have e := (PySem.W.sort_maps (r := fun a b => decide (a ≤ b)) (s := leD) sgn (l := cs) fun a _ b _ => leD_sgn.symm)
  refine ⟨_, e.symm, List.mergeSort_perm _ _, ?_⟩
  have h := sortD_pw (cs.map sgn)
  unfold sortD at h
  rw [← e, List.pairwise_map] at h
  exact h.imp fun h => of_decide_eq_true (leD_sgn ▸ h)
theorem les_flat {n : Nat} {ds : List D} (h : ∀ d ∈ ds, flatD d = true) : D.les n ds = true := les_of fun d hd => by
  have := h d hd
  cases d <;> first | (cases n <;> rfl) | cases this
theorem srt_strs (xs : List Str) : SrtOk (xs.map D.str) := by
  refine ⟨?_, ?_⟩
  · rw [List.map_map]; exact PySem.W.AllAlike.of fun b b' => by simp [D.py, PySem.W.alike]
  · rw [List.map_map]; exact PySem.W.Sortable.others fun b => ⟨by simp [D.py], by simp [D.py]⟩
theorem srt_ints (xs : List Int) : SrtOk (xs.map D.int) := by
  refine ⟨?_, ?_⟩
  · rw [List.map_map]; exact PySem.W.AllAlike.of fun b b' => by simp [D.py, PySem.W.alike]
  · rw [List.map_map]; exact PySem.W.Sortable.others fun b => ⟨by simp [D.py], by simp [D.py]⟩
theorem sgns_strs (cs : List Nat) : cs.map sgn = (cs.map fun c => (⟨#[c]⟩ : Str)).map D.str := by rw [List.map_map]; rfl
theorem le_nodup_lt {α : Type} {xs : List α} {le lt : α → α → Prop} (h : xs.Pairwise le) (hn : xs.Nodup) (hl : ∀ a b, le a b → a ≠ b → lt a b) : xs.Pairwise lt := by
  have := List.Pairwise.and h hn
  exact this.imp fun ⟨a, b⟩ => hl _ _ a b
/-! ### signs -/
/-- a row of letters that rises -/
structure SgOk (cs : List Nat) : Prop where
  let_ : ∀ c ∈ cs, isLetter c = true
  up : cs.Pairwise (· < ·)
theorem SgOk.few {cs : List Nat} (h : SgOk cs) : cs.length ≤ 26 := by
  have h1 : cs.Nodup := h.up.imp fun q => Nat.ne_of_lt q
  have h2 : ∀ c ∈ cs, c ∈ (List.range 26).map (· + 97) := fun c hc => by
    have := (mem_letters c).mpr (h.let_ c hc)
    rwa [letters_list] at this
  have := L2.nat_nodup_len cs _ h1 h2
  simpa using this
def sp_law_signs : SpD := fun ds M Q _ => ∃ p b n, ds = [.ref p, .int n] ∧ M p = some (.lst (Bag.l b)) ∧ b.Ok ∧ 0 < n ∧ n ≤ 26 ∧
  ∀ (cs : List Nat) b', Bag.Ok b' → SgOk cs → 0 < cs.length → (cs.length : Int) ≤ n → Q (.lst (cs.map sgn)) (mupd M p (.lst b'.l))
def t_law_signs : DS := (dSeq (dAsg (dTup (dCons (dCall sp_law_pull (dCons (dVar 0) (dCons (dC (.int 26)) dNil))) (dCons (dCall sp_law_of (dCons (dVar 0) (dCons (dLst (dCons (dC (.int 1)) (dCons (dC (.int 3)) (dCons (dC (.int 5)) (dCons (dC (.int 7)) dNil))))) dNil))) dNil))) (.tup [(.name 2), (.name 3)]))
    (dSeq (dAsg (dTup (dCons (dBin rAddD (dC (.int 1)) (dCall sp_law_pull (dCons (dVar 0) (dCons (dVar 1) dNil)))) (dCons (dCall sp_law_letters dNil) dNil))) (.tup [(.name 4), (.name 5)]))
    (dRet (dUn rSortD (dLc (iRange1 (dCons (dVar 4) dNil)) (.name 6) dYes (dBin rIxD (dVar 5) (dBin rModI (dBin rAddD (dVar 2) (dBin rMulI (dVar 3) (dVar 6))) (dC (.int 26)))) [6])))))
theorem r_law_signs (ds : List D) (M : Mp) (Q : DK) (E : DX) (hl : ds.length = 2) (h : sp_law_signs ds M Q E) : t_law_signs { nx := fun _ M' => Q .non M', rt := Q } (startD ["_law_bag_here", "_law_limit", "_law_start", "_law_step", "_law_many", "_law_letters_here", "_law_k"] ds) M := by
  obtain ⟨p, b, n, rfl, hM, hb, h0, h1, q⟩ := h
  walk_at "w"
  refine ⟨p, b, 26, rfl, hM, hb, by decide, by decide, fun r3 b1 hb1 r30 r31 => ?_⟩
  walk_at "w"
  refine ⟨p, b1, .lst [.int 1, .int 3, .int 5, .int 7], [.int 1, .int 3, .int 5, .int 7], rfl, mupd_same, hb1, by decide, by decide, .inl ⟨rfl, fun e => by cases e⟩, fun y b2 hb2 hy => ?_⟩
  rw [mupd_mupd]
  obtain ⟨st, rfl, hst⟩ : ∃ st : Int, y = .int st ∧ (st = 1 ∨ st = 3 ∨ st = 5 ∨ st = 7) := by
    simp only [List.mem_cons, List.not_mem_nil, or_false] at hy
    rcases hy with rfl | rfl | rfl | rfl <;> exact ⟨_, rfl, by omega⟩
  walk_at "w"
  refine ⟨p, b2, n, rfl, mupd_same, hb2, h0, by omega, fun r4 b3 hb3 r40 r41 => ?_⟩
  rw [mupd_mupd]
  walk_at "w"
  refine ⟨rfl, ?_⟩
  walk_at "w"
  refine ⟨⟨by omega, by omega⟩, ?_⟩
  walk_at "w"
  refine lc_inv (fun i acc M' => M' = mupd M p (.lst b3.l) ∧ acc = ((List.range i).map (stepL r3 st)).map sgn) ⟨rfl, rfl⟩ (fun i x acc M' K hx ⟨e1, e2⟩ hK => ?_) fun acc M' ⟨e1, e2⟩ => ?_
  · obtain ⟨hi, rfl⟩ := rng_at hx
    subst e1
    have hmod0 := Int.emod_nonneg (r3 + st * (0 + (i : Int))) (show (26 : Int) ≠ 0 by decide)
    have hmod1 := Int.emod_lt_of_pos (r3 + st * (0 + (i : Int))) (show (0 : Int) < 26 by decide)
    walk_at "w"
    refine ⟨.inr ?_, ?_⟩
    · rcases hst with rfl | rfl | rfl | rfl <;> omega
    walk_at "w"
    refine ⟨by show (0 : Int) < 26; decide, ?_⟩
    walk_at "w"
    rw [letter_at hmod0 hmod1]
    refine hK _ _ ⟨rfl, ?_⟩
    have eL : (97 + ((r3 + st * (0 + (i : Int))) % 26).toNat) = stepL r3 st i := by unfold stepL; rw [Int.zero_add]
    rw [e2, eL, List.range_succ, List.map_append, List.map_append]; rfl
  · subst e1 e2
    rw [rng_length]
    generalize hk : (1 + r4).toNat = k
    have hk1 : k ≤ 26 := by omega
    walk_at "w"
    refine ⟨⟨les_flat fun d hd => ?_, by rw [sgns_strs]; exact srt_strs _⟩, ?_⟩
    · obtain ⟨c, _, rfl⟩ := List.mem_map.mp hd; rfl
    obtain ⟨ys, e1, e2, e3⟩ := sortD_sgns ((List.range k).map (stepL r3 st))
    rw [e1]
    have hnd : ((List.range k).map (stepL r3 st)).Nodup := by
      rw [List.nodup_iff_pairwise_ne, List.pairwise_map]
      refine List.Pairwise.imp_of_mem ?_ List.nodup_range
      intro a b ha hb hne e
      exact hne (stepL_inj hst (by have := List.mem_range.mp ha; omega) (by have := List.mem_range.mp hb; omega) e)
    have hlen : ys.length = k := by rw [e2.length_eq]; simp
    refine q ys b3 hb3 ⟨fun c hc => ?_, le_nodup_lt e3 (e2.nodup_iff.mpr hnd) fun a b h1 h2 => by omega⟩ (by omega) (by omega)
    obtain ⟨i, hi, rfl⟩ := List.mem_map.mp (e2.mem_iff.mp hc)
    have hmod0 := Int.emod_nonneg (r3 + st * (i : Int)) (show (26 : Int) ≠ 0 by decide)
    have hmod1 := Int.emod_lt_of_pos (r3 + st * (i : Int)) (show (0 : Int) < 26 by decide)
    unfold stepL isLetter
    rw [decide_eq_true (show 97 ≤ 97 + ((r3 + st * (i : Int)) % 26).toNat by omega), decide_eq_true (show 97 + ((r3 + st * (i : Int)) % 26).toNat ≤ 122 by omega)]; rfl
/-! ### writers -/
/-- an arrow: place, sign, to -/
structure Ar where
  at_ : Int
  sg : Str
  to : Int
structure Wr where
  name : Str
  ar : List Ar
  pat : Int
  cap : Int
def arD (a : Ar) : D := .tup [.int a.at_, .str a.sg, .int a.to]
def wrD (w : Wr) : D := .tup [.str w.name, .tup (w.ar.map arD), .int w.pat, .int w.cap]
/-- arrows of a writer that is one: places and signs rise -/
def arLt (a b : Ar) : Prop := a.at_ < b.at_ ∨ (a.at_ = b.at_ ∧ a.sg.cps.toList < b.sg.cps.toList)
structure ArOk (a : Ar) : Prop where
  at0 : 0 ≤ a.at_
  at1 : a.at_ ≤ 2
  sg : ∃ c, a.sg = ⟨#[c]⟩ ∧ isLetter c = true
  to0 : 0 ≤ a.to
  to1 : a.to ≤ 2
structure WrOk (w : Wr) : Prop where
  name : isName w.name = true
  few : w.ar.length ≤ 9
  ar : ∀ a ∈ w.ar, ArOk a
  up : w.ar.Pairwise arLt
  pat0 : 0 ≤ w.pat
  pat1 : w.pat ≤ 3
  cap0 : 0 ≤ w.cap
  cap1 : w.cap ≤ 3
/-- what is drawn: the name is as it was handed -/
structure WrDr (name : Str) (places : Int) (cs : List Nat) (w : Wr) : Prop where
  name : w.name = name
  few : w.ar.length ≤ 9
  ar : ∀ a ∈ w.ar, 0 ≤ a.at_ ∧ a.at_ < places ∧ (∃ c ∈ cs, a.sg = ⟨#[c]⟩) ∧ 0 ≤ a.to ∧ a.to < places
  up : w.ar.Pairwise arLt
  pat0 : 0 ≤ w.pat
  pat1 : w.pat ≤ 3
  cap0 : 0 ≤ w.cap
  cap1 : w.cap ≤ 3
theorem WrDr.ok {name : Str} {places : Int} {cs : List Nat} {w : Wr} (h : WrDr name places cs w) (hn : isName name = true) (hp : places ≤ 3) (hc : SgOk cs) : WrOk w :=
  ⟨by rw [h.name]; exact hn, h.few, fun a ha => by
    obtain ⟨h1, h2, ⟨c, hcs, h3⟩, h4, h5⟩ := h.ar a ha
    exact ⟨h1, by omega, ⟨c, h3, hc.let_ c hcs⟩, h4, by omega⟩, h.up, h.pat0, h.pat1, h.cap0, h.cap1⟩
def sp_law_writer : SpD := fun ds M Q _ => ∃ p b name n cs thick, ds = [.ref p, .str name, .int n, .lst (cs.map sgn), .int thick] ∧ M p = some (.lst (Bag.l b)) ∧ b.Ok ∧ 0 < n ∧ n ≤ 3 ∧ SgOk cs ∧
  ∀ w b', Bag.Ok b' → WrDr name n cs w → Q (wrD w) (mupd M p (.lst b'.l))
def t_law_writer_1 : DS := (dSeq (dFrzN 5 (dSet 7 (dLst (dCons (dC (.int 0)) (dCons (dC (.int 0)) (dCons (dC (.int 0)) (dCons (dC (.int 1)) (dCons (dC (.int 2)) (dCons (dC (.int 3)) dNil)))))))))
    (dRet (dTup (dCons (dVar 1) (dCons (dUn rTupleD (dVar 5)) (dCons (dCall sp_law_of (dCons (dVar 0) (dCons (dVar 7) dNil))) (dCons (dCall sp_law_of (dCons (dVar 0) (dCons (dVar 7) dNil))) dNil)))))))
def t_law_writer : DS := (dSeq (dSet 5 (dLstM dNil))
    (dSeq (dFor (iRange1 (dCons (dVar 2) dNil)) (.name 6) (dFor (iLst (dVar 3)) (.name 8) (dIfS (dAnd (dTest (dBin rLtI (dUn rLenD (dVar 5)) (dC (.int 9)))) (dTest (dBin rLtI (dCall sp_law_pull (dCons (dVar 0) (dCons (dC (.int 8)) dNil))) (dVar 4)))) (dDrop (dAppend (dVar 5) (dTup (dCons (dVar 6) (dCons (dVar 8) (dCons (dCall sp_law_pull (dCons (dVar 0) (dCons (dVar 2) dNil))) dNil)))))) dNext)))
    t_law_writer_1))
/-- arrows made so far: at places before i, at place i of the first j signs -/
structure ArsAt (n : Int) (cs : List Nat) (i j : Nat) (as : List Ar) : Prop where
  few : as.length ≤ 9
  ar : ∀ a ∈ as, 0 ≤ a.at_ ∧ a.at_ < n ∧ (∃ c ∈ cs, a.sg = ⟨#[c]⟩) ∧ 0 ≤ a.to ∧ a.to < n
  up : as.Pairwise arLt
  low : ∀ a ∈ as, a.at_ < i ∨ (a.at_ = i ∧ ∃ k c, k < j ∧ cs[k]? = some c ∧ a.sg = ⟨#[c]⟩)
theorem sgn_lt {a b : Nat} (h : a < b) : (⟨#[a]⟩ : Str).cps.toList < (⟨#[b]⟩ : Str).cps.toList := List.Lex.rel h
theorem ArsAt.more {n : Int} {cs : List Nat} {i j c : Nat} {as : List Ar} (h : ArsAt n cs i j as) (hup : cs.Pairwise (· < ·)) (hi : (i : Int) < n) (hc : cs[j]? = some c) (h9 : as.length < 9) {t : Int} (t0 : 0 ≤ t) (t1 : t < n) : ArsAt n cs i (j + 1) (as ++ [⟨(i : Int), ⟨#[c]⟩, t⟩]) := by
  refine ⟨by simp; omega, fun a ha => ?_, ?_, fun a ha => ?_⟩
  · rcases List.mem_append.mp ha with ha | ha
    · exact h.ar a ha
    · rw [List.mem_singleton.mp ha]
      exact ⟨by show (0 : Int) ≤ i; omega, hi, ⟨c, List.mem_of_getElem? hc, rfl⟩, t0, t1⟩
  · rw [List.pairwise_append]
    refine ⟨h.up, by simp, fun a ha b hb => ?_⟩
    rw [List.mem_singleton.mp hb]
    rcases h.low a ha with q | ⟨q, k, c', hk, hck, e⟩
    · exact .inl q
    · refine .inr ⟨q, ?_⟩
      rw [e]
      have h1 := (List.getElem?_eq_some_iff.mp hck)
      have h2 := (List.getElem?_eq_some_iff.mp hc)
      have := List.pairwise_iff_getElem.mp hup k j h1.1 h2.1 hk
      rw [h1.2, h2.2] at this
      exact sgn_lt this
  · rcases List.mem_append.mp ha with ha | ha
    · rcases h.low a ha with q | ⟨q, k, c', hk, hck, e⟩
      · exact .inl q
      · exact .inr ⟨q, k, c', by omega, hck, e⟩
    · rw [List.mem_singleton.mp ha]
      exact .inr ⟨rfl, j, c, by omega, hc, rfl⟩
theorem ArsAt.skip {n : Int} {cs : List Nat} {i j : Nat} {as : List Ar} (h : ArsAt n cs i j as) : ArsAt n cs i (j + 1) as :=
  ⟨h.few, h.ar, h.up, fun a ha => (h.low a ha).imp id fun ⟨q, k, c, hk, r⟩ => ⟨q, k, c, by omega, r⟩⟩
theorem ArsAt.next {n : Int} {cs : List Nat} {i j : Nat} {as : List Ar} (h : ArsAt n cs i j as) : ArsAt n cs (i + 1) 0 as :=
  ⟨h.few, h.ar, h.up, fun a ha => .inl (by rcases h.low a ha with q | ⟨q, _⟩ <;> omega)⟩
theorem r_law_writer (ds : List D) (M : Mp) (Q : DK) (E : DX) (hl : ds.length = 5) (h : sp_law_writer ds M Q E) : t_law_writer { nx := fun _ M' => Q .non M', rt := Q } (startD ["_law_bag_here", "_law_name", "_law_places", "_law_signs_here", "_law_thick", "_law_lines", "_law_place", "_law_counts", "_law_sign"] ds) M := by
  obtain ⟨p, b, name, n, cs, thick, rfl, hM, hb, h0, h1, hcs, q⟩ := h
  walk_at "w"
  intro qa hqa
  have hpq : qa ≠ p := fun e => by rw [e, hM] at hqa; cases hqa
  walk_at "w"
  refine ⟨⟨by omega, by omega⟩, ?_⟩
  walk_at "w"
  have hcl := hcs.few
  refine for_inv (fun i env M' => ∃ s6 s8 b', ∃ as : List Ar, env = [some (.ref p), some (.str name), some (.int n), some (.lst (cs.map sgn)), some (.int thick), some (.ref qa), s6, none, s8] ∧ Bag.Ok b' ∧ M' = mupd (mupd M p (.lst b'.l)) qa (.lst (as.map arD)) ∧ ArsAt n cs i 0 as)
    ⟨none, none, b, [], rfl, hb, by rw [mupd_id hM]; rfl, ⟨by simp, by simp, by simp, by simp⟩⟩ (fun i x env M' K hx ⟨s6, s8, b1, as, e1, hb1, e2, e3⟩ hK => ?_) fun env M' ⟨s6, s8, b1, as, e1, hb1, e2, e3⟩ => ?_
  · obtain ⟨hi, rfl⟩ := rng_at hx
    subst e1 e2
    walk_at "w"
    refine for_inv (fun j env M' => ∃ s8 b', ∃ as : List Ar, env = [some (.ref p), some (.str name), some (.int n), some (.lst (cs.map sgn)), some (.int thick), some (.ref qa), some (.int (0 + (i : Int))), none, s8] ∧ Bag.Ok b' ∧ M' = mupd (mupd M p (.lst b'.l)) qa (.lst (as.map arD)) ∧ ArsAt n cs i j as)
      ⟨s8, b1, as, rfl, hb1, rfl, e3⟩ (fun j x env M' K2 hx2 ⟨s8, b2, as2, e1, hb2, e2, e4⟩ hK2 => ?_) fun env M' ⟨s8, b2, as2, e1, hb2, e2, e4⟩ => ?_
    · subst e1 e2
      rw [List.getElem?_map] at hx2
      obtain ⟨c, hc, rfl⟩ := Option.map_eq_some_iff.mp hx2
      have hpm : mupd (mupd M p (.lst b2.l)) qa (.lst (as2.map arD)) p = some (.lst b2.l) := by rw [mupd_ne (Ne.symm hpq), mupd_same]
      walk_at "w"
      rw [resD_new]
      walk_at "w"
      refine brn_by (fun hc1 => ?_) fun hc1 => ?_
      · have h9 : as2.length < 9 := by
          have := of_decide_eq_true hc1
          rw [List.length_map] at this
          omega
        walk_at "w"
        refine ⟨p, b2, 8, rfl, hpm, hb2, by decide, by decide, fun r b3 hb3 r0 r1 => ?_⟩
        rw [mupd_comm hpq, mupd_mupd]
        walk_at "w"
        refine brn_by (fun hc2 => ?_) fun hc2 => ?_
        · walk_at "w"
          refine ⟨?_, ?_⟩
          · walk_at "w"
            rw [mupd_same]
            trivial
          walk_at "w"
          refine ⟨p, b3, n, rfl, by rw [mupd_ne (Ne.symm hpq), mupd_same], hb3, h0, by omega, fun t b4 hb4 t0 t1 => ?_⟩
          rw [mupd_comm hpq, mupd_mupd]
          walk_at "w"
          rw [mupd_same]
          refine ⟨by rw [List.length_map, sizeLine_eq]; omega, ?_⟩
          refine hK2 _ _ ⟨_, b4, as2 ++ [⟨(i : Int), ⟨#[c]⟩, t⟩], rfl, hb4, ?_, e4.more hcs.up (by omega) hc h9 t0 t1⟩
          rw [mupd_mupd, List.map_append, Int.zero_add]; rfl
        · exact hK2 _ _ ⟨_, b3, as2, rfl, hb3, rfl, e4.skip⟩
      · exact hK2 _ _ ⟨_, b2, as2, rfl, hb2, rfl, e4.skip⟩
    · exact hK _ _ ⟨_, s8, b2, as2, e1, hb2, e2, e4.next⟩
  · subst e1 e2
    walk_at "w"
    rw [mupd_same]
    walk_at "w"
    rw [mdel_mupd (by rw [mupd_ne hpq]; exact hqa)]
    have cnt : ∀ y : D, y ∈ [D.int 0, .int 0, .int 0, .int 1, .int 2, .int 3] → ∃ k : Int, y = .int k ∧ 0 ≤ k ∧ k ≤ 3 := fun y hy => by
      simp only [List.mem_cons, List.not_mem_nil, or_false] at hy
      rcases hy with rfl | rfl | rfl | rfl | rfl | rfl <;> exact ⟨_, rfl, by decide, by decide⟩
    refine ⟨p, b1, .lst [.int 0, .int 0, .int 0, .int 1, .int 2, .int 3], [.int 0, .int 0, .int 0, .int 1, .int 2, .int 3], rfl, mupd_same, hb1, by decide, by decide, .inl ⟨rfl, fun e => by cases e⟩, fun y b2 hb2 hy => ?_⟩
    obtain ⟨pat, rfl, p0, p1⟩ := cnt y hy
    rw [mupd_mupd]
    walk_at "w"
    refine ⟨p, b2, .lst [.int 0, .int 0, .int 0, .int 1, .int 2, .int 3], [.int 0, .int 0, .int 0, .int 1, .int 2, .int 3], rfl, mupd_same, hb2, by decide, by decide, .inl ⟨rfl, fun e => by cases e⟩, fun z b3 hb3 hz => ?_⟩
    obtain ⟨cap, rfl, c0, c1⟩ := cnt z hz
    rw [mupd_mupd]
    exact q ⟨name, as, pat, cap⟩ b3 hb3 ⟨rfl, e3.few, e3.ar, e3.up, p0, p1, c0, c1⟩
/-! ### dict comprehensions by what they make -/
theorem dc_go {t : Tg} {tt : DT} {tk tv : DE} {env : DEnv} {Q : List L2.Key → List D → Mp → Prop} {xs : List D} (Pv : Nat → List L2.Key → List D → Mp → Prop)
    (hs : ∀ i x ks ds M (K : List L2.Key → List D → Mp → Prop), xs[i]? = some x → Pv i ks ds M → (∀ ks' ds' M', Pv (i + 1) ks' ds' M' → K ks' ds' M') → t.bind x env fun env1 => tt env1 M fun b M1 => brn b (tk env1 M1 fun y M2 => tv env1 M2 fun z M3 => match keyD y with
      | some k => K (addK ks k) (setK ks ds k z) M3
      | none => False) (K ks ds M1))
    (hd : ∀ ks ds M, Pv xs.length ks ds M → Q ks ds M) : ∀ (r : List D) (k : Nat) (ks : List L2.Key) (ds : List D) (M : Mp), xs.drop k = r → k ≤ xs.length → Pv k ks ds M → dDcL0 t tt tk tv env r ks ds M Q
  | [], k, ks, ds, M, e, hk, p => by
    have : k = xs.length := by have := List.drop_eq_nil_iff.mp e; omega
    subst this
    exact hd ks ds M p
  | x :: r, k, ks, ds, M, e, hk, p => by
    have hx : xs[k]? = some x := by rw [← List.head?_drop, e]; rfl
    have hr : xs.drop (k + 1) = r := by rw [← List.drop_drop, e]; rfl
    have hlt : k < xs.length := (List.getElem?_eq_some_iff.mp hx).1
    exact hs k x ks ds M _ hx p fun ks' ds' M' p' => dc_go Pv hs hd r (k + 1) ks' ds' M' hr hlt p'
theorem keyD_dKey (k : L2.Key) : keyD (dKey k) = some k := by cases k <;> rfl
theorem addK_new {ks : List L2.Key} {k : L2.Key} (h : k ∉ ks) : addK ks k = ks ++ [k] := by
  unfold addK
  rw [if_neg]
  intro q
  obtain ⟨j, hj, e⟩ := List.any_eq_true.mp q
  exact h (of_decide_eq_true e ▸ hj)
theorem setK_new {ks : List L2.Key} {ds : List D} {k : L2.Key} {d : D} (h : k ∉ ks) : setK ks ds k d = ds ++ [d] := by
  unfold setK
  rw [if_neg]
  intro q
  obtain ⟨j, hj, e⟩ := List.any_eq_true.mp q
  exact h (of_decide_eq_true e ▸ hj)
theorem dc_filter {t : Tg} {tt : DT} {tk tv : DE} {env : DEnv} {M : Mp} {Q : List L2.Key → List D → Mp → Prop} {xs : List D} (p : D → Bool) (fk : D → L2.Key) (fv : D → D) (hn : ((xs.filter p).map fk).Nodup)
    (h : ∀ x ∈ xs, ∀ (K1 : D → D → Mp → Prop) (K2 : Mp → Prop), (p x = true → K1 (dKey (fk x)) (fv x) M) → (p x = false → K2 M) → t.bind x env fun env1 => tt env1 M fun b M1 => brn b (tk env1 M1 fun y M2 => tv env1 M2 fun z M3 => K1 y z M3) (K2 M1))
    (q : Q ((xs.filter p).map fk) ((xs.filter p).map fv) M) : dDcL t tt tk tv env xs [] [] M Q := by
  rw [dDcL_eq]
  refine dc_go (xs := xs) (fun i ks ds M' => M' = M ∧ ks = ((xs.take i).filter p).map fk ∧ ds = ((xs.take i).filter p).map fv) (fun i x ks ds M' K hx ⟨e1, e2, e3⟩ hK => ?_) (fun ks ds M' ⟨e1, e2, e3⟩ => ?_) xs 0 [] [] M rfl (Nat.zero_le _) ⟨rfl, by simp, by simp⟩
  · subst e1
    have ht : xs.take (i + 1) = xs.take i ++ [x] := by rw [List.take_add_one, hx]; rfl
    refine h x (List.mem_of_getElem? hx) (fun y z M3 => match keyD y with
      | some k => K (addK ks k) (setK ks ds k z) M3
      | none => False) _ (fun hp => ?_) fun hp => ?_
    · rw [keyD_dKey]
      have hnew : fk x ∉ ks := by
        have h1 : (((xs.take (i + 1)).filter p).map fk).Nodup := List.Nodup.sublist (((List.take_sublist _ _).filter p).map fk) hn
        rw [ht, List.filter_append, List.map_append, ← e2, List.nodup_append] at h1
        intro hm
        exact h1.2.2 _ hm (fk x) (by simp [hp]) rfl
      refine hK _ _ _ ⟨rfl, ?_, ?_⟩
      · rw [addK_new hnew, ht, List.filter_append, List.map_append, e2]; simp [hp]
      · rw [setK_new hnew, ht, List.filter_append, List.map_append, e3]; simp [hp]
    · refine hK _ _ _ ⟨rfl, ?_, ?_⟩
      · rw [ht, List.filter_append, List.map_append, e2]; simp [hp]
      · rw [ht, List.filter_append, List.map_append, e3]; simp [hp]
  · subst e1
    rw [e2, e3, List.take_length]; exact q
/-! ### arrows at a place -/
def arsAt (w : Wr) (p : Int) : List Ar := w.ar.filter fun a => decide (a.at_ = p)
theorem arLt_sg {w : Wr} (h : w.ar.Pairwise arLt) (p : Int) : (arsAt w p).Pairwise fun a b => a.sg.cps.toList < b.sg.cps.toList := by
  unfold arsAt
  refine (List.Pairwise.imp_of_mem ?_ (h.filter _))
  intro a b ha hb hab
  have h1 := of_decide_eq_true (List.mem_filter.mp ha).2
  have h2 := of_decide_eq_true (List.mem_filter.mp hb).2
  rcases hab with q | ⟨_, q⟩
  · omega
  · exact q
theorem sg_nodup {w : Wr} (h : w.ar.Pairwise arLt) (p : Int) : ((arsAt w p).map fun a => (Sum.inr a.sg : L2.Key)).Nodup := by
  rw [List.nodup_iff_pairwise_ne, List.pairwise_map]
  refine (arLt_sg h p).imp fun {a b} q e => ?_
  rw [Sum.inr.inj e] at q
  exact List.lt_irrefl _ q
/-! ### own dicts -/
theorem resD_dct {M : Mp} {p : Addr} {ks : List L2.Key} {ds : List D} (h : M p = some (.dct ks ds)) : resD M (.ref p) = .ref p := by
  simp only [resD, h]
theorem resK_ref {M : Mp} {p : Addr} {ks : List L2.Key} {ds : List D} (h : M p = some (.dct ks ds)) : resK M (.ref p) = some (ks, ds) := by
  simp only [resK, h]
theorem findK_in {fs : List Int} {ds : List D} {t : Int} (h : fs.length = ds.length) : (findK (fs.map Sum.inl) ds (.inl t)).isSome = decide (t ∈ fs) := by
  rw [findK_any (by rw [List.length_map]; exact h), Bool.eq_iff_iff, decide_eq_true_eq, List.any_map, List.any_eq_true]
  constructor
  · rintro ⟨x, hx, e⟩
    have := Sum.inl.inj (of_decide_eq_true e)
    exact this ▸ hx
  · intro hx
    exact ⟨t, hx, decide_eq_true rfl⟩
theorem inl_notin {fs : List Int} {t : Int} (h : t ∉ fs) : (Sum.inl t : L2.Key) ∉ fs.map Sum.inl := by
  intro q
  obtain ⟨x, hx, e⟩ := List.mem_map.mp q
  exact h (Sum.inl.inj e ▸ hx)
/-- numbers without doubles, none beyond 2, are at most three -/
theorem three {fs : List Int} (h : fs.Nodup) (hb : ∀ i ∈ fs, 0 ≤ i ∧ i ≤ 2) : fs.length ≤ 3 := by
  have h1 : (fs.map Int.toNat).Nodup := by
    rw [List.nodup_iff_pairwise_ne, List.pairwise_map]
    refine List.Pairwise.imp_of_mem ?_ h
    intro a b ha hb' hne e
    have := hb a ha
    have := hb b hb'
    exact hne (by omega)
  have := L2.nat_nodup_len (fs.map Int.toNat) [0, 1, 2] h1 fun x hx => by
    obtain ⟨i, hi, rfl⟩ := List.mem_map.mp hx
    have := hb i hi
    simp only [List.mem_cons, List.not_mem_nil, or_false]
    omega
  simpa using this
/-! ### the law -/
def sp_law : SpD := fun ds M Q _ => ∃ ns : List Int, ds = [.lsk (ns.map D.int)] ∧ ∀ M', Q (.bl true) M'
theorem law_ok (ns : List Int) : sp_law [.lsk (ns.map D.int)] (fun _ => none) (fun d _ => d = .bl true) X0 := ⟨ns, rfl, fun _ => rfl⟩
theorem eqD_nil {ds : List D} : eqD (.lst ds) (.lst []) = ds.isEmpty := by cases ds <;> rfl
theorem up_ext : ∀ {xs ys : List Int}, xs.Pairwise (· < ·) → ys.Pairwise (· < ·) → (∀ i, i ∈ xs ↔ i ∈ ys) → xs = ys
  | [], [], _, _, _ => rfl
  | [], y :: ys, _, _, h => absurd ((h y).mpr List.mem_cons_self) (by simp)
  | x :: xs, [], _, _, h => absurd ((h x).mp List.mem_cons_self) (by simp)
  | x :: xs, y :: ys, hx, hy, h => by
    rw [List.pairwise_cons] at hx hy
    have exy : x = y := by
      rcases List.mem_cons.mp ((h x).mp List.mem_cons_self) with e | e
      · exact e
      · rcases List.mem_cons.mp ((h y).mpr List.mem_cons_self) with e2 | e2
        · exact e2.symm
        · have := hy.1 x e; have := hx.1 y e2; omega
    subst exy
    rw [up_ext hx.2 hy.2 fun i => ?_]
    constructor
    · intro hi
      rcases List.mem_cons.mp ((h i).mp (List.mem_cons_of_mem _ hi)) with e | e
      · have := hx.1 i hi; omega
      · exact e
    · intro hi
      rcases List.mem_cons.mp ((h i).mpr (List.mem_cons_of_mem _ hi)) with e | e
      · have := hy.1 i hi; omega
      · exact e
mutual
theorem same_self : ∀ {n : Nat} {d : D}, D.le n d = true → sameD d d = true
  | _, .non, _ => rfl
  | _, .bl b, _ => by simp [sameD]
  | _, .int i, _ => by simp [sameD]
  | _, .str x, _ => by simp [sameD]
  | n + 1, .tup ds, h => by simpa [sameD] using sames_self (show D.les n ds = true by simpa [D.le] using h)
  | n + 1, .lst ds, h => by simpa [sameD] using sames_self (show D.les n ds = true by simpa [D.le] using h)
  | 0, .tup ds, h => by simp [D.le] at h
  | 0, .lst ds, h => by simp [D.le] at h
  | _, .ref _, h => by simp [D.le] at h
  | _, .ty _, h => by simp [D.le] at h
  | _, .lsk _, h => by simp [D.le] at h
  | _, .dct _ _, h => by simp [D.le] at h
  | _, .obj _ _, h => by simp [D.le] at h
  | _, .dkd _ _ _, h => by simp [D.le] at h
theorem sames_self : ∀ {n : Nat} {ds : List D}, D.les n ds = true → sameDs ds ds = true
  | _, [], _ => rfl
  | n, d :: ds, h => by
    have h' : D.le n d = true ∧ D.les n ds = true := by simpa [D.les] using h
    simp only [sameDs, same_self h'.1, sames_self h'.2, Bool.and_true]
end
theorem sub_len {α : Type} [BEq α] [LawfulBEq α] : ∀ {l m : List α}, l.Nodup → (∀ x ∈ l, x ∈ m) → l.length ≤ m.length
  | [], m, _, _ => Nat.zero_le _
  | x :: l, m, hn, h => by
    rw [List.nodup_cons] at hn
    have hx := h x List.mem_cons_self
    have ih := sub_len (l := l) (m := m.erase x) hn.2 fun y hy => by
      have hne : y ≠ x := fun e => hn.1 (e ▸ hy)
      exact (List.mem_erase_of_ne hne).mpr (h y (List.mem_cons_of_mem _ hy))
    rw [List.length_erase_of_mem hx] at ih
    have : 0 < m.length := List.length_pos_of_mem hx
    rw [List.length_cons]
    omega
end L3
set_option Elab.async false
set_option linter.all false
set_option maxRecDepth 100000
set_option maxHeartbeats 1000000
/-! Tables of sets of any size up to some thousands of members: slots, ways, laying anew. -/
namespace NS
open PySem PySem.Spec PyProof.Rows L2
/-! ### the sum 1 + 5 + 25 + .. meets every residue of a power of two -/
def geo : Nat → Nat
  | 0 => 0
  | n + 1 => geo n * 5 + 1
theorem geo_pow : ∀ n, 5 ^ n = 4 * geo n + 1
  | 0 => rfl
  | n + 1 => by rw [Nat.pow_succ, geo_pow n]; show _ = 4 * (geo n * 5 + 1) + 1; omega
theorem geo_add (a : Nat) : ∀ b, geo (a + b) = geo a * 5 ^ b + geo b
  | 0 => by simp [geo]
  | b + 1 => by
    show geo (a + b) * 5 + 1 = geo a * 5 ^ (b + 1) + (geo b * 5 + 1)
    rw [geo_add a b, Nat.pow_succ, ← Nat.mul_assoc, Nat.add_mul]; omega
theorem geo_two : ∀ k, ∃ o, geo (2 ^ k) = 2 ^ k * (2 * o + 1)
  | 0 => ⟨0, rfl⟩
  | k + 1 => by
    obtain ⟨o, e⟩ := geo_two k
    refine ⟨2 * o * geo (2 ^ k) + o + geo (2 ^ k), ?_⟩
    have e1 : geo (2 ^ (k + 1)) = geo (2 ^ k) * (2 * (2 * geo (2 ^ k) + 1)) := by
      rw [Nat.pow_succ, Nat.mul_two, geo_add, geo_pow]
      generalize geo (2 ^ k) = g
      rw [Nat.mul_add, Nat.mul_add, Nat.mul_add]; simp [Nat.mul_assoc, Nat.mul_comm, Nat.mul_left_comm]; omega
    have e2 : 2 * (2 * o * geo (2 ^ k) + o + geo (2 ^ k)) + 1 = (2 * o + 1) * (2 * geo (2 ^ k) + 1) := by
      generalize geo (2 ^ k) = g
      rw [Nat.add_mul, Nat.mul_add]; simp [Nat.mul_assoc, Nat.mul_comm, Nat.mul_left_comm, Nat.mul_add]; omega
    rw [e1, e2, Nat.pow_succ]
    generalize geo (2 ^ k) = g at e
    generalize 2 ^ k = P at e
    calc g * (2 * (2 * g + 1)) = (P * (2 * o + 1)) * (2 * (2 * g + 1)) := by rw [← e]
      _ = P * 2 * ((2 * o + 1) * (2 * g + 1)) := by
        generalize 2 * o + 1 = x
        generalize 2 * g + 1 = y
        simp [Nat.mul_assoc, Nat.mul_comm, Nat.mul_left_comm]
theorem two_step {P a j : Nat} (hP : 0 < P) (hj : j < P * 2) (e : a % P = j % P) : a % (P * 2) = j ∨ (a + P) % (P * 2) = j := by
  have dj : j = j % P + P * (j / P % 2) := by
    conv => lhs; rw [← Nat.mod_eq_of_lt hj]
    exact Nat.mod_mul
  have q1 : (a + P) / P = a / P + 1 := Nat.add_div_right a hP
  have q2 : (a + P) % P = a % P := Nat.add_mod_right a P
  rcases Nat.decEq (a / P % 2) (j / P % 2) with c | c
  · right
    rw [Nat.mod_mul, q1, q2, e]
    have : (a / P + 1) % 2 = j / P % 2 := by omega
    rw [this]; exact dj.symm
  · left
    rw [Nat.mod_mul, e, c]; exact dj.symm
theorem geo_meets : ∀ k j, j < 2 ^ k → ∃ n, n < 2 ^ k ∧ geo n % 2 ^ k = j
  | 0, j, h => ⟨0, by decide, by simp at h; simp [geo, h]⟩
  | k + 1, j, h => by
    have hP : 0 < 2 ^ k := Nat.two_pow_pos k
    rw [Nat.pow_succ] at h
    obtain ⟨n, hn, e⟩ := geo_meets k (j % 2 ^ k) (Nat.mod_lt _ hP)
    rw [Nat.pow_succ]
    rcases two_step hP h e with z | z
    · exact ⟨n, by omega, z⟩
    · refine ⟨2 ^ k + n, by omega, ?_⟩
      obtain ⟨o, eo⟩ := geo_two k
      have e1 : geo (2 ^ k + n) = geo n + 2 ^ k + 2 ^ k * 2 * (4 * o * geo n + o + 2 * geo n) := by
        rw [geo_add, eo, geo_pow]
        generalize geo n = g
        generalize 2 ^ k = P
        have : (2 * o + 1) * (4 * g + 1) = 1 + 2 * (4 * o * g + o + 2 * g) := by
          rw [Nat.add_mul, Nat.mul_add]; simp [Nat.mul_assoc, Nat.mul_comm, Nat.mul_left_comm, Nat.mul_add]; omega
        rw [Nat.mul_assoc, this, Nat.mul_add, Nat.mul_one, ← Nat.mul_assoc]; omega
      rw [e1, Nat.add_mul_mod_self_left]; exact z
/-! ### the masks -/
def MaskG (m : Nat) : Prop := m = 7 ∨ m = 31 ∨ m = 127 ∨ m = 511 ∨ m = 2047 ∨ m = 8191
theorem MaskG.two {m : Nat} (h : MaskG m) : ∃ k, m + 1 = 2 ^ k := by
  rcases h with rfl | rfl | rfl | rfl | rfl | rfl
  · exact ⟨3, rfl⟩
  · exact ⟨5, rfl⟩
  · exact ⟨7, rfl⟩
  · exact ⟨9, rfl⟩
  · exact ⟨11, rfl⟩
  · exact ⟨13, rfl⟩
theorem MaskG.odd {m : Nat} (h : MaskG m) : m % 2 = 1 := by rcases h with rfl | rfl | rfl | rfl | rfl | rfl <;> rfl
theorem MaskG.le {m : Nat} (h : MaskG m) : m ≤ 8191 := by rcases h with rfl | rfl | rfl | rfl | rfl | rfl <;> decide
theorem MaskG.pos {m : Nat} (h : MaskG m) : 7 ≤ m := by rcases h with rfl | rfl | rfl | rfl | rfl | rfl <;> decide
theorem orb_geo (m : Nat) : ∀ n, lcgN m n = geo n % (m + 1)
  | 0 => (Nat.zero_mod _).symm
  | n + 1 => by
    show (lcgN m n * 5 + 1) % (m + 1) = (geo n * 5 + 1) % (m + 1)
    rw [orb_geo m n, Nat.add_mod, Nat.mod_mul_mod, ← Nat.add_mod]
/-- from each slot the leaps come to each -/
theorem leaps_meet {m : Nat} (hm : MaskG m) {i j : Nat} (hi : i ≤ m) (hj : j ≤ m) : ∃ k, k ≤ m ∧ lcgI m i k = j := by
  obtain ⟨p, hp⟩ := hm.two
  obtain ⟨a, ha, ea⟩ := geo_meets p i (by omega)
  obtain ⟨b, hb, eb⟩ := geo_meets p j (by omega)
  rw [← hp] at ha hb ea eb
  have from_ : ∀ k, lcgI m i k = geo (a + k) % (m + 1) := fun k => by rw [← orb_geo, ← lcgN_add, orb_geo, ea]
  by_cases c : a ≤ b
  · exact ⟨b - a, by omega, by rw [from_, Nat.add_sub_cancel' c]; exact eb⟩
  · refine ⟨b + (m + 1) - a, by omega, ?_⟩
    obtain ⟨o, eo⟩ := geo_two p
    rw [from_, show a + (b + (m + 1) - a) = (m + 1) + b by omega, geo_add, hp, eo, Nat.mul_assoc, Nat.mul_add_mod, ← hp]
    exact eb
/-- the run that begins at a slot comes early enough -/
theorem runs_meet {m : Nat} (hm : MaskG m) (h : Int) {j : Nat} (hj : j ≤ m) : ∃ n, n ≤ m + 12 ∧ runI m (SetTable.bits h) n = j := by
  obtain ⟨k, h1, h2⟩ := leaps_meet hm (runI_le m (SetTable.bits h) 12) hj
  exact ⟨12 + k, by omega, (runI_tail (bits_lt h) k).trans h2⟩
theorem way_in {m : Nat} (h : Int) (n : Nat) : way m h n ≤ m := by
  have s : SetTable.bits h % (m + 1) ≤ m := Nat.le_of_lt_succ (Nat.mod_lt _ (Nat.succ_pos m))
  have := nth_in (m := m) n (runAt m (SetTable.bits h % (m + 1)) (SetTable.bits h)) (by
    have := runEnd_bd s
    show SetTable.bits h % (m + 1) + (SetTable.runEnd m (SetTable.bits h % (m + 1)) - SetTable.bits h % (m + 1)) ≤ m
    omega)
  show (nth m _ n).j ≤ m
  omega
theorem way_meets {m : Nat} (hm : MaskG m) (h : Int) {j : Nat} (hj : j ≤ m) : ∃ k, k < 10 * SetTable.turns m ∧ way m h k = j := by
  obtain ⟨n, h1, h2⟩ := runs_meet hm h hj
  obtain ⟨k, h3, h4⟩ := run_nth m (SetTable.bits h) n
  refine ⟨k, ?_, by show (nth m _ k).j = j; rw [h4]; exact h2⟩
  show k < 10 * (m + 15)
  omega
/-! ### a table of which each hash is found again -/
structure TabG (t : SetTable) (hs : List Int) : Prop where
  ris : Ris t.place.toList
  dm : t.dummies = #[]
  sz : t.place.size = hs.length
  mok : MaskG t.mask
  bd : ∀ x ∈ t.place.toList, x ≤ t.mask
  found : ∀ q ∈ hs.zip t.place.toList, ∃ n, way t.mask q.1 n = q.2 ∧ ∀ n', n' < n → way t.mask q.1 n' ∈ t.place.toList
section
variable {t : SetTable} {hs : List Int}
theorem TabG.len (T : TabG t hs) : t.place.toList.length = hs.length := T.sz
theorem TabG.first (T : TabG t hs) (hl : hs.length ≤ t.mask) (h : Int) : ∃ N, N < 10 * SetTable.turns t.mask ∧ way t.mask h N ∉ t.place.toList ∧ ∀ n, n < N → way t.mask h n ∈ t.place.toList := by
  obtain ⟨j, hj, out⟩ := st_missing t.place.toList (t.mask + 1) (by rw [T.len]; omega)
  obtain ⟨k, hk, e⟩ := way_meets T.mok h (Nat.le_of_lt_succ hj)
  subst e
  obtain ⟨N, h1, h2, h3⟩ := st_least (p := fun n => way t.mask h n ∉ t.place.toList) k out
  exact ⟨N, Nat.lt_of_le_of_lt h1 hk, h2, fun n hn => Decidable.of_not_not (h3 n hn)⟩
theorem TabG.before (T : TabG t hs) {h : Int} {N i j : Nat} (free : way t.mask h N ∉ t.place.toList) (hi : hs[i]? = some h) (hj : t.place.toList[i]? = some j) : ∃ n, n < N ∧ way t.mask h n = j := by
  have mem : (h, j) ∈ hs.zip t.place.toList := List.mem_iff_getElem?.mpr ⟨i, List.getElem?_zip_eq_some.mpr ⟨hi, hj⟩⟩
  obtain ⟨n, e, b⟩ := T.found _ mem
  refine ⟨n, Decidable.byContradiction fun c => ?_, e⟩
  by_cases c2 : n = N
  · subst c2; rw [e] at free; exact free (List.mem_of_getElem? hj)
  · exact free (b N (by omega))
theorem TabG.put (T : TabG t hs) {h : Int} {N : Nat} (free : way t.mask h N ∉ t.place.toList) (full : ∀ n, n < N → way t.mask h n ∈ t.place.toList) :
    (t.put (way t.mask h N)).2 = SetTable.below t.place (way t.mask h N) ∧ SetTable.below t.place (way t.mask h N) ≤ hs.length ∧
    TabG (t.put (way t.mask h N)).1 (hs.take (SetTable.below t.place (way t.mask h N)) ++ h :: hs.drop (SetTable.below t.place (way t.mask h N))) ∧
    (t.put (way t.mask h N)).1.mask = t.mask ∧ (t.put (way t.mask h N)).1.led = t.led := by
  generalize hj : way t.mask h N = j at free
  have jm : j ≤ t.mask := hj ▸ way_in h N
  have cut := (below_cut T.ris j).1
  generalize hp : SetTable.below t.place j = p at cut
  have pl : p ≤ hs.length := by rw [← T.sz]; exact cut
  have ep : (t.put j).1.place.toList = t.place.toList.take p ++ j :: t.place.toList.drop p := by rw [put_place, hp]
  have more : ∀ x, x ∈ t.place.toList → x ∈ (t.put j).1.place.toList := fun x hx => by rw [ep]; exact mem_ins.mpr (.inr hx)
  refine ⟨hp, pl, ⟨?_, put_dm T.dm j, ?_, T.mok, fun x hx => ?_, fun q hq => ?_⟩, rfl, rfl⟩
  · exact ris_insert T.ris fun e => free (List.mem_of_getElem? (i := SetTable.below t.place j) (by rw [Array.getElem?_toList]; exact e))
  · rw [← Array.length_toList, ep, len_ins _ (by rw [T.len]; exact pl), len_ins _ pl, T.len]
  · rw [ep] at hx
    rcases mem_ins.mp hx with rfl | hx
    · exact jm
    · exact T.bd x hx
  · rw [ep, List.zip_append (by rw [List.length_take, List.length_take, T.len]), List.zip_cons_cons] at hq
    have : q = (h, j) ∨ q ∈ hs.zip t.place.toList := by
      rcases List.mem_append.mp hq with z | z
      · right
        exact List.mem_of_mem_take (i := p) (by rw [List.zip, List.take_zipWith]; exact z)
      · rcases List.mem_cons.mp z with z | z
        · exact .inl z
        · exact .inr (List.mem_of_mem_drop (i := p) (by rw [List.zip, List.drop_zipWith]; exact z))
    rcases this with rfl | z
    · exact ⟨N, hj, fun n hn => more _ (full n hn)⟩
    · obtain ⟨n, e, b⟩ := T.found q z
      exact ⟨n, e, fun n' hn' => more _ (b n' hn')⟩
end
/-! ### all laid anew -/
/-- a free slot is found: the first on the way -/
theorem free_on {m : Nat} (hm : MaskG m) (owner : Array (Option Nat)) (h : Int) {j : Nat} (hj : j ≤ m) (he : oAt owner j = none) :
    ∃ N, SetTable.layClean.free m owner (SetTable.turns m) (SetTable.bits h % (m + 1)) (SetTable.bits h) = some (way m h N) ∧ oAt owner (way m h N) = none ∧ ∀ n, n < N → oAt owner (way m h n) ≠ none := by
  obtain ⟨r, hr, e⟩ := runs_meet hm h hj
  have at_ : way m h (off m (SetTable.bits h % (m + 1)) (SetTable.bits h) r) = j := by
    show (nth m _ _).j = j
    rw [nth_off, itL_run]; exact e
  obtain ⟨N, n1, n2, n3⟩ := st_least (p := fun n => oAt owner (way m h n) = none) _ (by show oAt owner (way m h _) = none; rw [at_]; exact he)
  have occ : ∀ n, n < N → (oAt owner (way m h n)).isNone = false := fun n hn => by
    have := n3 n hn
    cases z : oAt owner (way m h n) with
    | none => exact absurd z this
    | some _ => rfl
  exact ⟨N, free_spec m owner _ r _ _ N (by show r < m + 15; omega) n1 occ (by rw [n2]; rfl), n2, n3⟩
theorem own_more {m : Nat} (hm : MaskG m) {done : List Int} {owner : Array (Option Nat)} (W : Own m done owner) (few : done.length ≤ m) (h : Int) :
    ∃ j, SetTable.layClean.free m owner (SetTable.turns m) (SetTable.bits h % (m + 1)) (SetTable.bits h) = some j ∧ Own m (done ++ [h]) (owner.setIfInBounds j (some done.length)) := by
  obtain ⟨ps, lps, inps⟩ := W.ps
  obtain ⟨j0, l0, n0⟩ := st_missing ps (m + 1) (by rw [lps]; omega)
  have e0 : oAt owner j0 = none := Decidable.byContradiction fun c => n0 (inps j0 (Nat.le_of_lt_succ l0) c)
  obtain ⟨N, told, here, full⟩ := free_on hm owner h (Nat.le_of_lt_succ l0) e0
  have inb := way_in (m := m) h N
  generalize hw : way m h N = j at told here inb
  have new : oAt (owner.setIfInBounds j (some done.length)) j = some done.length := oAt_set_self _ (by rw [W.sz]; omega)
  have old : ∀ i, i ≠ j → oAt (owner.setIfInBounds j (some done.length)) i = oAt owner i := fun i hi => oAt_set_ne _ hi
  have still : ∀ i, oAt owner i ≠ none → oAt (owner.setIfInBounds j (some done.length)) i ≠ none := fun i hi => by rw [old i fun e => hi (e ▸ here)]; exact hi
  refine ⟨j, told, ⟨by rw [Array.size_setIfInBounds]; exact W.sz, fun i k hi e => ?_, fun k hk => ?_, j :: ps, by simp [lps], fun i hi e => ?_⟩⟩
  · by_cases c : i = j
    · subst c
      rw [new] at e; cases e
      exact ⟨h, N, by simp, hw, fun n hn => still _ (full n hn)⟩
    · rw [old i c] at e
      obtain ⟨h', n, a1, a2, a3⟩ := W.at_ i k hi e
      have lt := (List.getElem?_eq_some_iff.mp a1).1
      exact ⟨h', n, by rw [List.getElem?_append_left lt]; exact a1, a2, fun n' hn' => still _ (a3 n' hn')⟩
  · rcases Nat.lt_or_ge k done.length with c | c
    · obtain ⟨i, hi, e⟩ := W.all k c
      exact ⟨i, hi, by rw [old i fun z => by rw [z, here] at e; cases e]; exact e⟩
    · have : k = done.length := by simp at hk; omega
      subst this; exact ⟨j, inb, new⟩
  · by_cases c : i = j
    · subst c; exact List.mem_cons_self
    · rw [old i c] at e; exact List.mem_cons_of_mem _ (inps i hi e)
theorem lay_rest {m : Nat} (hm : MaskG m) : ∀ (rest done : List Int) (owner : Array (Option Nat)), Own m done owner → done.length + rest.length ≤ m →
    ∃ own2, (rest.foldl (stepF m) (some (owner, done.length))).map (·.1) = some own2 ∧ Own m (done ++ rest) own2 := by
  intro rest
  induction rest with
  | nil => intro done owner W _; exact ⟨owner, rfl, by rw [List.append_nil]; exact W⟩
  | cons h rest ih =>
    intro done owner W few
    simp only [List.length_cons] at few
    obtain ⟨j, told, W2⟩ := own_more hm W (by omega) h
    have l1 : (done ++ [h]).length = done.length + 1 := by simp
    obtain ⟨own2, e, W3⟩ := ih (done ++ [h]) _ W2 (by omega)
    refine ⟨own2, ?_, by rw [← List.append_cons] at W3; exact W3⟩
    rw [List.foldl_cons, stepF_some told, ← l1]; exact e
theorem lay_all {m : Nat} (hm : MaskG m) {hs : Array Int} (few : hs.size ≤ m) : ∃ owner, SetTable.layClean m hs = some owner ∧ Own m hs.toList owner := by
  rw [layClean_eq]
  exact lay_rest hm hs.toList [] _ (Own.init m) (by simpa using few)
theorem laid_anew (t : SetTable) {hs : Array Int} {want M : Nat} (hw : SetTable.sizeAbove want - 1 = M) (hM : MaskG M) (few : hs.size ≤ M) :
    ∃ t' ord, t.relaid hs want = some (t', ord) ∧ ord.toList.Perm (List.range hs.size) ∧ TabG t' (ord.toList.map fun i => hs.getD i 0) ∧ t'.mask = M ∧ t'.led = t.led := by
  obtain ⟨owner, e, W⟩ := lay_all hM few
  have told := relaid_eq t hs want
  rw [hw, e] at told
  have risen := ris_live (fun j => owner.getD j none) (List.range (M + 1)) List.pairwise_lt_range
  have mem : ∀ q, q ∈ liveOf M owner → q.1 ≤ M ∧ oAt owner q.1 = some q.2 := fun q hq => (mem_live W.sz).mp hq
  have each : ∀ k, k < hs.size → k ∈ (liveOf M owner).map (·.2) := fun k hk => by
    obtain ⟨j, hj, z⟩ := W.all k hk
    exact List.mem_map.mpr ⟨(j, k), (mem_live W.sz).mpr ⟨hj, z⟩, rfl⟩
  have len : (liveOf M owner).length = hs.size := by
    obtain ⟨ps, lps, inps⟩ := W.ps
    have up := nat_nodup_len ((liveOf M owner).map fun q : Nat × Nat => q.1) ps (risen.1.imp fun z => Nat.ne_of_lt z) fun x hx => by
      obtain ⟨q, hq, rfl⟩ := List.mem_map.mp hx
      exact inps _ (mem q hq).1 (by rw [(mem q hq).2]; exact fun z => nomatch z)
    have dn := nat_nodup_len (List.range hs.size) ((liveOf M owner).map fun q : Nat × Nat => q.2) List.nodup_range fun k hk => each k (List.mem_range.mp hk)
    rw [List.length_map, lps, Array.length_toList] at up
    rw [List.length_map, List.length_range] at dn
    exact Nat.le_antisymm up dn
  refine ⟨_, _, told, perm_range hs.size _ (by simpa using len) each, ⟨risen.1, rfl, by simp [tabOf], hM, fun x hx => ?_, fun q hq => ?_⟩, rfl, rfl⟩
  · obtain ⟨q, hq, rfl⟩ := List.mem_map.mp (show x ∈ (liveOf M owner).map (·.1) from hx)
    exact (mem q hq).1
  · rw [show (tabOf t M owner).place.toList = (liveOf M owner).map (·.1) from rfl, show (((liveOf M owner).map (·.2)).toArray.toList.map fun i => hs.getD i 0) = (liveOf M owner).map fun r => hs.getD r.2 0 by simp, List.zip_map'] at hq
    obtain ⟨r, hr, rfl⟩ := List.mem_map.mp hq
    obtain ⟨z1, z2⟩ := mem r hr
    obtain ⟨h, n, a1, a2, a3⟩ := W.at_ r.1 r.2 z1 z2
    have eh : hs.getD r.2 0 = h := by rw [Array.getD_eq_getD_getElem?, ← Array.getElem?_toList, a1]; rfl
    dsimp only
    rw [eh]
    refine ⟨n, a2, fun n' hn' => ?_⟩
    show way M h n' ∈ (liveOf M owner).map (·.1)
    cases z : oAt owner (way M h n') with
    | none => exact absurd z (a3 n' hn')
    | some k => exact List.mem_map.mpr ⟨(_, k), (mem_live W.sz).mpr ⟨way_in h n', z⟩, rfl⟩
theorem size_of_5 : SetTable.sizeAbove (SetTable.grown 5) = 32 := by decide +kernel
theorem size_of_19 : SetTable.sizeAbove (SetTable.grown 19) = 128 := by decide +kernel
theorem size_of_77 : SetTable.sizeAbove (SetTable.grown 77) = 512 := by decide +kernel
theorem size_of_307 : SetTable.sizeAbove (SetTable.grown 307) = 2048 := by decide +kernel
theorem size_of_1229 : SetTable.sizeAbove (SetTable.grown 1229) = 8192 := by decide +kernel
end NS
set_option Elab.async false
set_option linter.all false
set_option maxRecDepth 100000
set_option maxHeartbeats 1000000
/-! Sets of tuples of any depth (numbers, texts, None, tuples): built of a list, sorted. -/
namespace NS
open PySem PySem.Spec PyProof.Rows L2
section
variable {P : Program} {w : World}
/-- what a look at a key tells, whoever asks -/
abbrev Tells (P : Program) (w : World) (s : Shared) (m : Sem Bool) (b : Bool) : Prop := ∀ (A : Around) (E : Value → Shared → Prop) (Q : Bool → Shared → Prop), Q b s → wpAny (model P w) A m Q E s
/-- .. or one of both -/
abbrev TellsAny (P : Program) (w : World) (s : Shared) (m : Sem Bool) : Prop := ∀ (A : Around) (E : Value → Shared → Prop) (Q : Bool → Shared → Prop), (∀ b, Q b s) → wpAny (model P w) A m Q E s
theorem cls_tup {n : Nat} {s : Shared} {a : Addr} {o : Obj} {vs : Array Value} {m : Nat} (ho : s.heap.get? a = some o) (hc : o.cls = .type "tuple") (hd : o.data = .seq vs m) (hq : ∀ v ∈ vs.toList, Tells P w s (ofAClassStatement n v) false) :
    Tells P w s (ofAClassStatement (n + 1) (.ref a)) false := fun A E Q h => by
  have ty : s.TypeIs (.ref a) "tuple" := ⟨o, ho, hc⟩
  unfold ofAClassStatement
  refine wpAny_bind (wpAny_typeOf ty ?_)
  have et : ("tuple" == "tuple") = true := by decide
  simp only [et, if_true, Bool.not_true, Bool.false_eq_true, if_false]
  try refine wpAny_bind (wpAny_pure ?_)
  try simp only [Bool.not_true, Bool.false_eq_true, if_false]
  refine wpAny_bind (m := seqItems? (.ref a)) (wpAny_seqItems ho hd ?_)
  refine wpAny_bind ?_
  show wpAny _ _ (forIn vs _ _) _ _ s
  rw [← Array.forIn_toList]
  exact wpAny_forIn_list _ (fun left acc s1 => acc.1 = none ∧ s1 = s ∧ ∀ v ∈ left, Tells P w s (ofAClassStatement n v) false) _ (fun v left acc s1 ⟨h1, h2, h3⟩ => by
    subst h2
    refine wpAny_bind (h3 v List.mem_cons_self _ _ _ ?_)
    simp only [Bool.false_eq_true, if_false]
    exact wpAny_pure ⟨rfl, rfl, fun u hu => h3 u (List.mem_cons_of_mem _ hu)⟩) (fun ⟨a1, a2⟩ s1 ⟨h1, h2, _⟩ => by
    simp only at h1
    subst h1 h2
    exact wpAny_pure h) _ _ ⟨rfl, rfl, hq⟩
theorem hby_tup {n : Nat} {s : Shared} {a : Addr} {o : Obj} {vs : Array Value} {m : Nat} (ho : s.heap.get? a = some o) (hc : o.cls = .type "tuple") (hd : o.data = .seq vs m) (hq : ∀ v ∈ vs.toList, TellsAny P w s (hashByValue n v)) :
    TellsAny P w s (hashByValue (n + 1) (.ref a)) := fun A E Q h => by
  have ty : s.TypeIs (.ref a) "tuple" := ⟨o, ho, hc⟩
  unfold hashByValue
  refine wpAny_bind (wpAny_specialOf ty F.slot_tuple_hash.lookup ?_)
  refine wpAny_bind (m := seqItems? (.ref a)) (wpAny_seqItems ho hd ?_)
  refine wpAny_bind ?_
  show wpAny _ _ (forIn vs _ _) _ _ s
  rw [← Array.forIn_toList]
  refine wpAny_forIn_list _ (fun left acc s1 => acc.1 = none ∧ s1 = s ∧ ∀ v ∈ left, TellsAny P w s (hashByValue n v)) _ (fun v left acc s1 ⟨h1, h2, h3⟩ => ?_) (fun ⟨a1, a2⟩ s1 ⟨h1, h2, _⟩ => ?_) _ _ ⟨rfl, rfl, hq⟩
  · subst h2
    refine wpAny_bind (h3 v List.mem_cons_self _ _ _ fun b => ?_)
    cases b with
    | true =>
      simp only [Bool.not_true, Bool.false_eq_true, if_false]
      exact wpAny_pure ⟨rfl, rfl, fun u hu => h3 u (List.mem_cons_of_mem _ hu)⟩
    | false =>
      simp only [Bool.not_false, if_true]
      exact wpAny_pure (wpAny_pure (h false))
  · simp only at h1
    subst h1 h2
    exact wpAny_pure (h true)
mutual
theorem cls_key : ∀ (k : NestedKey) (v : Value) (n : Nat) (s : Shared), NestedIs s.heap k v → k.depth ≤ n → Tells P w s (ofAClassStatement n v) false
  | .none, _, n, s, x, _ => by cases x; intro A E Q h; cases n <;> exact wpAny_pure h
  | .num i, _, n, s, x, _ => by cases x <;> (intro A E Q h; cases n <;> exact wpAny_pure h)
  | .text y, _, n, s, x, _ => by cases x; intro A E Q h; cases n <;> exact wpAny_pure h
  | .tup ks, _, n, s, x, hn => by
    cases x with
    | tup hg hc hd hk =>
      simp only [NestedKey.depth] at hn
      cases n with
      | zero => omega
      | succ n => exact cls_tup hg hc hd (cls_keys ks _ n s hk (by omega))
theorem cls_keys : ∀ (ks : List NestedKey) (vs : List Value) (n : Nat) (s : Shared), NestedAll s.heap ks vs → NestedKey.depthAll ks ≤ n → ∀ v ∈ vs, Tells P w s (ofAClassStatement n v) false
  | [], _, n, s, x, _, v, hv => by cases x; cases hv
  | k :: ks, _, n, s, x, hn, v, hv => by
    cases x with
    | cons x1 x2 =>
      simp only [NestedKey.depthAll] at hn
      rcases List.mem_cons.mp hv with e | hv
      · subst e; exact cls_key k _ n s x1 (by omega)
      · exact cls_keys ks _ n s x2 (by omega) v hv
end
mutual
theorem hby_key : ∀ (k : NestedKey) (v : Value) (n : Nat) (s : Shared), NestedIs s.heap k v → k.depth ≤ n → TellsAny P w s (hashByValue n v)
  | .none, _, n, s, x, _ => by cases x; intro A E Q h; cases n <;> exact wpAny_pure (h _)
  | .num i, _, n, s, x, _ => by cases x <;> (intro A E Q h; cases n <;> exact wpAny_pure (h _))
  | .text y, _, n, s, x, _ => by cases x; intro A E Q h; cases n <;> exact wpAny_pure (h _)
  | .tup ks, _, n, s, x, hn => by
    cases x with
    | tup hg hc hd hk =>
      simp only [NestedKey.depth] at hn
      cases n with
      | zero => omega
      | succ n => exact hby_tup hg hc hd (hby_keys ks _ n s hk (by omega))
theorem hby_keys : ∀ (ks : List NestedKey) (vs : List Value) (n : Nat) (s : Shared), NestedAll s.heap ks vs → NestedKey.depthAll ks ≤ n → ∀ v ∈ vs, TellsAny P w s (hashByValue n v)
  | [], _, n, s, x, _, v, hv => by cases x; cases hv
  | k :: ks, _, n, s, x, hn, v, hv => by
    cases x with
    | cons x1 x2 =>
      simp only [NestedKey.depthAll] at hn
      rcases List.mem_cons.mp hv with e | hv
      · subst e; exact hby_key k _ n s x1 (by omega)
      · exact hby_keys ks _ n s x2 (by omega) v hv
end
/-! ### a key at an address -/
/-- the tuple at b is the key k -/
structure Kat (h : Heap) (k : NestedKey) (b : Addr) : Prop where
  is : NestedIs h k (.ref b)
  dp : k.depth ≤ 8
theorem Kat.keep {h h' : Heap} {k : NestedKey} {b : Addr} (x : Kat h k b) (hk : ∀ c o, h.get? c = some o → h'.get? c = some o) : Kat h' k b := ⟨x.is.at (fun a o _ _ e _ => hk a o e) k _ , x.dp⟩
theorem Kat.but {h h' : Heap} {k : NestedKey} {a b : Addr} {o : Obj} {es : Array (Int × Value)} {ep : Nat} {t : SetTable} (x : Kat h k b) (ho : h.get? a = some o) (hd : o.data = .set es ep t) (hs : Heap.SameBut a h h') : Kat h' k b :=
  ⟨NestedIs.at (fun c u vs n e1 e2 => (hs.2 c fun e => by
    subst e
    rw [ho] at e1
    cases e1
    rw [hd] at e2
    cases e2).trans e1) k _ x.is, x.dp⟩
theorem Kat.one {h : Heap} {x y : NestedKey} {b : Addr} (hx : Kat h x b) (hy : Kat h y b) : x = y := NestedIs.inj x y _ hx.is hy.is
theorem Kat.eq {s : Shared} {x y : NestedKey} {a b : Addr} {A : Around} {E : Value → Shared → Prop} {Q : Bool → Shared → Prop} (hu : A.units + 8 < cLine) (hx : Kat s.heap x a) (hy : Kat s.heap y b) (h : Q (decide (x = y)) s) : wpAny (model P w) A (eqBool (.ref a) (.ref b)) Q E s :=
  (nestedKind P w).eqBool hu ⟨hx.is, hx.dp⟩ ⟨hy.is, hy.dp⟩ h
/-- a search among such tuples shows nothing -/
theorem seen_none {s : Shared} {k : NestedKey} {b : Addr} {A : Around} {E : Value → Shared → Prop} {Q : Bool → Shared → Prop} (hk : Kat s.heap k b) {ys : List Value} (hy : ∀ y ∈ ys, ∃ k' c, y = Value.ref c ∧ Kat s.heap k' c) (h : Q false s) :
    wpAny (model P w) A (searchCouldBeSeen (.ref b) ys) Q E s := by
  unfold searchCouldBeSeen
  refine wpAny_bind (wpAny_forIn_list _ (fun left acc s1 => acc.1 = none ∧ s1 = s ∧ ∀ y ∈ left, ∃ k' c, y = Value.ref c ∧ Kat s.heap k' c) _ (fun v left acc s1 ⟨h1, h2, h3⟩ => ?_) (fun ⟨a1, a2⟩ s1 ⟨h1, h2, _⟩ => ?_) _ _ ⟨rfl, rfl, hy⟩)
  · subst h2
    obtain ⟨k', c, e, hc⟩ := h3 v List.mem_cons_self
    subst e
    have next := fun u hu => h3 u (List.mem_cons_of_mem _ hu)
    dsimp only
    by_cases same : (b == c || (carriedByValue (.ref b) && carriedByValue (.ref c))) = true
    · exact wp_if_pos same (wpAny_pure ⟨rfl, rfl, next⟩)
    refine wp_if_neg same (wpAny_bind ((nestedKind P w).quiet ⟨hk.is, hk.dp⟩ ?_))
    simp only [Bool.not_true, Bool.false_eq_true, if_false]
    refine wpAny_bind ((nestedKind P w).quiet ⟨hc.is, hc.dp⟩ ?_)
    simp only [Bool.not_true, Bool.false_eq_true, if_false]
    refine wpAny_bind (cls_key k _ 8 _ hk.is hk.dp _ _ _ ?_)
    simp only [Bool.false_eq_true, if_false]
    refine wpAny_bind (cls_key k' _ 8 _ hc.is hc.dp _ _ _ ?_)
    simp only [Bool.false_eq_true, if_false]
    exact wpAny_pure ⟨rfl, rfl, next⟩
  · simp only at h1
    subst h1 h2
    exact wpAny_pure h
end
/-! ### the set -/
section
variable {P : Program} {w : World}
/-- the rows of the set, by the keys at their addresses -/
def rowsN (w : World) (L : List (Addr × NestedKey)) : List (Int × Value) := L.map fun r => (r.2.hash w, Value.ref r.1)
abbrev hsN (w : World) (L : List (Addr × NestedKey)) : List Int := L.map fun r => r.2.hash w
structure NSet (w : World) (h : Heap) (a : Addr) (L : List (Addr × NestedKey)) (es : Array (Int × Value)) (ep : Nat) (t : SetTable) : Prop where
  obj : ∃ o, h.get? a = some o ∧ o.ExactSet ∧ o.data = .set es ep t
  row : es.toList = rowsN w L
  tb : TabG t (hsN w L)
  uniq : (L.map (·.2)).Nodup
  key : ∀ r ∈ L, Kat h r.2 r.1
  led : w.params.followText "set-order" = true ∨ t.led = true
  free : L.length * 5 < t.mask * 3
  few : L.length < 4096
section
variable {s : Shared} {a : Addr} {L : List (Addr × NestedKey)} {es : Array (Int × Value)} {ep : Nat} {t : SetTable}
theorem rows_len (e : es.toList = rowsN w L) : es.size = L.length := by
  rw [← Array.length_toList, e]; unfold rowsN; exact List.length_map ..
theorem NSet.fit (S : NSet w s.heap a L es ep t) : t.fits es.size = true := by
  have z := S.tb.sz
  rw [List.length_map] at z
  have f := S.free
  rw [rows_len S.row]
  unfold SetTable.fits SetTable.fill
  rw [S.tb.dm, Bool.and_eq_true, beq_iff_eq, decide_eq_true_eq]
  refine ⟨z, ?_⟩
  show t.place.size + 0 ≤ t.mask
  omega
theorem NSet.get (S : NSet w s.heap a L es ep t) {i : Nat} {r : Addr × NestedKey} (e : L[i]? = some r) : es[i]? = some (r.2.hash w, Value.ref r.1) := by
  rw [← Array.getElem?_toList, S.row, rowsN, List.getElem?_map, e]; rfl
/-- the probe behind c steps -/
abbrev prb (m : Nat) (h : Int) (c : Nat) : SetTable.Probe := nth m (runAt m (SetTable.bits h % (m + 1)) (SetTable.bits h)) c
theorem prb_add (m : Nat) (h : Int) (c q : Nat) : nth m (prb m h c) q = prb m h (c + q) := (nth_add m c _ q).symm
theorem nodummy (m : Nat) : ∀ (n : Nat) (p : SetTable.Probe), p.dummy = none → (nth m p n).dummy = none
  | 0, _, e => e
  | n + 1, p, e => nodummy m n (adv m p) (by unfold adv; split <;> exact e)
theorem search_on {A : Around} {E : Value → Shared → Prop} (S : NSet w s.heap a L es ep t) {x : Addr} {k : NestedKey} (hx : Kat s.heap k x) (hu : A.units + 8 < cLine) {N : Nat} (hN : N < 10 * SetTable.turns t.mask)
    (hend : way t.mask (k.hash w) N ∉ t.place.toList) (hbef : ∀ c, c < N → way t.mask (k.hash w) c ∈ t.place.toList) {Q : SetFound → Shared → Prop}
    (yes : k ∈ L.map (·.2) → Q (.there none) s) (no : k ∉ L.map (·.2) → Q (.free (way t.mask (k.hash w) N) false) s) :
    ∀ (f c : Nat) (stand : Option SetTable.Probe), stand.getD (t.probeStart (k.hash w)) = prb t.mask (k.hash w) c → c ≤ N → N - c < f →
      (∀ (i : Nat) r, L[i]? = some r → r.2 = k → ∃ c', c ≤ c' ∧ c' < N ∧ t.place.toList[i]? = some (way t.mask (k.hash w) c')) →
      wpAny (model P w) A (setSearchFrom a (.ref x) (k.hash w) true f stand) Q E s := by
  obtain ⟨o, ho, hex, hd⟩ := S.obj
  generalize hh : k.hash w = kh at *
  intro f
  induction f with
  | zero => intro c stand _ _ z _; omega
  | succ f again =>
    intro c stand hst hc hf later
    rw [setSearchFrom_succ]
    refine wpAny_bind (wpAny_setState_of ho hd S.fit ?_)
    dsimp only
    have hgw : ¬ t.gaveWay = true := by unfold SetTable.gaveWay; rw [S.tb.mok.odd]; decide
    refine wp_if_neg hgw ?_
    try refine wpAny_bind (wpAny_pure ?_)
    have here : ∀ q, (nth t.mask (prb t.mask kh c) q).j = way t.mask kh (c + q) := fun q => congrArg SetTable.Probe.j (prb_add t.mask kh c q)
    have atN : c + (N - c) = N := by omega
    have told := go_spec t S.tb.ris S.tb.dm (fun i => (es[i]?.map (·.1)).getD 0) kh (10 * SetTable.turns t.mask) (N - c) _ (nodummy t.mask c (runAt t.mask (SetTable.bits kh % (t.mask + 1)) (SetTable.bits kh)) rfl) (by omega)
      (fun q hq => by rw [here]; exact hbef _ (by omega)) (by rw [here, atN]; exact hend)
    have hashOf : ∀ (i : Nat) r, L[i]? = some r → (es[i]?.map (·.1)).getD 0 = r.2.hash w := fun i r e => by rw [S.get e]; rfl
    rcases told with ⟨q, i, hq, hi, _, before, told⟩ | ⟨before, told⟩
    · -- one of equal hash stands there
      have told' : t.probe (fun i => (es[i]?.map (·.1)).getD 0) kh (stand.getD (t.probeStart kh)) = some (.candidate (way t.mask kh (c + q)) i (prb t.mask kh (c + (q + 1)))) := by rw [hst, ← here, ← prb_add]; exact told
      rw [told']
      dsimp only
      rw [here] at hi
      have hiL : i < L.length := by
        have z1 := (List.getElem?_eq_some_iff.mp hi).1
        have z2 := S.tb.sz
        rw [List.length_map] at z2
        rw [Array.length_toList] at z1
        omega
      obtain ⟨r, hr⟩ : ∃ r, L[i]? = some r := ⟨_, List.getElem?_eq_getElem hiL⟩
      have hrm := List.mem_of_getElem? hr
      have slot := slot_live S.tb.ris hi
      have go : wpAny (model P w) A (searchRest a (.ref x) kh true f es t (way t.mask kh (c + q)) i (prb t.mask kh (c + (q + 1)))) Q E s := by
        unfold searchRest
        rw [S.get hr]
        dsimp only
        refine wpAny_bind (wpAny_holding (Kat.eq hu (S.key r hrm) hx (wpAny_bind (wpAny_setState_of ho hd S.fit ?_))))
        dsimp only
        by_cases hrk : r.2 = k
        · exact wp_if_pos (by simp [hrk]) (wpAny_pure (yes (List.mem_map.mpr ⟨r, hrm, hrk⟩)))
        refine wp_if_neg (by simp [hrk]) ?_
        try refine wpAny_bind (wpAny_pure ?_)
        rw [sameMem]
        dsimp only
        simp only [if_true, slot, S.get hr]
        refine wpAny_bind (wpAny_isSame_ref_self (wpAny_bind (wpAny_pure ?_)))
        simp only [if_true]
        refine wp_if_neg (by simp [hrk]) (again (c + (q + 1)) _ rfl (by omega) (by omega) fun i' r' hr' hk' => ?_)
        obtain ⟨c', z1, z2, z3⟩ := later i' r' hr' hk'
        refine ⟨c', ?_, z2, z3⟩
        rcases Nat.lt_trichotomy c' (c + q) with y | y | y
        · refine absurd ((hashOf i' r' hr').trans (by rw [hk']; exact hh)) (before (c' - c) i' (by omega) ?_)
          rw [here, show c + (c' - c) = c' by omega]; exact z3
        · rw [y] at z3
          have e := slot_live S.tb.ris z3
          rw [slot] at e
          injection e with e
          rw [← e, hr] at hr'
          exact absurd ((congrArg Prod.snd (Option.some.inj hr')).trans hk') hrk
        · omega
      by_cases hl : t.led = true
      · refine wp_if_neg (by simp [hl]) ?_
        try refine wpAny_bind (wpAny_pure ?_)
        exact go
      · refine wp_if_pos (by simp [hl]) (wpAny_bind (seen_none hx (fun y hy => ?_) ?_))
        · obtain ⟨e, he, rfl⟩ := List.mem_map.mp hy
          have he' : e ∈ es.toList := by
            have : e ∈ es ∧ e.1 = kh := by simpa using he
            simpa using this.1
          rw [S.row] at he'
          obtain ⟨r2, hr2, rfl⟩ := List.mem_map.mp he'
          exact ⟨r2.2, r2.1, rfl, S.key r2 hr2⟩
        · refine wp_if_neg (by decide) ?_
          try refine wpAny_bind (wpAny_pure ?_)
          exact go
    · -- an empty slot
      have told' : t.probe (fun i => (es[i]?.map (·.1)).getD 0) kh (stand.getD (t.probeStart kh)) = some (.empty (way t.mask kh N) none) := by
        have e := here (N - c)
        rw [atN] at e
        rw [hst, ← e]
        exact told
      rw [told']
      dsimp only
      refine wpAny_pure (no fun hm => ?_)
      obtain ⟨r0, hr0, hk0⟩ := List.mem_map.mp hm
      obtain ⟨i0, hi0⟩ := List.getElem?_of_mem hr0
      obtain ⟨c', z1, z2, z3⟩ := later i0 r0 hi0 hk0
      refine before (c' - c) i0 (by omega) ?_ ((hashOf i0 r0 hi0).trans (by rw [hk0]; exact hh))
      rw [here, show c + (c' - c) = c' by omega]; exact z3
end
end
/-! ### adding -/
section
variable {P : Program} {w : World} {A : Around} {E : Value → Shared → Prop} {s : Shared} {a : Addr} {L : List (Addr × NestedKey)} {es : Array (Int × Value)} {ep : Nat} {t : SetTable}
theorem search_all (S : NSet w s.heap a L es ep t) {x : Addr} {k : NestedKey} (hx : Kat s.heap k x) (hu : A.units + 8 < cLine) {Q : SetFound → Shared → Prop} (yes : k ∈ L.map (·.2) → Q (.there none) s)
    (no : ∀ N, k ∉ L.map (·.2) → way t.mask (k.hash w) N ∉ t.place.toList → (∀ c, c < N → way t.mask (k.hash w) c ∈ t.place.toList) → Q (.free (way t.mask (k.hash w) N) false) s) :
    wpAny (model P w) A (setSearch a (.ref x) (k.hash w) true) Q E s := by
  have fr := S.free
  obtain ⟨N, n1, n2, n3⟩ := S.tb.first (by rw [List.length_map]; omega) (k.hash w)
  have n4 : N < 100000 := by
    have : SetTable.turns t.mask ≤ 8206 := by unfold SetTable.turns; have := S.tb.mok.le; omega
    omega
  unfold setSearch
  refine search_on S hx hu n1 n2 n3 yes (fun hn => no N hn n2 n3) 100000 0 none rfl (Nat.zero_le _) (by omega) fun i r hr hk => ?_
  have hh : (hsN w L)[i]? = some (k.hash w) := by rw [List.getElem?_map, hr, ← hk]; rfl
  have hi : i < t.place.toList.length := by
    have z1 := (List.getElem?_eq_some_iff.mp hr).1
    have z2 := S.tb.sz
    rw [List.length_map] at z2
    rw [Array.length_toList, z2]; exact z1
  have hj := List.getElem?_eq_getElem hi
  obtain ⟨c, c1, c2⟩ := S.tb.before n2 hh hj
  exact ⟨c, Nat.zero_le _, c1, by rw [hj, c2]⟩
theorem rows_ins (L : List (Addr × NestedKey)) (n : Nat) (x : Addr) (k : NestedKey) : (rowsN w L).take n ++ (k.hash w, Value.ref x) :: (rowsN w L).drop n = rowsN w (L.take n ++ (x, k) :: L.drop n) := by
  simp only [rowsN, List.map_append, List.map_cons, List.map_take, List.map_drop]
/-- the rows in another order -/
theorem rows_reorder (L : List (Addr × NestedKey)) (es : Array (Int × Value)) (ord : Array Nat) (hr : es.toList = rowsN w L) (hp : ord.toList.Perm (List.range L.length)) :
    ∃ L2, (ord.filterMap fun i => es[i]?).toList = rowsN w L2 ∧ L2.Perm L ∧ hsN w L2 = ord.toList.map fun i => (es.map (·.1)).getD i 0 := by
  have size := rows_len hr
  have row : ∀ (i : Nat) (r : Addr × NestedKey), L[i]? = some r → es[i]? = some (r.2.hash w, Value.ref r.1) := fun i r e => by rw [← Array.getElem?_toList, hr, rowsN, List.getElem?_map, e]; rfl
  refine ⟨ord.toList.filterMap fun i => L[i]?, ?_, ?_, ?_⟩
  · rw [Array.toList_filterMap]
    have inb : ∀ i ∈ ord.toList, i < L.length := fun i hi => List.mem_range.mp (hp.mem_iff.mp hi)
    generalize ord.toList = l at inb
    induction l with
    | nil => rfl
    | cons i l ih =>
      obtain ⟨r, e⟩ : ∃ r, L[i]? = some r := ⟨_, List.getElem?_eq_getElem (inb i List.mem_cons_self)⟩
      rw [List.filterMap_cons_some (row i r e), List.filterMap_cons_some e, ih fun j hj => inb j (List.mem_cons_of_mem _ hj)]
      rfl
  · refine (hp.filterMap _).trans ?_
    have all : ∀ n, n ≤ L.length → (List.range n).filterMap (fun i => L[i]?) = L.take n := by
      intro n
      induction n with
      | zero => intro _; rfl
      | succ n ih =>
        intro hn
        rw [List.range_succ, List.filterMap_append, ih (by omega), List.take_add_one]
        rw [List.getElem?_eq_getElem (show n < L.length by omega), List.filterMap_cons_some (List.getElem?_eq_getElem (show n < L.length by omega))]; rfl
    have := all L.length (Nat.le_refl _)
    rw [List.take_length] at this
    rw [this]
  · have inb : ∀ i ∈ ord.toList, i < L.length := fun i hi => List.mem_range.mp (hp.mem_iff.mp hi)
    generalize ord.toList = l at inb
    induction l with
    | nil => rfl
    | cons i l ih =>
      obtain ⟨r, e⟩ : ∃ r, L[i]? = some r := ⟨_, List.getElem?_eq_getElem (inb i List.mem_cons_self)⟩
      have h1 : (es.map (·.1)).getD i 0 = r.2.hash w := by
        have : (es.map (·.1))[i]? = some (r.2.hash w) := by rw [Array.getElem?_map, row i r e]; rfl
        simp [Array.getD_eq_getD_getElem?, this]
      have ih' := ih fun j hj => inb j (List.mem_cons_of_mem _ hj)
      unfold hsN at ih' ⊢
      rw [List.filterMap_cons_some e, List.map_cons, List.map_cons, ih', h1]
/-- the table is laid anew, larger -/
theorem relay {o : Obj} (ho : s.heap.get? a = some o) (hex : o.ExactSet) (hd : o.data = .set es ep t) (hrow : es.toList = rowsN w L) (hsz : t.place.size = es.size) (hdm : t.dummies = #[]) (hfl : es.size ≤ t.mask) (uniq : (L.map (·.2)).Nodup)
    (key : ∀ r ∈ L, Kat s.heap r.2 r.1) (led : w.params.followText "set-order" = true ∨ t.led = true) (few : L.length < 4096) {want M : Nat} (hw : SetTable.sizeAbove want - 1 = M) (hM : MaskG M) (h128 : SetTable.sizeAbove want ≤ 8192) (hn : L.length * 5 < M * 3)
    {Q : Unit → Shared → Prop} (hQ : ∀ h' L' es' ep' t', Heap.SameBut a s.heap h' → NSet w h' a L' es' ep' t' → L'.Perm L → Q () { s with heap := h' }) : wpAny (model P w) A (setRelay a want) Q E s := by
  have size := rows_len hrow
  have fit : t.fits es.size = true := by
    unfold SetTable.fits SetTable.fill
    rw [hdm, Bool.and_eq_true, beq_iff_eq, decide_eq_true_eq]
    refine ⟨hsz, ?_⟩
    show t.place.size + 0 ≤ t.mask
    omega
  obtain ⟨t', ord, told, hp, T, em, el⟩ := laid_anew t (hs := es.map (·.1)) (want := want) hw hM (by rw [Array.size_map, size]; omega)
  rw [Array.size_map, size] at hp
  obtain ⟨L2, r1, r2, r3⟩ := rows_reorder L es ord hrow hp
  rw [← r3] at T
  have size2 : (ord.filterMap fun i => es[i]?).size = es.size := by rw [rows_len r1, r2.length_eq, size]
  rw [setRelay_eq]
  refine wpAny_bind (wpAny_setState_of ho hd fit ?_)
  dsimp only
  refine wp_if_neg (by rw [sizeLine_eq]; omega) ?_
  try refine wpAny_bind (wpAny_pure ?_)
  rw [told]
  dsimp only
  refine wpAny_bind (wp_if_neg (by rw [size2]; simp) ?_)
  try refine wpAny_bind (wpAny_pure ?_)
  refine wpAny_pure ?_
  dsimp only
  refine wpAny_storeSet_of ho hd ?_ (by rw [size2, size, sizeLine_eq]; omega)
  have but : Heap.SameBut a s.heap (s.heap.update a (Obj.putSet (ord.filterMap fun i => es[i]?) t')) := Heap.SameBut.update ..
  exact hQ _ L2 _ (ep + 1) t' but ⟨⟨_, store_at ho hd, ⟨hex.1, hex.2.1, hex.2.2⟩, rfl⟩, r1, T, (r2.map (·.2)).nodup_iff.mpr uniq, fun r hr => (key r (r2.mem_iff.mp hr)).but ho hd but, by rw [el]; exact led, by rw [r2.length_eq, em]; exact hn, by rw [r2.length_eq]; exact few⟩ r2
end
section
variable {P : Program} {w : World} {A : Around} {E : Value → Shared → Prop} {s : Shared} {a : Addr} {L : List (Addr × NestedKey)} {es : Array (Int × Value)} {ep : Nat} {t : SetTable}
theorem ins_perm {α : Type} (L : List α) (n : Nat) (x : α) : (L.take n ++ x :: L.drop n).Perm (x :: L) := by
  refine List.perm_middle.trans (List.Perm.cons x ?_)
  rw [List.take_append_drop]
theorem TabG.fl {t u : SetTable} {hs : List Int} (T : TabG t hs) (h1 : u.place = t.place) (h2 : u.dummies = t.dummies) (h3 : u.mask = t.mask) : TabG u hs :=
  ⟨by rw [h1]; exact T.ris, by rw [h2]; exact T.dm, by rw [h1]; exact T.sz, by rw [h3]; exact T.mok, by rw [h1, h3]; exact T.bd, by rw [h1, h3]; exact T.found⟩
/-- what is left to be done when the new slot is known -/
theorem put_in (S : NSet w s.heap a L es ep t) {x : Addr} {k : NestedKey} (hx : Kat s.heap k x) (hfew : L.length + 1 < 4096) (hm : k ∉ L.map (·.2)) {n : Nat} {u : SetTable} (T : TabG u ((hsN w L).take n ++ k.hash w :: (hsN w L).drop n)) (eM : u.mask = t.mask) (eL : u.led = t.led)
    {Q : Bool → Shared → Prop} (hQ : ∀ h' L' es' ep' t', Heap.SameBut a s.heap h' → NSet w h' a L' es' ep' t' → L'.Perm ((x, k) :: L) → Q true { s with heap := h' }) :
    wpAny (model P w) A (storeSet a (SetTable.insertAt es n (k.hash w, .ref x)) u >>= fun _ => if u.tooFull = true then setRelay a (SetTable.grown (es.size + 1)) >>= fun _ => pure true else pure true) Q E s := by
  obtain ⟨o, ho, hex, hd⟩ := S.obj
  have size := rows_len S.row
  have room := S.free
  have er : (SetTable.insertAt es n (k.hash w, Value.ref x)).toList = rowsN w (L.take n ++ (x, k) :: L.drop n) := by rw [SetTable.toList_insertAt, S.row, rows_ins]
  have pm := ins_perm L n (x, k)
  have eh : hsN w (L.take n ++ (x, k) :: L.drop n) = (hsN w L).take n ++ k.hash w :: (hsN w L).drop n := by simp only [hsN, List.map_append, List.map_cons, List.map_take, List.map_drop]
  rw [← eh] at T
  generalize L.take n ++ (x, k) :: L.drop n = L1 at er pm T
  generalize SetTable.insertAt es n (k.hash w, Value.ref x) = es1 at er ⊢
  have len1 : L1.length = L.length + 1 := pm.length_eq
  have size1 : es1.size = L.length + 1 := by rw [rows_len er, len1]
  have uniq1 : (L1.map (·.2)).Nodup := (pm.map (·.2)).nodup_iff.mpr (List.nodup_cons.mpr ⟨hm, S.uniq⟩)
  refine wpAny_bind (wpAny_storeSet_of ho hd ?_ (by rw [size1, sizeLine_eq]; omega))
  have but : Heap.SameBut a s.heap (s.heap.update a (Obj.putSet es1 u)) := Heap.SameBut.update ..
  have at1 := store_at (es' := es1) (t' := u) ho hd
  have key1 : ∀ r ∈ L1, Kat (s.heap.update a (Obj.putSet es1 u)) r.2 r.1 := fun r hr => by
    rcases List.mem_cons.mp (pm.mem_iff.mp hr) with e | hr
    · subst e; exact hx.but ho hd but
    · exact (S.key r hr).but ho hd but
  have led1 : w.params.followText "set-order" = true ∨ u.led = true := by rw [eL]; exact S.led
  have fill1 : u.fill = L.length + 1 := by
    unfold SetTable.fill
    rw [T.dm]
    have := T.sz
    rw [List.length_map, len1] at this
    rw [this]; rfl
  by_cases full : u.tooFull = true
  · rw [if_pos full]
    have hfull : (L.length + 1) * 5 ≥ t.mask * 3 := by
      unfold SetTable.tooFull at full
      rw [decide_eq_true_eq, fill1, eM] at full
      exact full
    rw [size]
    have two : (t.mask = 7 ∧ L.length = 4) ∨ (t.mask = 31 ∧ L.length = 18) ∨ (t.mask = 127 ∧ L.length = 76) ∨ (t.mask = 511 ∧ L.length = 306) ∨ (t.mask = 2047 ∧ L.length = 1228) := by
      have mok := S.tb.mok
      rcases mok with e | e | e | e | e | e <;> rw [e] at hfull room
      · exact .inl ⟨e, by omega⟩
      · exact .inr (.inl ⟨e, by omega⟩)
      · exact .inr (.inr (.inl ⟨e, by omega⟩))
      · exact .inr (.inr (.inr (.inl ⟨e, by omega⟩)))
      · exact .inr (.inr (.inr (.inr ⟨e, by omega⟩)))
      · omega
    have lay : ∀ M, SetTable.sizeAbove (SetTable.grown (L.length + 1)) - 1 = M → MaskG M → SetTable.sizeAbove (SetTable.grown (L.length + 1)) ≤ 8192 → (L.length + 1) * 5 < M * 3 →
        wpAny (model P w) A (setRelay a (SetTable.grown (L.length + 1)) >>= fun _ => pure true) Q E { s with heap := s.heap.update a (Obj.putSet es1 u) } := fun M m1 m2 m3 m4 =>
      wpAny_bind (relay (s := { s with heap := s.heap.update a (Obj.putSet es1 u) }) at1 ⟨hex.1, hex.2.1, hex.2.2⟩ rfl er (by have := T.sz; rw [List.length_map, len1] at this; rw [this, size1]) T.dm (by rw [size1, eM]; rcases two with ⟨e, e2⟩ | ⟨e, e2⟩ | ⟨e, e2⟩ | ⟨e, e2⟩ | ⟨e, e2⟩ <;> omega) uniq1 key1 led1 (by rw [len1]; exact hfew) m1 m2 m3 (by rw [len1]; exact m4)
        fun h2 L2 es2 ep2 t2 but2 S2 pm2 => wpAny_pure (hQ h2 L2 es2 ep2 t2 (but.trans but2) S2 (pm2.trans pm)))
    rcases two with ⟨_, e⟩ | ⟨_, e⟩ | ⟨_, e⟩ | ⟨_, e⟩ | ⟨_, e⟩
    · exact lay 31 (by rw [e, size_of_5]) (.inr (.inl rfl)) (by rw [e, size_of_5]; decide) (by omega)
    · exact lay 127 (by rw [e, size_of_19]) (.inr (.inr (.inl rfl))) (by rw [e, size_of_19]; decide) (by omega)
    · exact lay 511 (by rw [e, size_of_77]) (.inr (.inr (.inr (.inl rfl)))) (by rw [e, size_of_77]; decide) (by omega)
    · exact lay 2047 (by rw [e, size_of_307]) (.inr (.inr (.inr (.inr (.inl rfl))))) (by rw [e, size_of_307]; decide) (by omega)
    · exact lay 8191 (by rw [e, size_of_1229]) (.inr (.inr (.inr (.inr (.inr rfl))))) (by rw [e, size_of_1229]; exact Nat.le_refl _) (by omega)
  · rw [if_neg full]
    refine wpAny_pure (hQ _ L1 es1 (ep + 1) u but ⟨⟨_, at1, ⟨hex.1, hex.2.1, hex.2.2⟩, rfl⟩, er, T, uniq1, key1, led1, ?_, by rw [len1]; exact hfew⟩ pm)
    unfold SetTable.tooFull at full
    rw [decide_eq_true_eq, fill1] at full
    rw [len1]; omega
theorem add_key (S : NSet w s.heap a L es ep t) {x : Addr} {k : NestedKey} (hx : Kat s.heap k x) (hu : A.units + 8 < cLine) (hfew : L.length + 1 < 4096) {Q : Bool → Shared → Prop}
    (old : k ∈ L.map (·.2) → Q false s) (new : ∀ h' L' es' ep' t', k ∉ L.map (·.2) → Heap.SameBut a s.heap h' → NSet w h' a L' es' ep' t' → L'.Perm ((x, k) :: L) → Q true { s with heap := h' }) :
    wpAny (model P w) A (setAddHashed a (.ref x) (k.hash w)) Q E s := by
  obtain ⟨o, ho, hex, hd⟩ := S.obj
  unfold setAddHashed
  refine wpAny_holding ?_
  rw [show (100000 : Nat) = 99999 + 1 from rfl, setAddHashedIn_succ]
  refine wpAny_bind (wpAny_setState_of ho hd S.fit ?_)
  dsimp only
  refine wp_if_neg (by simp [byScan, Value.scannable]) ?_
  try refine wpAny_bind (wpAny_pure ?_)
  refine wpAny_bind (search_all S hx hu (fun hm => wpAny_pure (old hm)) fun N hm hN hb => ?_)
  dsimp only
  refine wpAny_bind (wpAny_setState_of ho hd S.fit ?_)
  dsimp only
  obtain ⟨p1, p2, p3, p4, p5⟩ := S.tb.put hN hb
  generalize t.put (way t.mask (k.hash w) N) = pt at p1 p3 p4 p5 ⊢
  obtain ⟨t1, n⟩ := pt
  dsimp only at p1 p3 p4 p5 ⊢
  subst p1
  have fin : ∀ b : Bool, wpAny (model P w) A (storeSet a (SetTable.insertAt es (SetTable.below t.place (way t.mask (k.hash w) N)) (k.hash w, .ref x)) (if b = true then t1 else { t1 with plain := false }) >>= fun _ =>
      if (if b = true then t1 else { t1 with plain := false }).tooFull = true then setRelay a (SetTable.grown (es.size + 1)) >>= fun _ => pure true else pure true) Q E s := fun b => by
    cases b with
    | true => exact put_in S hx hfew hm p3 p4 p5 fun h' L' es' ep' t' => new h' L' es' ep' t' hm
    | false => exact put_in S hx hfew hm (u := { t1 with plain := false }) (TabG.fl p3 rfl rfl rfl) p4 p5 fun h' L' es' ep' t' => new h' L' es' ep' t' hm
  by_cases hp : t1.plain = true
  · rw [if_pos hp]
    exact wpAny_bind (hby_key k _ 8 s hx.is hx.dp _ _ _ fun b => fin b)
  · rw [if_neg hp]
    exact wpAny_bind (wpAny_pure (fin true))
end
/-! ### set(xs) -/
/-- what stands in the set behind i items -/
structure Has (ks : List (Addr × NestedKey)) (i : Nat) (L : List (Addr × NestedKey)) : Prop where
  from_ : ∀ r ∈ L, r ∈ ks.take i
  all : ∀ r ∈ ks.take i, r.2 ∈ L.map (·.2)
  few : L.length ≤ i
theorem Has.old {ks L : List (Addr × NestedKey)} {i : Nat} {r : Addr × NestedKey} (g : Has ks i L) (e : ks[i]? = some r) (hm : r.2 ∈ L.map (·.2)) : Has ks (i + 1) L := by
  have et : ks.take (i + 1) = ks.take i ++ [r] := by rw [List.take_add_one, e]; rfl
  refine ⟨fun q hq => by rw [et]; exact List.mem_append_left _ (g.from_ q hq), fun q hq => ?_, Nat.le_succ_of_le g.few⟩
  rw [et] at hq
  rcases List.mem_append.mp hq with z | z
  · exact g.all q z
  · rw [List.mem_singleton.mp z]; exact hm
theorem Has.new {ks L L2 : List (Addr × NestedKey)} {i : Nat} {r : Addr × NestedKey} (g : Has ks i L) (e : ks[i]? = some r) (pm : L2.Perm (r :: L)) : Has ks (i + 1) L2 := by
  have et : ks.take (i + 1) = ks.take i ++ [r] := by rw [List.take_add_one, e]; rfl
  refine ⟨fun q hq => ?_, fun q hq => ?_, by rw [pm.length_eq]; exact Nat.succ_le_succ g.few⟩
  · rw [et]
    rcases List.mem_cons.mp (pm.mem_iff.mp hq) with z | z
    · exact List.mem_append_right _ (by rw [z]; exact List.mem_singleton.mpr rfl)
    · exact List.mem_append_left _ (g.from_ q z)
  · rw [(pm.map (·.2)).mem_iff]
    rw [et] at hq
    rcases List.mem_append.mp hq with z | z
    · exact List.mem_cons_of_mem _ (g.all q z)
    · rw [List.mem_singleton.mp z]; exact List.mem_cons_self
theorem NSet.stay {w : World} {h h' : Heap} {a : Addr} {L : List (Addr × NestedKey)} {es : Array (Int × Value)} {ep : Nat} {t : SetTable} (S : NSet w h a L es ep t) (ha : ∀ o, h.get? a = some o → h'.get? a = some o) (hk : ∀ r ∈ L, Kat h' r.2 r.1) : NSet w h' a L es ep t :=
  ⟨S.obj.imp fun o ⟨e, r⟩ => ⟨ha o e, r⟩, S.row, S.tb, S.uniq, hk, S.led, S.free, S.few⟩
/-- the object of a set just made -/
abbrev freshO (w : World) : Obj := { cls := .type "set", dict := none, data := .set #[] 0 (.fresh 0 0 (!w.params.followText "set-order")) }
theorem fresh_set {w : World} {h : Heap} {a : Addr} (e : h.get? a = some (freshO w)) : NSet w h a [] #[] 0 (.fresh 0 0 (!w.params.followText "set-order")) where
  obj := ⟨freshO w, e, ⟨rfl, rfl, rfl⟩, rfl⟩
  row := rfl
  tb := ⟨.nil, rfl, rfl, .inl rfl, by simp [SetTable.fresh], by simp⟩
  uniq := .nil
  key := by simp
  led := by
    show _ ∨ (!w.params.followText "set-order") = true
    cases w.params.followText "set-order" <;> simp
  free := by show 0 * 5 < 7 * 3; decide
  few := by show 0 < 4096; decide
section
variable {P : Program} {w : World} {A : Around} {E : Value → Shared → Prop} {s : Shared}
/-- the loop of set.update over what gives such keys -/
theorem update_keys {I : Addr} {fp wr : List Addr} {G : Array GenState → Array GenState → Prop} {n : Nat} {Pv : Nat → Value → Prop} {St : Nat → Shared → Prop} {R : Result → Shared → Prop} (W : WalksS P w A.in1 I fp wr G n Pv St) (S : Addr) (hS : S ∉ fp)
    (ks : List (Addr × NestedKey)) (hn : n = ks.length) (few : ks.length < 4096) (val : ∀ i v, Pv i v → ∃ r, ks[i]? = some r ∧ v = .ref r.1) (h0 : Heap) (hk : ∀ r ∈ ks, Kat h0 r.2 r.1) (noS : h0.get? S = none) (noW : ∀ b ∈ wr, h0.get? b = none) (hu : A.in1.units + 8 < cLine) :
    ∀ (m i : Nat) (s : Shared), n - i = m → i ≤ n → St i s → (∀ b o, h0.get? b = some o → s.heap.get? b = some o) → (∃ L es ep t, NSet w s.heap S L es ep t ∧ Has ks i L) →
      (∀ s' L es ep t, Moved (S :: wr) G s s' → NSet w s'.heap S L es ep t → Has ks n L → (∀ b o, h0.get? b = some o → s'.heap.get? b = some o) → R (.ok (.ret .none)) s') → codeAny (model P w) A (.builtin "set.update.loop" ⟨[.ref S, .ref I], []⟩) R s := by
  have noSw : S ∉ wr := fun z => hS (W.sub _ z)
  have sub : ∀ b ∈ wr, b ∈ S :: wr := fun b hb => List.mem_cons_of_mem S hb
  have stays : ∀ {s s' : Shared}, Moved wr G s s' → (∀ b o, h0.get? b = some o → s.heap.get? b = some o) → ∀ b o, h0.get? b = some o → s'.heap.get? b = some o := fun mv k b o e => mv.heap b o (fun z => by rw [noW b z] at e; cases e) (k b o e)
  have inK : ∀ {i : Nat} {L : List (Addr × NestedKey)}, Has ks i L → ∀ r ∈ L, r ∈ ks := fun g r hr => List.mem_of_mem_take (g.from_ r hr)
  intro m
  induction m with
  | zero =>
    intro i s e hi st k ⟨L, es, ep, t, N, g⟩ end_
    have ei : i = n := by omega
    subst ei
    refine codeAny_builtin F.entry_set_update_loop (by
      rw [Around.under_plainId F.plain_set_update_loop _]
      refine wpAny_bind (m := pyNext (.ref I)) (W.done s _ _ st fun s' mv => ?_)
      have k' := stays mv k
      exact wpAny_pure (end_ s' L es ep t (mv.mono sub) (N.stay (fun o z => mv.heap S o noSw z) fun r hr => (hk r (inK g r hr)).keep k') g k'))
  | succ m again =>
    intro i s e hi st k ⟨L, es, ep, t, N, g⟩ end_
    have hlt : i < n := by omega
    refine codeAny_builtin F.entry_set_update_loop (by
      rw [Around.under_plainId F.plain_set_update_loop _]
      refine wpAny_bind (m := pyNext (.ref I)) (W.item i s _ _ hlt st fun v s' hv st' mv => ?_)
      obtain ⟨r, hr, ev⟩ := val i v hv
      subst ev
      have k' := stays mv k
      have N' : NSet w s'.heap S L es ep t := N.stay (fun o z => mv.heap S o noSw z) fun q hq => (hk q (inK g q hq)).keep k'
      have hx : Kat s'.heap r.2 r.1 := (hk r (List.mem_of_getElem? hr)).keep k'
      -- what is left: the next turn
      have turn : ∀ (h' : Heap) L' es' ep' t', Heap.SameBut S s'.heap h' → NSet w h' S L' es' ep' t' → Has ks (i + 1) L' → codeAny (model P w) A (.builtin "set.update.loop" ⟨[.ref S, .ref I], []⟩) R { s' with heap := h', toks := s'.toks + r.2.draws } := fun h' L' es' ep' t' but N2 g2 =>
        again (i + 1) _ (by omega) hlt (W.frame _ s' _ _ st' (Nat.le_add_right _ _) fun b hb o z => (but.2 b (fun e => hS (e ▸ hb))).trans z) (fun b o z => (but.2 b fun e => by rw [e, noS] at z; cases z).trans (k' b o z)) ⟨L', es', ep', t', N2, g2⟩
          fun s3 L3 es3 ep3 t3 mv3 N3 g3 k3 => end_ s3 L3 es3 ep3 t3 (Moved.trans W.gtrans ((mv.mono sub).then_heap (Nat.le_add_right _ _) fun b o hb z => (but.2 b fun e => hb (by rw [e]; exact List.mem_cons_self)).trans z) mv3) N3 g3 k3
      refine wpAny_bind (m := holding [Value.ref r.1] (setAdd S (.ref r.1))) (wpAny_holding ?_)
      unfold setAdd
      refine wpAny_holding (wpAny_bind (pyHash_key r.2 _ _ _ _ hx.is (by have := hx.dp; omega) ?_))
      exact add_key (s := { s' with toks := s'.toks + r.2.draws }) N' hx hu (by have := g.few; omega) (fun hm => wpAny_pure ⟨plainId_quiet F.plain_set_update_loop _, turn s'.heap L es ep t (Heap.SameBut.refl S s'.heap) N' (g.old hr hm)⟩)
        fun h' L' es' ep' t' _ but N2 pm => wpAny_pure ⟨plainId_quiet F.plain_set_update_loop _, turn h' L' es' ep' t' but N2 (g.new hr pm)⟩)
end
end NS
set_option Elab.async false
set_option linter.all false
set_option maxRecDepth 100000
set_option maxHeartbeats 1000000
/-! set(xs) as a call; sorted of such a set. -/
namespace NS
open PySem PySem.Spec PyProof.Rows L2
section
variable {P : Program} {w : World} {A : Around} {E : Value → Shared → Prop} {s : Shared}
set_option maxHeartbeats 4000000 in
/-- set(xs), xs a list of such tuples -/
theorem call_set_keys {l : Addr} {items : Array Value} (ks : List (Addr × NestedKey)) {Q : Value → Shared → Prop} (hh : A.handled = none) (hl : s.heap.IsList l items) (hit : items.toList = ks.map fun r => Value.ref r.1) (hk : ∀ r ∈ ks, Kat s.heap r.2 r.1) (few : ks.length < 4096) (hu : A.units + 20 < cLine)
    (h : ∀ (h' : Heap) (tk : Nat) L es ep t, NSet w h' s.heap.objs.size L es ep t → Has ks ks.length L → (∀ b o, s.heap.get? b = some o → h'.get? b = some o) → Q (.ref s.heap.objs.size) { s with heap := h', toks := tk }) : wpAny (model P w) A (call (.type "set") [.ref l]) Q E s := by
  have hisz : items.size = ks.length := by rw [← Array.length_toList, hit, List.length_map]
  obtain ⟨c, tl, hmro⟩ := F.called_set.mro
  have hmade := F.called_set.made; have hsub := F.called_set.sub
  refine wpAny_call (codeAny_of_tree (show wpAny _ _ (callAny (.type "set") _) _ _ _ from wpAny_pure ⟨Code.quiet_builtin _ (by decide +kernel), codeAny_builtin F.entry_type_call ?_⟩))
  rw [Around.under_plain (weight_type_call_type "set" [.ref l] []) rfl]
  have h1 := F.called_set.notType; have h2 := F.called_set.canCreate
  have hct := F.typeCall_set_1 (.ref l)
  repeat (any_goals (first | assumption | wp_step))
  -- the new, empty set
  refine codeAny_mono (code_set_led1 (.ref l) (E := E) (Q₁ := fun v s1 => v = .ref s.heap.objs.size ∧ s1 = { s with heap := s.heap.push (freshO w) }) ⟨rfl, rfl⟩) fun r s1 hr => ?_
  cases r with
  | error e => exact hr
  | ok fl =>
  cases fl with
  | ret v =>
    obtain ⟨rfl, rfl⟩ := hr
    have atS : (s.heap.push (freshO w)).get? s.heap.objs.size = some (freshO w) := Heap.get?_push_size _ rfl
    have tyS : Shared.TypeIs { s with heap := s.heap.push (freshO w) } (.ref s.heap.objs.size) "set" := ⟨_, atS, rfl⟩
    have hli := F.called_set.init.lookup; have hbi := F.called_set.init.bind (.ref s.heap.objs.size)
    repeat (any_goals (first | assumption | wp_step))
    refine codeAny_mono (codeAny_call_builtin (R := wants (fun v s2 => v = .none ∧ ∃ h' tk L es ep t, s2 = { s with heap := h', toks := tk } ∧ NSet w h' s.heap.objs.size L es ep t ∧ Has ks ks.length L ∧ ∀ b o, s.heap.get? b = some o → h'.get? b = some o) E) F.called_set.init.plain F.entry_set_init (check_set_init_1 tyS ?_)) fun r2 s2 hr2 => ?_
    · obtain ⟨⟨ocls, odict, odata, oslots⟩, hol, hcl, nl, hdl⟩ := hl
      simp only at hcl hdl
      subst hcl hdl
      have hol' : (s.heap.push (freshO w)).get? l = some { cls := .type "list", dict := odict, data := .seq items nl, slots := oslots } := Heap.get?_push_of_some _ hol
      have hl1 : (s.heap.push (freshO w)).IsList l items := ⟨_, hol', rfl, nl, rfl⟩
      have hsls := F.sub_list_set; have hslf := F.sub_list_frozenset
      have hne : (Value.type "list" == Value.type "dict") = false := by decide
      unfold Builtin.«set.__init__» noKeywords Builtin.Frozenset.updateFrom
      generalize hPI : pyIter = PI
      wp_walk
      subst hPI
      refine wpAny_pyIter_list hl1 (wpAny_bind (wpAny_runValue ?_))
      have lt := Heap.lt_size hol
      have size1 : (s.heap.push (freshO w)).objs.size = s.heap.objs.size + 1 := Heap.size_push ..
      have gone : ∀ b, s.heap.objs.size ≤ b → s.heap.get? b = none := fun b hb => by
        cases e : s.heap.get? b with
        | none => rfl
        | some o => exact absurd (Heap.lt_size e) (Nat.not_lt.mpr hb)
      refine update_keys ((Walks.list (show A.in1.in1.in1.handled = none by simp [hh]) _ l (by rw [size1]; exact Nat.ne_of_lt (Nat.lt_succ_of_lt lt)) items).toS) s.heap.objs.size (by rw [size1]; simp only [List.mem_cons, List.not_mem_nil, or_false, not_or]; exact ⟨Nat.ne_of_lt (Nat.lt_succ_self _), Nat.ne_of_gt lt⟩) ks hisz few (fun i v hv => ?_) s.heap hk (gone _ (Nat.le_refl _))
        (fun b hb => gone b (by rw [List.mem_singleton.mp hb, size1]; exact Nat.le_succ _)) (by show A.units + 1 + 1 + 1 + 8 < cLine; omega) (items.size - 0) 0 _ (by omega) (Nat.zero_le _) ⟨⟨_, Heap.get?_push_size _ rfl, rfl, rfl⟩, (hl1.push _)⟩
        (fun b o e => Heap.get?_push_of_some _ (Heap.get?_push_of_some _ e)) ⟨[], #[], 0, _, fresh_set (Heap.get?_push_of_some _ atS), ⟨by simp, by simp, by simp⟩⟩ fun s' L es ep t mv N g k => ?_
      · have e : items.toList[i]? = some v := by rw [Array.getElem?_toList]; exact hv
        rw [hit, List.getElem?_map] at e
        obtain ⟨r, hr, e2⟩ := Option.map_eq_some_iff.mp e
        exact ⟨r, hr, e2.symm⟩
      · obtain ⟨h', g2, d', tk', os'⟩ := s'
        obtain rfl : g2 = s.gens := mv.gens
        obtain rfl : d' = s.drawn := mv.drawn
        obtain rfl : os' = s.os := mv.os
        rw [hisz] at g
        exact wpAny_pure (show wpAny _ _ (ret Value.none) _ _ _ from wpAny_pure ⟨rfl, h', tk', L, es, ep, t, rfl, N, g, k⟩)
    · cases r2 with
      | error e => exact hr2
      | ok fl2 =>
      cases fl2 with
      | ret v =>
        obtain ⟨rfl, h', tk, L, es, ep, t, rfl, N, g, k⟩ := hr2
        repeat (any_goals (first | assumption | wp_step))
        exact h _ _ _ _ _ _ N g k
      | _ => exact hr2.elim
  | _ => exact hr.elim
end
end NS
set_option Elab.async false
set_option linter.all false
set_option maxRecDepth 100000
set_option maxHeartbeats 1000000
/-! L3: sorted(set(xs)), xs a list of tuples. -/
namespace L3
open PySem PySem.Spec PyProof.Rows L2 NS
mutual
theorem keyN_inj : ∀ {n : Nat} {d e : D}, D.nk n d = true → D.nk n e = true → keyN d = keyN e → d = e
  | n, .non, e, _, he, h => by cases e <;> first | rfl | (cases n <;> simp [D.nk] at he; done) | (simp [keyN] at h; done)
  | n, .int i, e, _, he, h => by
    cases e <;> first | (cases n <;> simp [D.nk] at he; done) | simp [keyN] at h
    rw [h]
  | n, .str i, e, _, he, h => by
    cases e <;> first | (cases n <;> simp [D.nk] at he; done) | simp [keyN] at h
    rw [h]
  | n + 1, .tup ds, e, hd, he, h => by
    cases e with
    | tup es =>
      simp only [keyN, NestedKey.tup.injEq] at h
      rw [keyNs_inj (show D.nks n ds = true by simpa [D.nk] using hd) (show D.nks n es = true by simpa [D.nk] using he) h]
    | _ => first | (simp [D.nk] at he; done) | simp [keyN] at h
  | 0, .tup _, _, hd, _, _ => by simp [D.nk] at hd
  | n, .bl _, _, hd, _, _ => by cases n <;> simp [D.nk] at hd
  | n, .ty _, _, hd, _, _ => by cases n <;> simp [D.nk] at hd
  | n, .ref _, _, hd, _, _ => by cases n <;> simp [D.nk] at hd
  | n, .lst _, _, hd, _, _ => by cases n <;> simp [D.nk] at hd
  | n, .lsk _, _, hd, _, _ => by cases n <;> simp [D.nk] at hd
  | n, .dct _ _, _, hd, _, _ => by cases n <;> simp [D.nk] at hd
  | n, .obj _ _, _, hd, _, _ => by cases n <;> simp [D.nk] at hd
  | n, .dkd _ _ _, _, hd, _, _ => by cases n <;> simp [D.nk] at hd
theorem keyNs_inj : ∀ {n : Nat} {ds es : List D}, D.nks n ds = true → D.nks n es = true → keyNs ds = keyNs es → ds = es
  | _, [], [], _, _, _ => rfl
  | _, [], _ :: _, _, _, h => by simp [keyNs] at h
  | _, _ :: _, [], _, _, h => by simp [keyNs] at h
  | n, d :: ds, e :: es, hd, he, h => by
    simp only [D.nks, Bool.and_eq_true] at hd he
    simp only [keyNs, List.cons.injEq] at h
    rw [keyN_inj hd.1 he.1 h.1, keyNs_inj hd.2 he.2 h.2]
end
section
variable {X : Cx} {pins : List (Addr × Obj)} {σ : L2.St} {H : Hp} {s : Shared} {F : Hp}
mutual
theorem nk_at (I : Inv X pins σ H s) (sm : Same F H) : ∀ {n : Nat} {d : D} {v : V} {u : Value}, Rep X.K F d v → RelV v u → D.nk n d = true → NestedIs s.heap (keyN d) u ∧ Reads s.heap u d.py [] ∧ (keyN d).depth ≤ n ∧ d.py.depth ≤ n + 1
  | n, .non, _, _, r, ru, _ => by cases r; cases ru; exact ⟨.none, .none, Nat.zero_le _, by simp [D.py, PyData.depth]⟩
  | n, .int i, _, _, r, ru, _ => by cases r; obtain ⟨t, rfl⟩ := ru; exact ⟨.int i t, .int i t, Nat.zero_le _, by simp [D.py, PyData.depth]⟩
  | n, .str x, _, _, r, ru, _ => by obtain ⟨r, _⟩ := r; cases r; obtain ⟨t, rfl⟩ := ru; exact ⟨.text x t, .str x t, Nat.zero_le _, by simp [D.py, PyData.depth]⟩
  | n + 1, .tup ds, _, _, ⟨a, xs, e, q, r⟩, ru, h => by
    subst e; cases ru
    obtain ⟨its, rv, ⟨o, ho, hc, m, hd⟩, _⟩ := I.tuple (Same.seqT sm q)
    obtain ⟨h1, h2, h3, h4⟩ := nks_at I sm r rv (show D.nks n ds = true by simpa [D.nk] using h)
    exact ⟨.tup ho hc hd (by simpa using h1), .tuple ho hc hd (by simpa using h2), by simp only [keyN, NestedKey.depth]; omega, by simp only [D.py, PyData.depth]; omega⟩
  | 0, .tup _, _, _, _, _, h => by simp [D.nk] at h
  | n, .bl _, _, _, _, _, h => by cases n <;> simp [D.nk] at h
  | n, .ty _, _, _, _, _, h => by cases n <;> simp [D.nk] at h
  | n, .ref _, _, _, _, _, h => by cases n <;> simp [D.nk] at h
  | n, .lst _, _, _, _, _, h => by cases n <;> simp [D.nk] at h
  | n, .lsk _, _, _, _, _, h => by cases n <;> simp [D.nk] at h
  | n, .dct _ _, _, _, _, _, h => by cases n <;> simp [D.nk] at h
  | n, .obj _ _, _, _, _, _, h => by cases n <;> simp [D.nk] at h
  | n, .dkd _ _ _, _, _, _, _, h => by cases n <;> simp [D.nk] at h
theorem nks_at (I : Inv X pins σ H s) (sm : Same F H) : ∀ {n : Nat} {ds : List D} {vs : List V} {us : List Value}, Reps X.K F ds vs → Vals vs us → D.nks n ds = true → NestedAll s.heap (keyNs ds) us ∧ ReadsAll s.heap us (D.pys ds) [] ∧ NestedKey.depthAll (keyNs ds) ≤ n ∧ PyData.depthAll (D.pys ds) ≤ n + 1
  | n, [], _, _, r, ru, _ => by cases r; cases ru; exact ⟨.nil, .nil, Nat.zero_le _, by simp [D.pys, PyData.depthAll]⟩
  | n, d :: ds, _, _, ⟨x, rr, e, r1, r2⟩, ru, h => by
    subst e
    simp only [D.nks, Bool.and_eq_true] at h
    cases ru with
    | cons u1 u2 =>
      obtain ⟨a1, a2, a3, a4⟩ := nk_at I sm r1 u1 h.1
      obtain ⟨b1, b2, b3, b4⟩ := nks_at I sm r2 u2 h.2
      exact ⟨.cons a1 b1, ReadsAll.cons a2 b2, by simp only [keyNs, NestedKey.depthAll]; omega, by simp only [D.pys, PyData.depthAll]; omega⟩
end
end
/-- the set at a, without the tuples themselves -/
def NSet0 (w : World) (h : Heap) (a : Addr) (L : List (Addr × NestedKey)) : Prop := ∃ (es : Array (Int × Value)) (ep : Nat) (t : SetTable), (∃ o, h.get? a = some o ∧ o.ExactSet ∧ o.data = .set es ep t) ∧ es.toList = rowsN w L ∧ TabG t (hsN w L) ∧ (L.map (·.2)).Nodup ∧ (w.params.followText "set-order" = true ∨ t.led = true) ∧ L.length * 5 < t.mask * 3 ∧ L.length < 4096
abbrev tagN (Ld : List (Addr × D)) : List (Addr × NestedKey) := Ld.map fun r => (r.1, keyN r.2)
def SetNO (w : World) (a : Addr) (Ld : List (Addr × D)) : HO := .ext fun h => NSet0 w h a (tagN Ld)
theorem setNO_new {P : Program} {w : World} {H : Hp} {h : Heap} {a : Addr} {Ld : List (Addr × D)} (S : NSet0 w h a (tagN Ld)) : ObjOk P w H h a (SetNO w a Ld) := by
  have ⟨es, ep, t, ⟨o, ho, r⟩, q⟩ := S
  refine ⟨S, ⟨o, ho⟩, fun h1 h2 p k => ?_⟩
  have ⟨es', ep', t', ⟨o', ho', r'⟩, q'⟩ := (show NSet0 w h1 a (tagN Ld) from p)
  exact ⟨es', ep', t', ⟨o', k o' ho', r'⟩, q'⟩
/-- the addresses of such a list, with what stands there -/
theorem reps_refs {K : PySem.W.Frag} {F : Hp} : ∀ {ds : List D} {vs : List V}, Reps K F ds vs → (∀ d ∈ ds, isKey d = true) → ∃ kd : List (Addr × D), kd.map (·.2) = ds ∧ vs = kd.map (fun r => V.ref r.1) ∧ ∀ r ∈ kd, Rep K F r.2 (.ref r.1)
  | [], _, r, _ => by cases r; exact ⟨[], rfl, rfl, fun r h => nomatch h⟩
  | d :: ds, _, ⟨x, rr, e, r1, r2⟩, h => by
    subst e
    obtain ⟨kd, h1, h2, h3⟩ := reps_refs r2 fun g hg => h g (List.mem_cons_of_mem _ hg)
    have hd := h d List.mem_cons_self
    cases d with
    | tup es =>
      obtain ⟨a, xs, e, q⟩ := r1
      subst e
      exact ⟨(a, .tup es) :: kd, by rw [List.map_cons, h1], by rw [List.map_cons, h2], fun r hr => by
        rcases List.mem_cons.mp hr with e | hr
        · subst e; exact ⟨a, xs, rfl, q⟩
        · exact h3 r hr⟩
    | _ => cases hd
theorem sub_lift {α β : Type} (f : α → β) {k : List α} : ∀ {l : List β}, (∀ x ∈ l, x ∈ k.map f) → ∃ m : List α, l = m.map f ∧ ∀ y ∈ m, y ∈ k
  | [], _ => ⟨[], rfl, fun y h => nomatch h⟩
  | x :: l, h => by
    obtain ⟨m, e, hm⟩ := sub_lift f (l := l) fun y hy => h y (List.mem_cons_of_mem _ hy)
    obtain ⟨y, hy, e2⟩ := List.mem_map.mp (h x List.mem_cons_self)
    exact ⟨y :: m, by rw [List.map_cons, e, e2], fun z hz => by
      rcases List.mem_cons.mp hz with e | hz
      · subst e; exact hy
      · exact hm z hz⟩
theorem perm_lift {α β : Type} (f : α → β) {l l' : List β} (h : l.Perm l') : ∀ k : List α, l' = k.map f → ∃ k' : List α, k'.Perm k ∧ l = k'.map f := by
  induction h with
  | nil => intro k e; cases k with
    | nil => exact ⟨[], .nil, rfl⟩
    | cons _ _ => cases e
  | cons x _ ih => intro k e; cases k with
    | nil => cases e
    | cons y k =>
      rw [List.map_cons, List.cons.injEq] at e
      obtain ⟨k', p, e2⟩ := ih k e.2
      exact ⟨y :: k', .cons _ p, by rw [List.map_cons, e2, e.1]⟩
  | swap x y l => intro k e; match k, e with
    | a :: b :: k, e =>
      simp only [List.map_cons, List.cons.injEq] at e
      exact ⟨b :: a :: k, .swap _ _ _, by simp [e.1, e.2.1, e.2.2]⟩
    | [], e => cases e
    | [_], e => simp at e
  | trans _ _ i1 i2 =>
    intro k e
    obtain ⟨k2, p2, e2⟩ := i2 k e
    obtain ⟨k1, p1, e1⟩ := i1 k2 e2
    exact ⟨k1, p1.trans p2, e1⟩
theorem refs_vals : ∀ {kd : List (Addr × D)} {its : List Value}, Vals (kd.map fun r => V.ref r.1) its → its = kd.map fun r => Value.ref r.1
  | [], _, r => by cases r; rfl
  | x :: kd, _, r => by
    cases r with
    | cons a b => cases a; rw [refs_vals b]; rfl
section
variable {X : Cx}
/-- set(xs) -/
def rSetN (K : PySem.W.Frag) (w : World) : List V → Hp → VK → Prop := fun vs H Q => ∃ l F ds xs, vs = [V.ref l] ∧ SqL K H l xs ∧ Same F H ∧ Reps K F ds xs ∧ (∀ d ∈ ds, isKey d = true) ∧ ds.length < 4096 ∧
  ∀ a Ld, H a = none → (∀ r ∈ Ld, r.2 ∈ ds ∧ Rep K F r.2 (.ref r.1)) → (∀ d ∈ ds, d ∈ Ld.map (·.2)) → (Ld.map (·.2)).Nodup → Ld.length < 4096 → Q (.ref a) (upd H a (SetNO w a Ld))
theorem isKey_nk {d : D} (h : isKey d = true) : D.nk 8 d = true := by
  cases d <;> first | exact h | cases h
theorem cr_setN (hc : X.calm = true) (hu : X.A.units + 65 < cLine) : CallR X (.type "set") (rSetN X.K X.w) := by
  intro pins s σ H vs us Q I r ⟨l, F, ds, xs, ev, hl, sm, rx, hk, few, q⟩
  subst ev
  rw [Vals.ref1 r]
  obtain ⟨its, rv, pl, hz⟩ := I.list hl
  obtain ⟨kd, k1, k2, k3⟩ := reps_refs rx hk
  have hits : its = kd.map fun r => Value.ref r.1 := refs_vals (by rw [← k2]; exact rv)
  have len : kd.length = ds.length := by rw [← k1, List.length_map]
  refine call_set_keys (tagN kd) (I.ok.hd hc) pl.isList (by rw [List.map_map]; exact hits) (fun r hr => ?_) (by rw [List.length_map, len]; exact few) (by omega) fun h' tk L es ep t S g k => ?_
  · obtain ⟨z, hz', rfl⟩ := List.mem_map.mp hr
    have hzd : z.2 ∈ ds := by rw [← k1]; exact List.mem_map.mpr ⟨z, hz', rfl⟩
    obtain ⟨n1, _, n2, _⟩ := nk_at I sm (k3 z hz') (u := .ref z.1) rfl (isKey_nk (hk _ hzd))
    exact ⟨n1, n2⟩
  · rw [List.length_map] at g
    have tk1 : (tagN kd).take kd.length = tagN kd := by rw [← List.length_map (as := kd) (fun r => (r.1, keyN r.2)), List.take_length]
    obtain ⟨Ld, eL, hL⟩ := sub_lift (fun r : Addr × D => (r.1, keyN r.2)) (k := kd) (l := L) fun x hx => by have := g.from_ x hx; rw [tk1] at this; exact this
    subst eL
    have inD : ∀ r ∈ Ld, r.2 ∈ ds := fun r hr => by rw [← k1]; exact List.mem_map.mpr ⟨r, hL r hr, rfl⟩
    have uq := S.uniq
    rw [List.map_map] at uq
    refine ⟨.ref s.heap.objs.size, upd H s.heap.objs.size (SetNO X.w s.heap.objs.size Ld), I.laid (t' := tk) k (Nat.le_refl _) (setNO_new ⟨es, ep, t, S.obj, S.row, S.tb, S.uniq, S.led, S.free, S.few⟩), rfl, q _ Ld (I.hok.fresh (Nat.le_refl _)) (fun r hr => ⟨inD r hr, k3 r (hL r hr)⟩) (fun d hd => ?_) ?_ (by have := S.few; rw [List.length_map] at this; exact this)⟩
    · rw [← k1] at hd
      obtain ⟨z, hz', rfl⟩ := List.mem_map.mp hd
      have := g.all (z.1, keyN z.2) (by rw [tk1]; exact List.mem_map.mpr ⟨z, hz', rfl⟩)
      rw [List.map_map] at this
      obtain ⟨y, hy, e⟩ := List.mem_map.mp this
      have hzd : z.2 ∈ ds := by rw [← k1]; exact List.mem_map.mpr ⟨z, hz', rfl⟩
      have : y.2 = z.2 := keyN_inj (isKey_nk (hk _ (inD y hy))) (isKey_nk (hk _ hzd)) e
      exact List.mem_map.mpr ⟨y, hy, this⟩
    · rw [List.nodup_iff_pairwise_ne, List.pairwise_map] at uq ⊢
      exact uq.imp fun {x y} h e => h (congrArg keyN e)
end
/-! ### sorted of such a set -/
def rSortN (K : PySem.W.Frag) (w : World) : List V → Hp → VK → Prop := fun vs H Q => ∃ a F Ld, vs = [.ref a] ∧ H a = some (SetNO w a Ld) ∧ Same F H ∧ (∀ r ∈ Ld, Rep K F r.2 (.ref r.1) ∧ isKey r.2 = true) ∧ SrtOk (Ld.map (·.2)) ∧
  ∀ (Lf : List (Addr × D)) p, Lf.Perm Ld → (Lf.map (·.2)).Pairwise (fun d e => leD d e = true) → H p = none → Q (.ref p) (upd H p (.lst (Lf.map fun r => V.ref r.1)))
theorem each_refs {α : Type} {f : α → Addr} : ∀ (l : List α), PySem.W.EachIs (fun v r => v = Value.ref (f r)) (l.map fun r => Value.ref (f r)) l
  | [] => .nil
  | _ :: l => .cons rfl (each_refs l)
theorem refs_each {α : Type} {f : α → Addr} : ∀ {l : List α} {vs : List Value}, PySem.W.EachIs (fun v r => v = Value.ref (f r)) vs l → vs = l.map fun r => Value.ref (f r)
  | _, _, .nil => rfl
  | _, _, .cons e t => by rw [List.map_cons, e, refs_each t]
theorem each_of {α : Type} {R : Value → α → Prop} {f : α → Addr} : ∀ (l : List α), (∀ r ∈ l, R (Value.ref (f r)) r) → PySem.W.EachIs R (l.map fun r => Value.ref (f r)) l
  | [], _ => .nil
  | r :: l, h => .cons (h r List.mem_cons_self) (each_of l fun q hq => h q (List.mem_cons_of_mem _ hq))
section
variable {X : Cx}
theorem cr_sortedN (hc : X.calm = true) (hu : X.A.units + 65 < cLine) : CallR X (.builtin "sorted") (rSortN X.K X.w) := by
  intro pins s σ H vs us Q I r ⟨a, F, Ld, ev, ha, sm, hr, ok, q⟩
  subst ev
  rw [Vals.ref1 r]
  obtain ⟨es, ep, t, ⟨o, ho, hex, hd⟩, row, tb, uq, led, free, few⟩ := (show NSet0 X.w s.heap a (tagN Ld) from (I.hok a _ ha).1)
  have size := rows_len row
  rw [List.length_map] at few size free
  have fit : t.fits es.size = true := by
    have z := tb.sz
    rw [List.length_map, List.length_map] at z
    unfold SetTable.fits SetTable.fill
    rw [tb.dm, Bool.and_eq_true, beq_iff_eq, decide_eq_true_eq, size]
    refine ⟨z, ?_⟩
    show t.place.size + 0 ≤ t.mask
    omega
  refine Calls.call_function_entry PyProof.Rows.kind_sorted PyProof.Rows.plain_sorted PyProof.Rows.entry_sorted (PyProof.Rows.args_sorted1 _) (show wpAny _ _ (Builtin.«sorted» _) _ _ _ from ?_)
  unfold Builtin.«sorted»
  refine wpAny_bind (m := checkCount "sorted" 1 1 _) (wpAny_pure (wpAny_bind (collect_set (A := X.A.in1) (I.ok.hd hc) ⟨o, ho, hex.1, hd⟩ fit (by rw [size]; unfold scanBound; omega) tb.ris led fun s1 vs k1 hz g1 o1 pm => ?_)))
  have hes : es.toList.map (·.2) = Ld.map fun r => Value.ref r.1 := by
    rw [row]
    simp only [rowsN, List.map_map]
    rfl
  rw [hes] at pm
  obtain ⟨L1, p1, e1⟩ := perm_lift (fun r : Addr × D => Value.ref r.1) pm Ld rfl
  subst e1
  have len1 : L1.length = Ld.length := p1.length_eq
  have in1 : ∀ r ∈ L1, r ∈ Ld := fun r hr => p1.mem_iff.mp hr
  have reads : ∀ r ∈ Ld, Reads s.heap (.ref r.1) r.2.py [] ∧ r.2.py.depth ≤ 9 := fun z hz' => by
    obtain ⟨_, n2, _, n4⟩ := nk_at I sm (hr z hz').1 (u := .ref z.1) rfl (isKey_nk (hr z hz').2)
    exact ⟨n2, n4⟩
  refine wpAny_bind (wpAny_newList ?_ (by rw [List.length_map, sizeLine_eq]; omega))
  have hoL : (s1.heap.push (seqObj "list" (L1.map fun r => Value.ref r.1).toArray 0)).get? s1.heap.objs.size = some (seqObj "list" (L1.map fun r => Value.ref r.1).toArray 0) := Heap.get?_push_size _ rfl
  refine wpAny_bind (wpAny_holding (PySem.W.list_sort_data (s := { s1 with heap := s1.heap.push (seqObj "list" (L1.map fun r => Value.ref r.1).toArray 0) }) (bs := L1) (enc := fun r => r.2.py) (R := fun v r => v = Value.ref r.1) hoL (each_refs L1)
    (each_of L1 fun r hr1 => ⟨[], PyProof.Rows.Reads.keeps (fun b u e => Heap.get?_push_of_some _ (k1 b u e)) (reads r (in1 r hr1)).1, by simp⟩) ?_ ?_ (by rw [len1, sizeLine_eq]; omega) (fun r hr1 => ?_) fun out lo eo => ?_))
  · intro d hd1 d' hd2
    obtain ⟨r1, m1, rfl⟩ := List.mem_map.mp hd1
    obtain ⟨r2, m2, rfl⟩ := List.mem_map.mp hd2
    exact ok.1 _ (List.mem_map.mpr ⟨r1.2, List.mem_map.mpr ⟨r1, in1 r1 m1, rfl⟩, rfl⟩) _ (List.mem_map.mpr ⟨r2.2, List.mem_map.mpr ⟨r2, in1 r2 m2, rfl⟩, rfl⟩)
  · refine ok.2.imp (fun h d hd1 => ?_) fun h d hd1 => ?_ <;>
    · obtain ⟨r1, m1, rfl⟩ := List.mem_map.mp hd1
      exact h _ (List.mem_map.mpr ⟨r1.2, List.mem_map.mpr ⟨r1, in1 r1 m1, rfl⟩, rfl⟩)
  · have := (reads r (in1 r hr1)).2
    show X.A.units + 1 + 1 + r.2.py.depth < cLine
    omega
  · generalize hLf : L1.mergeSort (PySem.W.dataLe false fun r => r.2.py) = Lf at eo
    have pf : Lf.Perm L1 := by rw [← hLf]; exact List.mergeSort_perm _ _
    have srt : (Lf.map (·.2)).Pairwise fun d e => leD d e = true := by
      rw [← hLf, List.pairwise_map]
      exact PySem.W.sort_pairwise (PySem.W.sortLe_total _ false _) L1
    have eout := refs_each eo
    subst eout
    obtain ⟨ce, hce⟩ := PyProof.Rows.sortedHeap_at (vs := L1.map fun r => Value.ref r.1) (out := (Lf.map fun r => Value.ref r.1).toArray) hoL
    have lenf : Lf.length = Ld.length := (pf.trans p1).length_eq
    have hn : H s1.heap.objs.size = none := I.hok.fresh hz
    refine wpAny_pure ⟨_, rfl, .ref s1.heap.objs.size, upd H s1.heap.objs.size (.lst (Lf.map fun r => V.ref r.1)), ?_, rfl, q Lf _ (pf.trans p1) srt hn⟩
    have hlen : (Lf.map fun r => V.ref r.1).length ≤ sizeLine := by rw [List.length_map, lenf, sizeLine_eq]; omega
    have hv : ∀ l : List (Addr × D), Vals (l.map fun r => V.ref r.1) (l.map fun r => Value.ref r.1) := fun l => by
      induction l with
      | nil => exact .nil
      | cons r l ih => exact .cons rfl ih
    generalize hhp : sortedHeap _ s1.heap.objs.size _ _ = hp at hce ⊢
    have K1 : ∀ b u, s.heap.get? b = some u → hp.get? b = some u := fun b u e => by
      have e1 := k1 b u e
      have lt := Heap.lt_size e1
      rw [← hhp, PyProof.Rows.sortedHeap_old (Nat.ne_of_lt lt) (by rw [PyProof.Rows.size_push']; exact Nat.lt_succ_of_lt lt)]
      exact Heap.get?_push_of_some _ e1
    have J : Inv X pins σ (upd H s1.heap.objs.size (.lst (Lf.map fun r => V.ref r.1))) { s with heap := hp, gens := s1.gens, drawn := s1.drawn, toks := s1.toks } :=
      I.call (ch := []) (Un.laid K1 hz hn) (I.hok.laid K1 hz ⟨hlen, _, ce, hv Lf, by simpa using hce⟩) (by rw [g1]; exact I.bare) fun _ z => nomatch z
    rw [← o1] at J
    exact J
/-- sorted(set(xs)) -/
def rSortSet : R1D := fun d M Q => match resD M d with
  | .lst ds => ((∀ g ∈ ds, isKey g = true) ∧ ds.length < 4096 ∧ SrtOk ds) ∧ ∀ ys : List D, ys.Nodup → (∀ g, g ∈ ys ↔ g ∈ ds) → ys.Pairwise (fun d e => leD d e = true) → Q (.lst ys) M
  | _ => False
theorem reps_of {K : PySem.W.Frag} {F : Hp} : ∀ {Lf : List (Addr × D)}, (∀ r ∈ Lf, Rep K F r.2 (.ref r.1)) → Reps K F (Lf.map (·.2)) (Lf.map fun r => V.ref r.1)
  | [], _ => rfl
  | r :: Lf, h => ⟨.ref r.1, _, rfl, h r List.mem_cons_self, reps_of fun q hq => h q (List.mem_cons_of_mem _ hq)⟩
variable {e : Expr} {te : DE} {pos p p2 pos2 : Pos}
theorem pd_sortset {k : Nat} (hr : Room k X.A) (hm1 : X.mg "sorted" = none) (hm2 : X.mg "set" = none) (he : PDE X e te) (hc : X.calm = true := by rfl) (hg1 : Gl X "sorted" := by rfl) (hg2 : Gl X "set" := by rfl)
    (ha : starEach [e] X.env = (false, eval e X.env) :: starEach [] X.env := by rfl) (hpl : (backTo pos2 (starEach [] X.env)).any (·.1) = false := by rfl)
    (ha2 : starEach [.Call (.Name "set" p2) [e] [] pos2] X.env = (false, eval (.Call (.Name "set" p2) [e] [] pos2) X.env) :: starEach [] X.env := by rfl) (hpl2 : (backTo pos (starEach [] X.env)).any (·.1) = false := by rfl) :
    PDE X (.Call (.Name "sorted" p) [.Call (.Name "set" p2) [e] [] pos2] [] pos) (dUn rSortSet te) := by
  have hu : X.A.units + 65 < cLine := by have := hr.un; omega
  refine pe_imp (pe_callB (cr_sortedN hc hu) hg1 hm1 (by decide +kernel) (pa_cons (pe_callTy (cr_setN hc hu) hg2 hm2 (by decide +kernel) (pa_cons he pa_nil ha) (by decide) (by decide) ha hpl) pa_nil ha2) (by decide) (by decide) ha2 hpl2) fun σ H Q ⟨R, F, env, M, Qd, a, e, h, k⟩ => ⟨R, F, env, M, _, a, e, h, fun F1 H1 M1 d v s1 a1 r1 q1 => ?_⟩
  unfold rSortSet at q1
  split at q1
  · rename_i ds hd
    obtain ⟨P, xs, rfl, hq, rx⟩ := (seq_at a1 r1).1 hd
    refine ⟨P, F1, ds, xs, rfl, SqL.of hq, a1.fz, rx, q1.1.1, q1.1.2.1, fun A Ld hA hL hall hnd hfew => ?_⟩
    obtain ⟨a2, s2⟩ := a1.laid hA (SetNO X.w A Ld)
    have mem : ∀ g, g ∈ Ld.map (·.2) ↔ g ∈ ds := fun g => ⟨fun h => by
      obtain ⟨r, hr, rfl⟩ := List.mem_map.mp h
      exact (hL r hr).1, hall g⟩
    refine ⟨A, _, Ld, rfl, upd_same, a2.fz, fun r hr => ⟨(hL r hr).2.mono s2, q1.1.1 _ (hL r hr).1⟩, ⟨fun x hx y hy => ?_, ?_⟩, fun Lf p pf srt hp => ?_⟩
    · obtain ⟨x', hx', rfl⟩ := List.mem_map.mp hx
      obtain ⟨y', hy', rfl⟩ := List.mem_map.mp hy
      exact q1.1.2.2.1 _ (List.mem_map.mpr ⟨x', (mem x').mp hx', rfl⟩) _ (List.mem_map.mpr ⟨y', (mem y').mp hy', rfl⟩)
    · refine q1.1.2.2.2.imp (fun h x hx => ?_) fun h x hx => ?_ <;>
      · obtain ⟨x', hx', rfl⟩ := List.mem_map.mp hx
        exact h _ (List.mem_map.mpr ⟨x', (mem x').mp hx', rfl⟩)
    · have pm := pf.map (·.2)
      refine lst_new a2 (reps_of fun r hr => (hL r (pf.mem_iff.mp hr)).2.mono s2) (k.mono (s1.trans s2)) (q1.2 _ (pm.nodup_iff.mpr hnd) (fun g => (pm.mem_iff).trans (mem g)) srt) hp
  · exact q1.elim
end
end L3
set_option Elab.async false
set_option linter.all false
set_option maxRecDepth 100000
set_option maxHeartbeats 1000000
/-! L3: comprehensions of several clauses, lists and sets. -/
namespace L3
open PySem PySem.Spec PyProof.Rows L2 NS
/-- what a turn of a clause does behind its tests -/
abbrev Part := Value → Env → Sem Unit
structure TurnIs (e : Expr) (k : Nat) (c : Comprehension) (part : Part) : Prop where
  cl : (clausesOf e)[k]? = some c
  na : c.is_async = 0
  undL : ∀ (A : Around) it acc env, A.under (.compLoop e k it acc env) = A
  undS : ∀ (A : Around) it acc env, A.under (.compStart e k it acc env) = A
  denL : ∀ prog w it acc env, (model prog w).den (.compLoop e k it acc env) = (compTurn e k it acc env).onRaise fun x => do noteFrame x env; theTreesLotGoes x
  denS : ∀ prog w it acc env, (model prog w).den (.compStart e k it acc env) = (compStart e k it acc env).onRaise fun x => do noteFrame x env; standAt theWindowsPlace
  eq : ∀ it acc env, compTurn e k it acc env = (do
      standAt c.iter.pos
      match ← pyNext it with
      | none => pure (.done .next)
      | some v =>
        letOwnedTupleGo c.target it v
        assign c.target env v
        let mut ok := true
        for c in c.ifs do
          if ok then ok ← isTrue c env (eval c env)
        if ok then part acc env
        again (.compLoop e k it acc env))
section
variable {prog : Program} {w : World} {A : Around} {R : Result → Shared → Prop} {s : Shared} {e : Expr} {k : Nat} {c : Comprehension} {part : Part} {it acc : Value} {env : Env}
/-- nothing is raised -/
abbrev Calm {α : Type} (prog : Program) (w : World) (A : Around) (m : Sem α) (Q : α → Shared → Prop) (s : Shared) : Prop := wpAny (model prog w) A m Q (fun _ _ => False) s
theorem cl_turns (T : TurnIs e k c part) (I : Nat → Shared → Prop)
    (turn : ∀ n s, I n s → Calm prog w A (pyNext it) (fun r s1 => match r with
      | none => R (.ok .next) s1
      | some v => Calm prog w A (letOwnedTupleGo c.target it v) (fun _ s2 => Calm prog w A (assign c.target env v) (fun _ s3 =>
          Calm prog w A (forIn c.ifs true fun c r => if r = true then do let ok ← isTrue c env (eval c env); pure (ForInStep.yield ok) else pure (ForInStep.yield r)) (fun ok s4 =>
            if ok = true then Calm prog w A (part acc env) (fun _ s5 => ∃ m, m < n ∧ I m s5) s4 else ∃ m, m < n ∧ I m s4) s3) s2) s1) s)
    (n : Nat) (h : I n s) : codeAny (model prog w) A (.compLoop e k it acc env) R s := by
  refine codeAny_loop rfl I (fun n s hI => ?_) n h
  rw [T.undL, T.denL]
  refine wpAny_noted ?_
  rw [T.eq]
  refine wpAny_bind (wpAny_standAt (wpAny_bind (thnF (turn n s hI) fun r s1 h1 => ?_)))
  cases r with
  | none => exact wpAny_pure h1
  | some v =>
    refine wpAny_bind (thnF h1 fun _ s2 h2 => wpAny_bind (thnF h2 fun _ s3 h3 => wpAny_bind (thnF h3 fun ok s4 h4 => ?_)))
    cases ok with
    | false => exact wpAny_pure ⟨rfl, h4⟩
    | true => exact wpAny_bind (thnF h4 fun _ s5 h5 => wpAny_pure ⟨rfl, h5⟩)
theorem cl_start (T : TurnIs e k c part) (self : ∀ (Q : Value → Shared → Prop) (E : Value → Shared → Prop), Q it s → wpAny (model prog w) A (pyIter it) Q E s)
    (h : codeAny (model prog w) A (.compLoop e k it acc env) R s) : codeAny (model prog w) A (.compStart e k it acc env) R s := by
  refine codeAny_of_tree ?_
  rw [T.undS, T.denS]
  refine wpAny_notedAt ?_
  unfold compStart
  rw [T.cl]
  have na : (Option.some c).elim false (fun g => g.is_async != 0) = false := by simp [T.na]
  rw [na]
  simp only [Bool.false_eq_true, if_false]
  show wpAny _ _ (ask >>= _) _ _ s
  refine wpAny_bind (wpAny_askSetting (wpAny_ite ?_))
  split
  · exact wpAny_bind (wpAny_pure (wpAny_pure ⟨rfl, h⟩))
  · refine wpAny_bind (wpAny_rule (wpAny_bind (wpAny_standAt (wpAny_bind (self _ _ (wpAny_pure ⟨rfl, h⟩))))))
end
/-- what stands behind the tests, from which Nx is reached -/
abbrev TB := L2.St → Hp → (Hp → Prop) → Prop
structure PB (Y : Cx) (D : Addr) (part : Part) (t : TB) (vs : List Nat) : Prop where
  run : ∀ (pins : List (Addr × Obj)) (s : Shared) (σ : L2.St) (H : Hp) (Nx : Hp → Prop), Inv Y pins σ H s → t σ H Nx →
    Calm Y.prog Y.w Y.A (part (.ref D) Y.env) (fun _ s1 => ∃ σ1 H1, Inv Y pins σ1 H1 s1 ∧ wipe σ1 vs = wipe σ vs ∧ Nx H1) s
/-- the turns of a clause -/
def Turns (J : It) (g : TG) (tt : TT) (tb : TB) (vs : List Nat) (σ : L2.St) (H0 : Hp) (Nx : Hp → Prop) : Prop :=
  ∃ W : Nat → Nat → Hp → Prop, (∃ m, W 0 m H0) ∧ ∀ i m H, W i m H → (J.stop i H ∧ Nx H) ∨ (J.go i H ∧ ∃ N1 : Hp → Prop, (∀ H', N1 H' → ∃ m', m' < m ∧ W (i + 1) m' H') ∧
    ∀ x H', J.yld i H x H' → g x (wipe σ vs) H' fun σ2 H2 => wipe σ2 vs = wipe σ vs ∧ tt σ2 H2 fun b H3 => if b = true then tb σ2 H3 N1 else N1 H3)
section
variable {Y : Cx} {D : Addr} {e : Expr} {k : Nat} {c : Comprehension} {part : Part} {g : TG} {tt : TT} {tb : TB} {vs vb : List Nat}
theorem FpOk.of {pins : List (Addr × Obj)} {H H' : Hp} {b : Addr} (f : FpOk Y pins H b) (h : H' b = none) : FpOk Y pins H' b := ⟨h, f.2⟩
theorem clause_turns (T : TurnIs e k c part) (hc : Y.calm = true) (hx : Y.xe = fun _ _ => False) (hg : PG Y c.target g) (ht : PTs Y c.ifs tt) (hb : PB Y D part tb vb) (sub : ∀ v ∈ vb, v ∈ vs)
    {it : Addr} {fp : List Addr} {tn : Nat → Heap → Prop} {J : It} (Tn : Turn Y.prog Y.w Y.K c.target J fp it tn) {pins : List (Addr × Obj)} {σ : L2.St} {H : Hp} {s : Shared} (I : Inv Y pins σ H s) (st : tn 0 s.heap) (nf : ∀ b ∈ fp, FpOk Y pins H b)
    {Nx : Hp → Prop} (w : Turns J g tt tb vs σ H Nx) {Rr : Result → Shared → Prop} (fin : ∀ s' H', Inv Y pins (wipe σ vs) H' s' → (∀ b ∈ fp, H' b = none) → Nx H' → Rr (.ok .next) s') :
    codeAny (model Y.prog Y.w) Y.A (.compLoop e k (.ref it) (.ref D) Y.env) Rr s := by
  obtain ⟨W, ⟨m0, w0⟩, turn⟩ := w
  have stat : ∀ {H' : Hp}, (∀ b ∈ fp, H' b = none) → ∀ b ∈ fp, FpOk Y pins H' b := fun z b hb => FpOk.of (nf b hb) (z b hb)
  refine cl_turns T (fun n s' => ∃ i H', Inv Y pins (wipe σ vs) H' s' ∧ tn i s'.heap ∧ (∀ b ∈ fp, H' b = none) ∧ W i n H') ?_ m0 ⟨0, H, I.weak (wipe_length _ _) (fun j v z => (wipe_some z).1), st, fun b hb => (nf b hb).1, w0⟩
  rintro n s1 ⟨i, H1, I1, st1, n1, w1⟩
  rcases turn i n H1 w1 with ⟨stop, nx⟩ | ⟨go, N1, less, step⟩
  · refine thnF (Tn.done Y rfl rfl rfl hc i pins s1 _ H1 (fun _ _ => False) I1 (stat n1) st1 stop) fun r s2 ⟨er, I2⟩ => ?_
    subst er
    exact fin s2 H1 I2 n1 nx
  · refine thnF (Tn.item Y rfl rfl rfl hc i pins s1 _ H1 (fun _ _ => False) I1 (stat n1) st1 go) fun r s2 ⟨u, er, h2⟩ => ?_
    subst er
    refine thnF h2 fun _ s3 ⟨x, H3, I3, r3, y3, st3, n3⟩ => ?_
    have I3' := I3.pinned (stat n3) (Tn.obj _ _ st3)
    have z1 := hg.run _ s3 _ H3 x u _ I3' r3 (step x H3 y3)
    rw [hx] at z1
    refine thnF z1 fun _ s4 ⟨σ4, H4, I4, hw, q4⟩ => ?_
    have z2 := ht.run _ s4 σ4 H4 _ I4 q4
    rw [hx] at z2
    refine thnF z2 fun ok s5 ⟨H5, I5, q5⟩ => ?_
    have back : ∀ {σ' : L2.St} {H' : Hp} {s' : Shared}, Inv Y (pins ++ pinsAt fp s3.heap) σ' H' s' → wipe σ' vs = wipe σ vs → N1 H' → ∃ m, m < n ∧ ∃ i H', Inv Y pins (wipe σ vs) H' s' ∧ tn i s'.heap ∧ (∀ b ∈ fp, H' b = none) ∧ W i m H' := fun {σ' H' s'} I' ew nx => by
      obtain ⟨m, lt, w2⟩ := less H' nx
      have held : ∀ b ∈ fp, ∀ o, s3.heap.get? b = some o → s'.heap.get? b = some o ∧ H' b = none := fun b hb o z => by
        have p := I'.pin (b, o) (List.mem_append_right _ (List.mem_append_right _ (mem_pinsAt hb z)))
        exact ⟨p.1, p.2.1⟩
      refine ⟨m, lt, i + 1, H', I'.unpinned.weak (by rw [← ew, wipe_length]) (fun j v z => by rw [← ew] at z; exact (wipe_some z).1), Tn.keep _ _ _ st3 fun b hb o z => (held b hb o z).1, fun b hb => ?_, w2⟩
      obtain ⟨o, z, _⟩ := Tn.obj _ _ st3 b hb
      exact (held b hb o z).2
    cases ok with
    | false =>
      rw [if_neg Bool.false_ne_true] at q5 ⊢
      exact back I5 hw q5
    | true =>
      rw [if_pos rfl] at q5 ⊢
      exact thnF (hb.run _ s5 σ4 H5 _ I5 q5) fun _ s6 ⟨σ6, H6, I6, e6, nx⟩ => back I6 ((L3.wipe_sub sub e6).trans hw) nx
/-- a clause within -/
def inPart (e : Expr) (k : Nat) (c : Comprehension) : Part := fun acc env => do
  let x ← eval c.iter env
  standAt c.iter.pos
  let x ← foldedSetIterable c.iter env x
  let _ ← runOwn (.compStart e k (← holding [x] (pyIter x)) acc env) env
theorem pb_in {wi : TI} (T : TurnIs e k c part) (hc : Y.calm = true) (hx : Y.xe = fun _ _ => False) (hi : PI Y c.target c.iter wi) (hg : PG Y c.target g) (ht : PTs Y c.ifs tt) (hb : PB Y D part tb vb) (sub : ∀ v ∈ vb, v ∈ vs)
    (hs : ∀ x, foldedSetIterable c.iter Y.env x = pure x) : PB Y D (inPart e k c) (fun σ H Nx => wi σ H fun J H1 => Turns J g tt tb vs σ H1 Nx) vs := by
  refine ⟨fun pins s σ H Nx I h => ?_⟩
  have z := hi.run pins s σ H _ I h
  rw [hx] at z
  unfold inPart
  refine wpAny_bind (thnF z fun xv s1 h1 => wpAny_bind (wpAny_standAt (wpAny_bind (wpAny_of_eq (hs xv) (wpAny_bind (wpAny_holding (thnF h1 fun itv s2 h2 => ?_)))))))
  obtain ⟨it, fp, tn, J, H2, ei, I2, Tn, st, nf, w⟩ := h2
  subst ei
  refine wpAny_bind (wpAny_runOwn ?_)
  rw [Around.mark_none]
  refine codeAny_mono (R := fun r s' => match r with
    | .ok _ => ∃ σ1 H1, Inv Y pins σ1 H1 s' ∧ wipe σ1 vs = wipe σ vs ∧ Nx H1
    | .error _ => False) (cl_start T (fun Q E q => Tn.self Y.A 0 _ _ _ st q) (clause_turns T hc hx hg ht hb sub Tn I2 st nf w fun s' H' I' _ nx => ⟨_, H', I', L3.wipe_wipe σ vs, nx⟩)) fun r s' hr => ?_
  cases r with
  | ok f =>
    first
      | exact wpAny_pure hr
      | exact wpAny_bind (wpAny_pure (wpAny_pure hr))
  | error x => exact hr.elim
end
/-- a comprehension, its new thing at D -/
def tComp (u0 : Addr → HO) (wi : TI) (g : TG) (tt : TT) (tb : Addr → TB) (vs : List Nat) : TE := fun σ H Q => wi σ H fun J H1 => ∀ D, H1 D = none → Turns J g tt (tb D) vs σ (upd H1 D (u0 D)) fun H' => Q (.ref D) H'
section
variable {X : Cx} {e : Expr} {c : Comprehension} {gs : List Comprehension} {part : Part} {g : TG} {tt : TT} {tb : Addr → TB} {vb : List Nat} {scope : Scope} {own : List (Str × Nat)} {wi : TI} {mk : Sem Value} {o0 : Obj} {u0 : Addr → HO} {pos : Pos}
theorem pe_comp (T : TurnIs e 0 c part) (hcl : clausesOf e = c :: gs) (hE : eval e X.env = comprehension e scope X.env pos mk false (eval c.iter X.env))
    (hmk : ∀ {A : Around} {E : Value → Shared → Prop} {s : Shared} {Q : Value → Shared → Prop}, Q (.ref s.heap.objs.size) { s with heap := s.heap.push o0 } → wpAny (model X.prog X.w) A mk Q E s)
    (hob : ∀ (H : Hp) (h : Heap), ObjOk X.prog X.w H (h.push o0) h.objs.size (u0 h.objs.size))
    (hc : X.calm = true) (hN : X.N.Nodup) (hi : PI X c.target c.iter wi) (ok : BlkOk X.N X.env.scope scope own)
    (hg : BlkAll X scope fun Y => PG Y c.target g) (ht : BlkAll X scope fun Y => PTs Y c.ifs tt) (hb : BlkAll X scope fun Y => ∀ D, PB Y D part (tb D) vb) (sub : ∀ v ∈ vb, v ∈ own.map (·.2))
    (hs : ∀ x, foldedSetIterable c.iter X.env x = pure x) : PE X e (tComp u0 wi g tt tb (own.map (·.2))) := by
  refine ⟨fun pins s σ H Q I h => ?_⟩
  rw [hE]
  have free : ∀ y ∈ scope.names, y.2 = .free → ∃ c, X.env.cells.lookup y.1 = some c := fun y hy z => (ok.free y hy z).elim (fun q => I.ok.has _ (.inl q)) fun q => I.ok.has _ (.inr q)
  refine wpAny_comprehension_free (use := none) hcl hs (closure_ok free) ok.kind (fun y hy z => by rw [ok.uniq y hy, z]) (thn (hi.run pins s σ H _ I h) fun xv s1 h1 => thn h1 fun itv s2 h2 => ?_)
  obtain ⟨it, fp, tn, J, H2, ei, I2, Tn, st2, f2, q⟩ := h2
  subst ei
  refine hmk (newEnv_comp ?_)
  have w := q s2.heap.objs.size (I2.hok.fresh (Nat.le_refl _))
  generalize eD : s2.heap.objs.size = D at w
  -- the new thing
  have I3 : Inv X pins σ (upd H2 D (u0 D)) { s2 with heap := s2.heap.push o0 } := I2.laid (t' := s2.toks) (fun b o z => Heap.get?_push_of_some _ z) (Nat.le_of_eq eD) (by rw [← eD]; exact hob _ _)
  have old : ∀ b ∈ fp, b < D := fun b hb => by
    obtain ⟨o, z, _⟩ := Tn.obj _ _ st2 b hb
    rw [← eD]; exact Heap.lt_size z
  generalize h3 : s2.heap.push o0 = hp3 at I3 ⊢
  have sz3 : hp3.objs.size = D + 1 := by rw [← h3, ← eD]; exact Heap.size_push ..
  have st3 : tn 0 hp3 := Tn.keep _ _ _ st2 fun b _ o z => by rw [← h3]; exact Heap.get?_push_of_some _ z
  generalize e3 : ({ s2 with heap := hp3 } : Shared) = s3 at I3
  have eh : s3.heap = hp3 := by rw [← e3]
  have f3 : ∀ b ∈ fp, FpOk X pins (upd H2 D (u0 D)) b ∧ b < s3.heap.objs.size := fun b hb =>
    ⟨FpOk.of (f2 b hb) (by rw [upd_ne (Nat.ne_of_lt (old b hb))]; exact (f2 b hb).1), by rw [eh, sz3]; exact Nat.lt_succ_of_lt (old b hb)⟩
  have I4 := block_start I3 ok hN f3
  have pg := hg s3 (upd H2 D (u0 D)) s3.heap.objs.size (cellsFrom (s3.heap.objs.size + 1) scope.names (cloFrom X.env.cells scope.names [])) fp
  have pt := ht s3 (upd H2 D (u0 D)) s3.heap.objs.size (cellsFrom (s3.heap.objs.size + 1) scope.names (cloFrom X.env.cells scope.names [])) fp
  have pb := hb s3 (upd H2 D (u0 D)) s3.heap.objs.size (cellsFrom (s3.heap.objs.size + 1) scope.names (cloFrom X.env.cells scope.names [])) fp D
  show codeAny (model X.prog X.w) X.A (.compStart e 0 (.ref it) (.ref D) (compEnvC scope (cellsFrom (s3.heap.objs.size + 1) scope.names (cloFrom X.env.cells scope.names [])) s3.heap.objs.size X.env)) (compPost (model X.prog X.w) X.A X.xe none _ (.ref D) s3.heap.objs.size) { s3 with heap := pushCells (s3.heap.push { cls := .type "dict", data := .dict #[] }) scope.names }
  have st4 : tn 0 (pushCells (s3.heap.push { cls := .type "dict", data := .dict #[] }) scope.names) := Tn.keep _ _ _ st3 fun b _ o z => pushCells_keeps _ _ _ _ (Heap.get?_push_of_some _ (by rw [eh]; exact z))
  generalize ec : compEnvC scope (cellsFrom (s3.heap.objs.size + 1) scope.names (cloFrom X.env.cells scope.names [])) s3.heap.objs.size X.env = ce at I4 pg pt pb ⊢
  have loc : ce.locals = s3.heap.objs.size := by rw [← ec]; rfl
  have nf : ∀ b ∈ fp, FpOk (X.blk s3 (upd H2 D (u0 D)) scope ce fp) [] (upd H2 D (u0 D)) b := fun b hb =>
    ⟨(f3 b hb).1.1, (I4.ok.exf b hb).1, I4.ok.exfs b hb, .inl hb, fun x c z => (I4.ok.exf b hb).2 x c z, fun p hp => absurd (show p ∈ ([] : List (Addr × Obj)) ++ [] from hp) (by simp)⟩
  generalize e4 : ({ s3 with heap := pushCells (s3.heap.push { cls := .type "dict", data := .dict #[] }) scope.names } : Shared) = s4 at I4 ⊢
  have st5 : tn 0 s4.heap := by rw [← e4]; exact st4
  refine cl_start T (fun Q E q => Tn.self X.A 0 _ _ _ st5 q) (clause_turns (Y := X.blk s3 (upd H2 D (u0 D)) scope ce fp) (σ := wipe σ (own.map (·.2))) (vs := own.map (·.2)) (Nx := fun H' => Q (.ref D) H') T hc rfl pg pt pb sub Tn I4 st5 nf ?_ fun s' H' I' n' q' => ?_)
  · unfold Turns at w ⊢
    rw [L3.wipe_wipe]; exact w
  · have I5 : Inv X pins σ H' s' := I3.call' (ch := fp) I'.os I'.base I'.hok I'.bare fun b hb => ⟨(f3 b hb).1.2.2.2.1, (f3 b hb).1.2.1, (f3 b hb).1.2.2.2.2.1, (f3 b hb).1.2.2.2.2.2⟩
    obtain ⟨m, hn, _⟩ := I'.loc
    have nC : H' s3.heap.objs.size = none := by
      have z : H' ce.locals = none := I'.free
      rwa [loc] at z
    obtain ⟨f0, f1, f2, f3, f4, f5⟩ := I3.fpOk (H' := H') (Nat.le_refl _) nC
    have hn : s'.heap.Ns ce.locals m := hn
    rw [loc] at hn
    exact ⟨m, hn, fun h'' sb => ⟨.ref D, H', I5.turned (t' := s'.toks) (fun b o hb z => (sb.2 b hb).trans z) f0 f1 f3 f4 f5, rfl, q'⟩⟩
end
end L3
set_option Elab.async false
set_option linter.all false
set_option maxRecDepth 100000
set_option maxHeartbeats 1000000
/-! L3: readings of comprehensions of several clauses; sorted({.. for ..}). -/
namespace L3
open PySem PySem.Spec PyProof.Rows L2 NS
/-- what stands behind a clause's tests: the things gathered so far, and what follows -/
abbrev DC := DEnv → List D → Mp → (List D → Mp → Prop) → Prop
def dClL0 (t : Tg) (tt : DT) (b : DC) (env : DEnv) : List D → List D → Mp → (List D → Mp → Prop) → Prop
  | [], acc, M, k => k acc M
  | x :: r, acc, M, k => t.bind x env fun env1 => tt env1 M fun c M1 => brn c (b env1 acc M1 fun acc2 M2 => dClL0 t tt b env r acc2 M2 k) (dClL0 t tt b env r acc M1 k)
@[irreducible] def dClL (t : Tg) (tt : DT) (b : DC) (env : DEnv) (xs acc : List D) (M : Mp) (k : List D → Mp → Prop) : Prop := dClL0 t tt b env xs acc M k
theorem dClL_eq {t : Tg} {tt : DT} {b : DC} {env : DEnv} {xs acc : List D} {M : Mp} {k : List D → Mp → Prop} : dClL t tt b env xs acc M k = dClL0 t tt b env xs acc M k := by unfold dClL; rfl
def dIn (w : DI) (t : Tg) (tt : DT) (b : DC) (vs : List Nat) : DC := fun env acc M k => w env M fun items M1 => dClL t tt b (wipeD env vs) items acc M1 k
/-- what the new thing shows for what was gathered -/
abbrev RA := Hp → List D → HO → Prop
def upB (K : PySem.W.Frag) (ra : RA) (b : DC) (A : Addr) : TB := fun σ H Nx => ∃ R F env M acc u Qd, R A = none ∧ At K (upd R A u) F M H ∧ ra F acc u ∧ EnvR K F σ env ∧ b env acc M Qd ∧
  ∀ F' H' M' acc' u', Same F F' → At K (upd R A u') F' M' H' → ra F' acc' u' → Qd acc' M' → Nx H'
theorem cl_served {K : PySem.W.Frag} {ra : RA} (mono : ∀ {F F' acc u}, Same F F' → ra F acc u → ra F' acc u) {t : Tg} {tt : DT} {b : DC} {vs : List Nat} (hv : ∀ v ∈ t.slots, v ∈ vs) {A : Addr} {R F : Hp} {M : Mp} {H : Hp} {σ : L2.St} {env : DEnv} {J : It} {items acc : List D} {u : HO} {Qd : List D → Mp → Prop} {Nx : Hp → Prop}
    (hR : R A = none) (a : At K (upd R A u) F M H) (hu : ra F acc u) (e : EnvR K F σ env) (gv : Gives K J F items) (q : dClL t tt b (wipeD env vs) items acc M Qd)
    (k : ∀ F' H' M' acc' u', Same F F' → At K (upd R A u') F' M' H' → ra F' acc' u' → Qd acc' M' → Nx H') : Turns J (tgOf K t) (upT K tt) (upB K ra b A) vs σ H Nx := by
  rw [dClL_eq] at q
  refine ⟨fun i m H => ∃ F2 M2 acc2 u2, Same F F2 ∧ At K (upd R A u2) F2 M2 H ∧ ra F2 acc2 u2 ∧ dClL0 t tt b (wipeD env vs) (items.drop i) acc2 M2 Qd ∧ m = items.length - i ∧ i ≤ items.length,
    ⟨items.length, F, M, acc, u, Same.refl _, a, hu, q, by simp, Nat.zero_le _⟩, ?_⟩
  rintro i m H2 ⟨F2, M2, acc2, u2, s2, a2, h2, q2, rfl, hi⟩
  by_cases lt : i < items.length
  · rw [List.drop_eq_getElem_cons lt] at q2
    obtain ⟨hgo, hy⟩ := gv.go i items[i] _ F2 _ _ s2 a2 (List.getElem?_eq_getElem lt)
    refine .inr ⟨hgo, fun H' => ∃ F3 M3 acc3 u3, Same F F3 ∧ At K (upd R A u3) F3 M3 H' ∧ ra F3 acc3 u3 ∧ dClL0 t tt b (wipeD env vs) (items.drop (i + 1)) acc3 M3 Qd,
      fun H' ⟨F3, M3, acc3, u3, s3, a3, h3, q3⟩ => ⟨items.length - (i + 1), by omega, F3, M3, acc3, u3, s3, a3, h3, q3, rfl, lt⟩, fun x H' y => ?_⟩
    obtain ⟨F3, s3, a3, r3⟩ := hy x H' y
    refine tg_serves a3 t (wipe σ vs) (wipeD env vs) items[i] x _ _ ((e.wipe vs).mono (s2.trans s3)) r3 q2 fun σ' env' e' w' q' => ?_
    refine ⟨(L3.wipe_sub hv w').trans (L3.wipe_wipe σ vs), _, F3, env', M2, _, a3, e', q', fun F4 H4 M4 c s4 a4 q4 => ?_⟩
    show if c = true then _ else _
    cases c with
    | true =>
      rw [brn_t] at q4; rw [if_pos rfl]
      exact ⟨R, F4, env', M4, acc2, u2, _, hR, a4, mono (s3.trans s4) h2, e'.mono s4, q4, fun F5 H5 M5 acc5 u5 s5 a5 h5 q5 => ⟨F5, M5, acc5, u5, ((s2.trans s3).trans s4).trans s5, a5, h5, q5⟩⟩
    | false =>
      rw [brn_f] at q4; rw [if_neg Bool.false_ne_true]
      exact ⟨F4, M4, acc2, u2, (s2.trans s3).trans s4, a4, mono (s3.trans s4) h2, q4⟩
  · have ei : i = items.length := by omega
    subst ei
    rw [List.drop_length] at q2
    exact .inl ⟨gv.stop _ F2 M2 _ s2 a2, k F2 _ M2 acc2 u2 s2 a2 h2 q2⟩
section
variable {Y : Cx} {A : Addr} {e elt : Expr} {k : Nat} {c : Comprehension} {part : Part} {t : Tg} {tt : DT} {b : DC} {vs vb : List Nat} {w : DI} {ra : RA} {te : DE}
theorem pb_imp {tb tb' : TB} (h : PB Y A part tb vb) (i : ∀ σ H Nx, tb' σ H Nx → tb σ H Nx) : PB Y A part tb' vb := ⟨fun pins s σ H Nx I q => h.run pins s σ H Nx I (i _ _ _ q)⟩
theorem pdb_in (mono : ∀ {F F' acc u}, Same F F' → ra F acc u → ra F' acc u) (T : TurnIs e k c part) (hi : PDI Y c.target c.iter w) (hg : PDG Y c.target t) (ht : PDTs Y c.ifs tt) (hb : PB Y A part (upB Y.K ra b A) vb)
    (hv : ∀ v ∈ t.slots, v ∈ vs := by decide) (sub : ∀ v ∈ vb, v ∈ vs := by decide) (hc : Y.calm = true := by rfl) (hx : Y.xe = (fun _ _ => False) := by rfl)
    (hs : ∀ x, foldedSetIterable c.iter Y.env x = pure x := by intro _; rfl) : PB Y A (inPart e k c) (upB Y.K ra (dIn w t tt b vs) A) vs :=
  pb_imp (pb_in T hc hx hi hg ht hb sub hs) fun σ H Nx ⟨R, F, env, M, acc, u, Qd, hR, a, hu, e, h, k⟩ => ⟨_, F, env, M, _, a, e, h, fun F1 H1 M1 items J s1 a1 gv q1 =>
    cl_served (ra := ra) mono hv hR a1 (mono s1 hu) (e.mono s1) gv q1 fun F2 H2 M2 acc2 u2 s2 a2 h2 q2 => k F2 H2 M2 acc2 u2 (s1.trans s2) a2 h2 q2⟩
/-! ### sets -/
open Classical in
/-- one gathered more, if it is new -/
@[irreducible] noncomputable def insD (acc : List D) (y : D) : List D := if y ∈ acc then acc else acc ++ [y]
theorem insD_mem {acc : List D} {y z : D} : z ∈ insD acc y ↔ z ∈ acc ∨ z = y := by
  unfold insD
  split
  · exact ⟨.inl, fun h => h.elim id fun e => e ▸ (by assumption)⟩
  · simp
theorem insD_nodup {acc : List D} {y : D} (h : acc.Nodup) : (insD acc y).Nodup := by
  unfold insD
  split
  · exact h
  · rename_i hn
    rw [List.nodup_append]
    exact ⟨h, by simp, fun a ha b hb e => hn (by rw [List.mem_singleton.mp hb] at e; exact e ▸ ha)⟩
theorem insD_len {acc : List D} {y : D} : (insD acc y).length ≤ acc.length + 1 := by
  unfold insD
  split <;> simp
theorem insD_old {acc : List D} {y : D} (h : y ∈ acc) : insD acc y = acc := by unfold insD; rw [if_pos h]
theorem insD_new {acc : List D} {y : D} (h : y ∉ acc) : insD acc y = acc ++ [y] := by unfold insD; rw [if_neg h]
def raS (K : PySem.W.Frag) (w : World) (A : Addr) : RA := fun F acc u => ∃ Ld : List (Addr × D), u = SetNO w A Ld ∧ (Ld.map (·.2)).Perm acc ∧ acc.length < 4096 ∧ ∀ r ∈ Ld, Rep K F r.2 (.ref r.1) ∧ isKey r.2 = true
theorem raS_mono {K : PySem.W.Frag} {w : World} {A : Addr} : ∀ {F F' : Hp} {acc : List D} {u : HO}, Same F F' → raS K w A F acc u → raS K w A F' acc u := fun s ⟨Ld, e, p, l, h⟩ => ⟨Ld, e, p, l, fun r hr => ⟨(h r hr).1.mono s, (h r hr).2⟩⟩
def setPart (elt : Expr) : Part := fun acc env => do
  let v ← eval elt env
  standAt elt.pos
  let _ ← call (.builtin "set.add") [acc, v]
def dElS (te : DE) : DC := fun env acc M k => te env M fun y M1 => (isKey y = true ∧ acc.length + 1 < 4096) ∧ k (insD acc y) M1
theorem key_ref {K : PySem.W.Frag} {F : Hp} {y : D} {v : V} (r : Rep K F y v) (h : isKey y = true) : ∃ a, v = .ref a := by
  cases y with
  | tup ds => obtain ⟨a, xs, e, _⟩ := r; exact ⟨a, e⟩
  | _ => cases h
set_option maxHeartbeats 4000000 in
theorem pdb_set (he : PDE Y elt te) (hu : Y.A.units + 65 < cLine) (hx : Y.xe = (fun _ _ => False) := by rfl) : PB Y A (setPart elt) (upB Y.K (raS Y.K Y.w A) (dElS te) A) [] := by
  refine ⟨fun pins s σ H Nx I ⟨R, F, env, M, acc, u, Qd, hR, a, ⟨Ld, eu, pm, few, hk⟩, e, h, k⟩ => ?_⟩
  have z := he.run pins s σ H (fun v H1 => ∃ F1 M1 y, Same F F1 ∧ At Y.K (upd R A u) F1 M1 H1 ∧ Rep Y.K F1 y v ∧ (isKey y = true ∧ acc.length + 1 < 4096) ∧ Qd (insD acc y) M1) I ⟨_, F, env, M, _, a, e, h, fun F1 H1 M1 y v s1 a1 r1 q1 => ⟨F1, M1, y, s1, a1, r1, q1⟩⟩
  rw [hx] at z
  unfold setPart
  refine wpAny_bind (thnF z fun x s1 ⟨v, H1, I1, rv, F1, M1, y, s1', a1, r1, ⟨ky, few1⟩, q1⟩ => wpAny_bind (wpAny_standAt (wpAny_bind ?_)))
  obtain ⟨p, ev⟩ := key_ref r1 ky
  subst ev
  cases (show x = Value.ref p from rv)
  subst eu
  have hA : H1 A = some (SetNO Y.w A Ld) := (a1.fr A _ upd_same).2.2
  obtain ⟨es, ep, t, ⟨o, ho, hex, hd⟩, row, tb, uq, led, free, fewL⟩ := (show NSet0 Y.w s1.heap A (tagN Ld) from (I1.hok A _ hA).1)
  have keys : ∀ r ∈ Ld, Kat s1.heap (keyN r.2) r.1 := fun r hr => by
    obtain ⟨n1, _, n2, _⟩ := nk_at I1 a1.fz ((hk r hr).1.mono s1') (u := .ref r.1) rfl (isKey_nk (hk r hr).2)
    exact ⟨n1, n2⟩
  obtain ⟨n1, _, n2, _⟩ := nk_at I1 a1.fz r1 (u := .ref p) rfl (isKey_nk ky)
  have kx : Kat s1.heap (keyN y) p := ⟨n1, n2⟩
  have S : NSet Y.w s1.heap A (tagN Ld) es ep t := ⟨⟨o, ho, hex, hd⟩, row, tb, uq, fun r hr => by obtain ⟨r', hr', rfl⟩ := List.mem_map.mp hr; exact keys r' hr', led, free, fewL⟩
  have lenL : (tagN Ld).length = acc.length := by rw [List.length_map, ← pm.length_eq, List.length_map]
  have ty : s1.TypeIs (.ref A) "set" := ⟨o, ho, hex.1⟩
  refine wpAny_call_entry PySem.F.slot_set_add ty PySem.F.entry_set_add ?_ (PySem.F.args_set_add_2 _ _)
  unfold Builtin.«set.add» Builtin.Frozenset.oneOther Builtin.Frozenset.addrOf setAdd
  simp only [List.isEmpty_nil, bind_assoc]
  refine wpAny_bind (wpAny_pure ?_)
  try dsimp only
  refine wpAny_bind (wpAny_pure ?_)
  try dsimp only
  refine wpAny_bind (wpAny_holding (wpAny_bind (pyHash_key (keyN y) _ _ _ _ kx.is (by show Y.A.in1.units + _ < _; have := kx.dp; show Y.A.units + 1 + _ < _; omega) ?_)))
  have mem : keyN y ∈ (tagN Ld).map (·.2) ↔ y ∈ acc := by
    rw [← pm.mem_iff, List.map_map]
    constructor
    · intro h
      obtain ⟨r, hr, er⟩ := List.mem_map.mp h
      exact List.mem_map.mpr ⟨r, hr, keyN_inj (isKey_nk (hk r hr).2) (isKey_nk ky) er⟩
    · intro h
      obtain ⟨r, hr, er⟩ := List.mem_map.mp h
      exact List.mem_map.mpr ⟨r, hr, congrArg keyN er⟩
  refine add_key (s := { s1 with toks := s1.toks + (keyN y).draws }) S kx (by show Y.A.units + 1 + 8 < cLine; omega) (by rw [lenL]; exact few1) (fun old => ?_) fun h' L' es' ep' t' new but S' pm' => ?_
  · refine (show wpAny _ _ (ret Value.none) _ _ _ from wpAny_pure ⟨_, rfl, wpAny_pure ?_⟩)
    rw [insD_old (mem.mp old)] at q1
    exact ⟨σ, H1, I1.tok _, rfl, k F1 H1 M1 acc _ s1' a1 ⟨Ld, rfl, pm, few, fun r hr => ⟨(hk r hr).1.mono s1', (hk r hr).2⟩⟩ q1⟩
  · refine (show wpAny _ _ (ret Value.none) _ _ _ from wpAny_pure ⟨_, rfl, wpAny_pure ?_⟩)
    obtain ⟨L2, p2, e2⟩ := perm_lift (fun r : Addr × D => (r.1, keyN r.2)) pm' ((p, y) :: Ld) rfl
    subst e2
    rw [insD_new fun h => new (mem.mpr h)] at q1
    refine ⟨σ, upd H1 A (SetNO Y.w A L2), I1.write (x := A) (e := A) (t' := s1.toks + (keyN y).draws) (by rw [hA]; trivial) (.inl rfl) (fun b u hb hu => (but.2 b hb).trans hu) (S'.obj.imp fun o q => q.1) (setNO_new ⟨es', ep', t', S'.obj, S'.row, S'.tb, S'.uniq, S'.led, S'.free, S'.few⟩), rfl, ?_⟩
    refine k F1 _ M1 (acc ++ [y]) _ s1' (a1.relend _) ⟨L2, rfl, ((show (L2.map (·.2)).Perm (y :: Ld.map (·.2)) from p2.map fun r : Addr × D => r.2).trans ((pm.cons y).trans (List.perm_append_singleton y acc).symm)), by simpa using few1, fun r hr => ?_⟩ q1
    rcases List.mem_cons.mp (p2.mem_iff.mp hr) with er | hr
    · subst er; exact ⟨r1, ky⟩
    · exact ⟨(hk r hr).1.mono s1', (hk r hr).2⟩
end
/-! ### sorted({..}) -/
section
variable {X : Cx} {e : Expr} {c : Comprehension} {gs : List Comprehension} {part : Part} {t : Tg} {tt : DT} {b : DC} {vb : List Nat} {scope : Scope} {own : List (Str × Nat)} {w : DI} {elt : Expr} {te : DE} {pos p pos2 : Pos}
theorem At.unlend {K : PySem.W.Frag} {R F : Hp} {M : Mp} {H : Hp} {A : Addr} {u : HO} (a : At K (upd R A u) F M H) (hR : R A = none) : At K R F M H :=
  ⟨a.fz, a.mu, fun x o z => a.fr x o (by rw [upd_ne (fun ex => by rw [ex, hR] at z; cases z)]; exact z)⟩
def dSortSet (w : DI) (t : Tg) (tt : DT) (b : DC) (vs : List Nat) : DE := fun env M Q => w env M fun items M1 => dClL t tt b (wipeD env vs) items [] M1 fun acc M2 => SrtOk acc ∧ ∀ ys : List D, ys.Perm acc → ys.Pairwise (fun d e => leD d e = true) → Q (.lst ys) M2
theorem pe_setcomp (T : TurnIs (.SetComp elt (c :: gs) scope pos) 0 c part) (hN : X.N.Nodup) (hi : PDI X c.target c.iter w) (ok : BlkOk X.N X.env.scope scope own)
    (hg : BlkAll X scope fun Y => PDG Y c.target t) (ht : BlkAll X scope fun Y => PDTs Y c.ifs tt) (hb : BlkAll X scope fun Y => ∀ A, PB Y A part (upB Y.K (raS Y.K Y.w A) b A) vb) (sub : ∀ v ∈ vb, v ∈ own.map (·.2))
    (hna : c.is_async = 0) (hc : X.calm = true) (hs : ∀ x, foldedSetIterable c.iter X.env x = pure x) :
    PE X (.SetComp elt (c :: gs) scope pos) (tComp (fun A => SetNO X.w A []) (upI X.K w) (tgOf X.K t) (upT X.K tt) (fun A => upB X.K (raS X.K X.w A) b A) (own.map (·.2))) := by
  refine pe_comp (pos := firstIterPos (c :: gs) pos) (mk := newSet (.type "set")) (o0 := freshO X.w) (gs := gs) (wi := upI X.K w) (g := tgOf X.K t) (tt := upT X.K tt) (tb := fun A => upB X.K (raS X.K X.w A) b A) T rfl ?_ (fun q => PpSet.newSet_ok q) (fun H h => setNO_new ?_) hc hN hi ok hg ht hb sub hs
  · obtain ⟨t1, i1, f1, a1⟩ := c
    cases (show a1 = 0 from hna)
    exact PpSet.eval_SetComp _ _ _ _
  · have f := fresh_set (w := X.w) (a := h.objs.size) (Heap.get?_push_size h (o := freshO X.w) rfl)
    exact ⟨_, _, _, f.obj, f.row, f.tb, f.uniq, f.led, f.free, f.few⟩
theorem pd_sortcomp {k : Nat} (hr : Room k X.A) (hm1 : X.mg "sorted" = none) (T : TurnIs (.SetComp elt (c :: gs) scope pos) 0 c part) (hN : X.N.Nodup) (hi : PDI X c.target c.iter w) (ok : BlkOk X.N X.env.scope scope own)
    (hg : BlkAll X scope fun Y => PDG Y c.target t) (ht : BlkAll X scope fun Y => PDTs Y c.ifs tt) (hb : BlkAll X scope fun Y => ∀ A, PB Y A part (upB Y.K (raS Y.K Y.w A) b A) vb) (hv : ∀ v ∈ t.slots, v ∈ own.map (·.2) := by decide) (sub : ∀ v ∈ vb, v ∈ own.map (·.2) := by decide)
    (hna : c.is_async = 0 := by rfl) (hc : X.calm = true := by rfl) (hs : ∀ x, foldedSetIterable c.iter X.env x = pure x := by intro _; rfl) (hg1 : Gl X "sorted" := by rfl)
    (ha : starEach [.SetComp elt (c :: gs) scope pos] X.env = (false, eval (.SetComp elt (c :: gs) scope pos) X.env) :: starEach [] X.env := by rfl) (hpl : (backTo pos2 (starEach [] X.env)).any (·.1) = false := by rfl) :
    PDE X (.Call (.Name "sorted" p) [.SetComp elt (c :: gs) scope pos] [] pos2) (dSortSet w t tt b (own.map (·.2))) := by
  have hu : X.A.units + 65 < cLine := by have := hr.un; omega
  refine pe_imp (pe_callB (cr_sortedN hc hu) hg1 hm1 (by decide +kernel) (pa_cons (pe_setcomp T hN hi ok hg ht hb sub hna hc hs) pa_nil ha) (by decide) (by decide) ha hpl) fun σ H Q ⟨R, F, env, M, Qd, a, e, h, k⟩ => ⟨R, F, env, M, _, a, e, h, fun F1 H1 M1 items J s1 a1 gv q1 => ?_⟩
  intro A hA
  refine cl_served (ra := raS X.K X.w A) raS_mono hv (a1.freeR hA) (a1.lend hA _) ⟨[], rfl, .nil, by decide, fun r hr => nomatch hr⟩ (e.mono s1) gv q1 fun F2 H2 M2 acc u s2 a2 ⟨Ld, eu, pm, few, hk⟩ q2 => ?_
  subst eu
  have hH : H2 A = some (SetNO X.w A Ld) := (a2.fr A _ upd_same).2.2
  refine ⟨A, F2, Ld, rfl, hH, a2.fz, hk, ⟨fun x hx y hy => ?_, ?_⟩, fun Lf p pf srt hp => ?_⟩
  · obtain ⟨x', hx', rfl⟩ := List.mem_map.mp hx
    obtain ⟨y', hy', rfl⟩ := List.mem_map.mp hy
    exact q2.1.1 _ (List.mem_map.mpr ⟨x', pm.mem_iff.mp hx', rfl⟩) _ (List.mem_map.mpr ⟨y', pm.mem_iff.mp hy', rfl⟩)
  · refine q2.1.2.imp (fun h x hx => ?_) fun h x hx => ?_ <;>
    · obtain ⟨x', hx', rfl⟩ := List.mem_map.mp hx
      exact h _ (List.mem_map.mpr ⟨x', pm.mem_iff.mp hx', rfl⟩)
  · exact lst_new (a2.unlend (a1.freeR hA)) (reps_of fun r hr => (hk r (pf.mem_iff.mp hr)).1) (k.mono (s1.trans s2)) (q2.2 _ ((pf.map (·.2)).trans pm) srt) hp
/-! ### lists of several clauses -/
def raL (K : PySem.W.Frag) : RA := fun F acc u => ∃ xs, u = .lst xs ∧ Reps K F acc xs
theorem raL_mono {K : PySem.W.Frag} : ∀ {F F' : Hp} {acc : List D} {u : HO}, Same F F' → raL K F acc u → raL K F' acc u := fun s ⟨xs, e, r⟩ => ⟨xs, e, r.mono s⟩
def lstPart (elt : Expr) : Part := fun acc env => do let _ ← call (.builtin "list.append") [acc, ← eval elt env]
def dElL (te : DE) : DC := fun env acc M k => te env M fun y M1 => acc.length < sizeLine ∧ k (acc ++ [y]) M1
theorem pdb_lst {Y : Cx} {A : Addr} (he : PDE Y elt te) (hx : Y.xe = (fun _ _ => False) := by rfl) : PB Y A (lstPart elt) (upB Y.K (raL Y.K) (dElL te) A) [] := by
  refine ⟨fun pins s σ H Nx I ⟨R, F, env, M, acc, u, Qd, hR, a, ⟨xs, eu, rx⟩, e, h, k⟩ => ?_⟩
  subst eu
  have z := he.run pins s σ H (fun v H1 => ∃ F1 M1 y, Same F F1 ∧ At Y.K (upd R A (.lst xs)) F1 M1 H1 ∧ Rep Y.K F1 y v ∧ acc.length < sizeLine ∧ Qd (acc ++ [y]) M1) I ⟨_, F, env, M, _, a, e, h, fun F1 H1 M1 y v s1 a1 r1 q1 => ⟨F1, M1, y, s1, a1, r1, q1⟩⟩
  rw [hx] at z
  unfold lstPart
  refine wpAny_bind (thnF z fun x s1 ⟨v, H1, I1, rv, F1, M1, y, s1', a1, r1, few, q1⟩ => wpAny_bind ?_)
  refine app_ok I1 (a1.fr A _ upd_same).2.2 (by rw [← rx.length]; exact few) rv fun s2 I2 => wpAny_pure ?_
  exact ⟨σ, _, I2, rfl, k F1 _ M1 _ _ s1' (a1.relend _) ⟨_, rfl, (rx.mono s1').append (Reps.one r1)⟩ q1⟩
def dLcN (w : DI) (t : Tg) (tt : DT) (b : DC) (vs : List Nat) : DE := fun env M Q => w env M fun items M1 => dClL t tt b (wipeD env vs) items [] M1 fun ds M2 => Q (.lst ds) M2
theorem pd_lcN (T : TurnIs (.ListComp elt (c :: gs) scope pos) 0 c part) (hN : X.N.Nodup) (hi : PDI X c.target c.iter w) (ok : BlkOk X.N X.env.scope scope own)
    (hg : BlkAll X scope fun Y => PDG Y c.target t) (ht : BlkAll X scope fun Y => PDTs Y c.ifs tt) (hb : BlkAll X scope fun Y => ∀ A, PB Y A part (upB Y.K (raL Y.K) b A) vb) (hv : ∀ v ∈ t.slots, v ∈ own.map (·.2) := by decide) (sub : ∀ v ∈ vb, v ∈ own.map (·.2) := by decide)
    (hna : c.is_async = 0 := by rfl) (hc : X.calm = true := by rfl) (hs : ∀ x, foldedSetIterable c.iter X.env x = pure x := by intro _; rfl) :
    PDE X (.ListComp elt (c :: gs) scope pos) (dLcN w t tt b (own.map (·.2))) := by
  refine pe_imp (pe_comp (pos := firstIterPos (c :: gs) pos) (mk := newList []) (o0 := { cls := .type "list", data := .seq ([] : List Value).toArray }) (u0 := fun _ => .lst []) (gs := gs) (wi := upI X.K w) (g := tgOf X.K t) (tt := upT X.K tt) (tb := fun A => upB X.K (raL X.K) b A) T rfl ?_ (fun q => wpAny_newObj_type q (by show 0 ≤ sizeLine; decide)) (fun H h => ⟨Nat.zero_le _, [], 0, .nil, Heap.get?_push_size _ rfl⟩) hc hN hi ok hg ht hb sub hs)
    fun σ H Q ⟨R, F, env, M, Qd, a, e, h, k⟩ => ⟨R, F, env, M, _, a, e, h, fun F1 H1 M1 items J s1 a1 gv q1 => ?_⟩
  · obtain ⟨t1, i1, f1, a1⟩ := c
    cases (show a1 = 0 from hna)
    exact eval_ListComp _ _ _ _
  · intro A hA
    refine cl_served (acc := []) (ra := raL X.K) raL_mono hv (a1.freeR hA) (a1.lend hA _) ⟨[], rfl, (rfl : Reps X.K F1 [] [])⟩ (e.mono s1) gv q1 fun F2 H2 M2 acc u s2 a2 ⟨xs, eu, rx⟩ q2 => ?_
    subst eu
    obtain ⟨a3, s3⟩ := a2.takeF (a1.freeR hA)
    exact k _ H2 M2 (.lst acc) _ ((s1.trans s2).trans s3) a3 ⟨A, xs, rfl, upd_same, rx.mono s3⟩ q2
end
/-! ### by the number of clauses -/
section
variable {X : Cx} {elt t0 i0 t1 i1 t2 i2 : Expr} {f0 f1 f2 : List Expr} {scope : Scope} {pos p pos2 : Pos} {own : List (Str × Nat)} {w0 w1 w2 : DI} {g0 g1 g2 : Tg} {tt0 tt1 tt2 : DT} {te : DE} {vs1 vs2 : List Nat}
theorem turn_s1 : TurnIs (.SetComp elt [⟨t0, i0, f0, 0⟩] scope pos) 0 ⟨t0, i0, f0, 0⟩ (setPart elt) := { cl := rfl, na := rfl, undL := fun _ _ _ _ => rfl, undS := fun _ _ _ _ => rfl, denL := fun _ _ _ _ _ => rfl, denS := fun _ _ _ _ _ => rfl, eq := by intros; rfl }
theorem turn_s2 : TurnIs (.SetComp elt [⟨t0, i0, f0, 0⟩, ⟨t1, i1, f1, 0⟩] scope pos) 1 ⟨t1, i1, f1, 0⟩ (setPart elt) := { cl := rfl, na := rfl, undL := fun _ _ _ _ => rfl, undS := fun _ _ _ _ => rfl, denL := fun _ _ _ _ _ => rfl, denS := fun _ _ _ _ _ => rfl, eq := by intros; rfl }
theorem turn_s20 : TurnIs (.SetComp elt [⟨t0, i0, f0, 0⟩, ⟨t1, i1, f1, 0⟩] scope pos) 0 ⟨t0, i0, f0, 0⟩ (inPart (.SetComp elt [⟨t0, i0, f0, 0⟩, ⟨t1, i1, f1, 0⟩] scope pos) 1 ⟨t1, i1, f1, 0⟩) := { cl := rfl, na := rfl, undL := fun _ _ _ _ => rfl, undS := fun _ _ _ _ => rfl, denL := fun _ _ _ _ _ => rfl, denS := fun _ _ _ _ _ => rfl, eq := by intros; simp only [inPart, bind_assoc]; rfl }
theorem turn_s3 : TurnIs (.SetComp elt [⟨t0, i0, f0, 0⟩, ⟨t1, i1, f1, 0⟩, ⟨t2, i2, f2, 0⟩] scope pos) 2 ⟨t2, i2, f2, 0⟩ (setPart elt) := { cl := rfl, na := rfl, undL := fun _ _ _ _ => rfl, undS := fun _ _ _ _ => rfl, denL := fun _ _ _ _ _ => rfl, denS := fun _ _ _ _ _ => rfl, eq := by intros; rfl }
theorem turn_s31 : TurnIs (.SetComp elt [⟨t0, i0, f0, 0⟩, ⟨t1, i1, f1, 0⟩, ⟨t2, i2, f2, 0⟩] scope pos) 1 ⟨t1, i1, f1, 0⟩ (inPart (.SetComp elt [⟨t0, i0, f0, 0⟩, ⟨t1, i1, f1, 0⟩, ⟨t2, i2, f2, 0⟩] scope pos) 2 ⟨t2, i2, f2, 0⟩) := { cl := rfl, na := rfl, undL := fun _ _ _ _ => rfl, undS := fun _ _ _ _ => rfl, denL := fun _ _ _ _ _ => rfl, denS := fun _ _ _ _ _ => rfl, eq := by intros; simp only [inPart, bind_assoc]; rfl }
theorem turn_s30 : TurnIs (.SetComp elt [⟨t0, i0, f0, 0⟩, ⟨t1, i1, f1, 0⟩, ⟨t2, i2, f2, 0⟩] scope pos) 0 ⟨t0, i0, f0, 0⟩ (inPart (.SetComp elt [⟨t0, i0, f0, 0⟩, ⟨t1, i1, f1, 0⟩, ⟨t2, i2, f2, 0⟩] scope pos) 1 ⟨t1, i1, f1, 0⟩) := { cl := rfl, na := rfl, undL := fun _ _ _ _ => rfl, undS := fun _ _ _ _ => rfl, denL := fun _ _ _ _ _ => rfl, denS := fun _ _ _ _ _ => rfl, eq := by intros; simp only [inPart, bind_assoc]; rfl }
theorem turn_l2 : TurnIs (.ListComp elt [⟨t0, i0, f0, 0⟩, ⟨t1, i1, f1, 0⟩] scope pos) 1 ⟨t1, i1, f1, 0⟩ (lstPart elt) := { cl := rfl, na := rfl, undL := fun _ _ _ _ => rfl, undS := fun _ _ _ _ => rfl, denL := fun _ _ _ _ _ => rfl, denS := fun _ _ _ _ _ => rfl, eq := by intros; rfl }
theorem turn_l20 : TurnIs (.ListComp elt [⟨t0, i0, f0, 0⟩, ⟨t1, i1, f1, 0⟩] scope pos) 0 ⟨t0, i0, f0, 0⟩ (inPart (.ListComp elt [⟨t0, i0, f0, 0⟩, ⟨t1, i1, f1, 0⟩] scope pos) 1 ⟨t1, i1, f1, 0⟩) := { cl := rfl, na := rfl, undL := fun _ _ _ _ => rfl, undS := fun _ _ _ _ => rfl, denL := fun _ _ _ _ _ => rfl, denS := fun _ _ _ _ _ => rfl, eq := by intros; simp only [inPart, bind_assoc]; rfl }
theorem pd_sortset1 {k : Nat} (hr : Room k X.A) (hm1 : X.mg "sorted" = none) (hN : X.N.Nodup) (hi0 : PDI X t0 i0 w0) (ok : BlkOk X.N X.env.scope scope own) (hg0 : BlkAll X scope fun Y => PDG Y t0 g0) (ht0 : BlkAll X scope fun Y => PDTs Y f0 tt0)
    (he : BlkAll X scope fun Y => PDE Y elt te) (hv : ∀ v ∈ g0.slots, v ∈ own.map (·.2) := by decide) (hc : X.calm = true := by rfl) (hs : ∀ x, foldedSetIterable i0 X.env x = pure x := by intro _; rfl) (hg1 : Gl X "sorted" := by rfl)
    (ha : starEach [.SetComp elt [⟨t0, i0, f0, 0⟩] scope pos] X.env = (false, eval (.SetComp elt [⟨t0, i0, f0, 0⟩] scope pos) X.env) :: starEach [] X.env := by rfl) (hpl : (backTo pos2 (starEach [] X.env)).any (·.1) = false := by rfl) :
    PDE X (.Call (.Name "sorted" p) [.SetComp elt [⟨t0, i0, f0, 0⟩] scope pos] [] pos2) (dSortSet w0 g0 tt0 (dElS te) (own.map (·.2))) :=
  pd_sortcomp hr hm1 turn_s1 hN hi0 ok hg0 ht0 (fun s H C cl fp A => pdb_set (he s H C cl fp) (by have := hr.un; show X.A.units + 65 < cLine; omega)) hv (fun _ h => nomatch h) rfl hc hs hg1 ha hpl
theorem pd_sortset2 {k : Nat} (hr : Room k X.A) (hm1 : X.mg "sorted" = none) (hN : X.N.Nodup) (hi0 : PDI X t0 i0 w0) (ok : BlkOk X.N X.env.scope scope own) (hg0 : BlkAll X scope fun Y => PDG Y t0 g0) (ht0 : BlkAll X scope fun Y => PDTs Y f0 tt0)
    (hi1 : BlkAll X scope fun Y => PDI Y t1 i1 w1) (hg1 : BlkAll X scope fun Y => PDG Y t1 g1) (ht1 : BlkAll X scope fun Y => PDTs Y f1 tt1)
    (he : BlkAll X scope fun Y => PDE Y elt te) (hv : ∀ v ∈ g0.slots, v ∈ own.map (·.2) := by decide) (hv1 : ∀ v ∈ g1.slots, v ∈ vs1 := by decide) (sub : ∀ v ∈ vs1, v ∈ own.map (·.2) := by decide) (hc : X.calm = true := by rfl) (hs : ∀ x, foldedSetIterable i0 X.env x = pure x := by intro _; rfl) (hs1 : ∀ e x, foldedSetIterable i1 e x = pure x := by intro _ _; rfl) (hgl : Gl X "sorted" := by rfl)
    (ha : starEach [.SetComp elt [⟨t0, i0, f0, 0⟩, ⟨t1, i1, f1, 0⟩] scope pos] X.env = (false, eval (.SetComp elt [⟨t0, i0, f0, 0⟩, ⟨t1, i1, f1, 0⟩] scope pos) X.env) :: starEach [] X.env := by rfl) (hpl : (backTo pos2 (starEach [] X.env)).any (·.1) = false := by rfl) :
    PDE X (.Call (.Name "sorted" p) [.SetComp elt [⟨t0, i0, f0, 0⟩, ⟨t1, i1, f1, 0⟩] scope pos] [] pos2) (dSortSet w0 g0 tt0 (dIn w1 g1 tt1 (dElS te) vs1) (own.map (·.2))) :=
  pd_sortcomp hr hm1 turn_s20 hN hi0 ok hg0 ht0 (fun s H C cl fp A => pdb_in raS_mono turn_s2 (hi1 s H C cl fp) (hg1 s H C cl fp) (ht1 s H C cl fp) (pdb_set (he s H C cl fp) (by have := hr.un; show X.A.units + 65 < cLine; omega)) hv1 (fun _ h => nomatch h) hc rfl (hs1 _)) hv sub rfl hc hs hgl ha hpl
theorem pd_sortset3 {k : Nat} (hr : Room k X.A) (hm1 : X.mg "sorted" = none) (hN : X.N.Nodup) (hi0 : PDI X t0 i0 w0) (ok : BlkOk X.N X.env.scope scope own) (hg0 : BlkAll X scope fun Y => PDG Y t0 g0) (ht0 : BlkAll X scope fun Y => PDTs Y f0 tt0)
    (hi1 : BlkAll X scope fun Y => PDI Y t1 i1 w1) (hg1 : BlkAll X scope fun Y => PDG Y t1 g1) (ht1 : BlkAll X scope fun Y => PDTs Y f1 tt1)
    (hi2 : BlkAll X scope fun Y => PDI Y t2 i2 w2) (hg2 : BlkAll X scope fun Y => PDG Y t2 g2) (ht2 : BlkAll X scope fun Y => PDTs Y f2 tt2)
    (he : BlkAll X scope fun Y => PDE Y elt te) (hv : ∀ v ∈ g0.slots, v ∈ own.map (·.2) := by decide) (hv1 : ∀ v ∈ g1.slots, v ∈ vs1 := by decide) (hv2 : ∀ v ∈ g2.slots, v ∈ vs2 := by decide) (sub : ∀ v ∈ vs1, v ∈ own.map (·.2) := by decide) (sub2 : ∀ v ∈ vs2, v ∈ vs1 := by decide) (hc : X.calm = true := by rfl) (hs : ∀ x, foldedSetIterable i0 X.env x = pure x := by intro _; rfl) (hs1 : ∀ e x, foldedSetIterable i1 e x = pure x := by intro _ _; rfl) (hs2 : ∀ e x, foldedSetIterable i2 e x = pure x := by intro _ _; rfl) (hgl : Gl X "sorted" := by rfl)
    (ha : starEach [.SetComp elt [⟨t0, i0, f0, 0⟩, ⟨t1, i1, f1, 0⟩, ⟨t2, i2, f2, 0⟩] scope pos] X.env = (false, eval (.SetComp elt [⟨t0, i0, f0, 0⟩, ⟨t1, i1, f1, 0⟩, ⟨t2, i2, f2, 0⟩] scope pos) X.env) :: starEach [] X.env := by rfl) (hpl : (backTo pos2 (starEach [] X.env)).any (·.1) = false := by rfl) :
    PDE X (.Call (.Name "sorted" p) [.SetComp elt [⟨t0, i0, f0, 0⟩, ⟨t1, i1, f1, 0⟩, ⟨t2, i2, f2, 0⟩] scope pos] [] pos2) (dSortSet w0 g0 tt0 (dIn w1 g1 tt1 (dIn w2 g2 tt2 (dElS te) vs2) vs1) (own.map (·.2))) :=
  pd_sortcomp hr hm1 turn_s30 hN hi0 ok hg0 ht0 (fun s H C cl fp A => pdb_in raS_mono turn_s31 (hi1 s H C cl fp) (hg1 s H C cl fp) (ht1 s H C cl fp) (pdb_in raS_mono turn_s3 (hi2 s H C cl fp) (hg2 s H C cl fp) (ht2 s H C cl fp) (pdb_set (he s H C cl fp) (by have := hr.un; show X.A.units + 65 < cLine; omega)) hv2 (fun _ h => nomatch h) hc rfl (hs2 _)) hv1 sub2 hc rfl (hs1 _)) hv sub rfl hc hs hgl ha hpl
theorem pd_lcN2 (hN : X.N.Nodup) (hi0 : PDI X t0 i0 w0) (ok : BlkOk X.N X.env.scope scope own) (hg0 : BlkAll X scope fun Y => PDG Y t0 g0) (ht0 : BlkAll X scope fun Y => PDTs Y f0 tt0)
    (hi1 : BlkAll X scope fun Y => PDI Y t1 i1 w1) (hg1 : BlkAll X scope fun Y => PDG Y t1 g1) (ht1 : BlkAll X scope fun Y => PDTs Y f1 tt1)
    (he : BlkAll X scope fun Y => PDE Y elt te) (hv : ∀ v ∈ g0.slots, v ∈ own.map (·.2) := by decide) (hv1 : ∀ v ∈ g1.slots, v ∈ vs1 := by decide) (sub : ∀ v ∈ vs1, v ∈ own.map (·.2) := by decide) (hc : X.calm = true := by rfl) (hs : ∀ x, foldedSetIterable i0 X.env x = pure x := by intro _; rfl) (hs1 : ∀ e x, foldedSetIterable i1 e x = pure x := by intro _ _; rfl) :
    PDE X (.ListComp elt [⟨t0, i0, f0, 0⟩, ⟨t1, i1, f1, 0⟩] scope pos) (dLcN w0 g0 tt0 (dIn w1 g1 tt1 (dElL te) vs1) (own.map (·.2))) :=
  pd_lcN turn_l20 hN hi0 ok hg0 ht0 (fun s H C cl fp A => pdb_in raL_mono turn_l2 (hi1 s H C cl fp) (hg1 s H C cl fp) (ht1 s H C cl fp) (pdb_lst (he s H C cl fp)) hv1 (fun _ h => nomatch h) hc rfl (hs1 _)) hv sub rfl hc hs
end
end L3
set_option Elab.async false
set_option linter.all false
set_option maxRecDepth 100000
set_option maxHeartbeats 1000000
/-! L3: xs[::-1], < of data. -/
namespace L3
open PySem PySem.Spec PyProof.Rows L2
section
variable {P : Program} {w : World} {A : Around} {E : Value → Shared → Prop} {s : Shared}
theorem rev_adjust (n : Nat) : Builtin.Slice.sliceAdjust none none (-1) (n : Int) = ((n : Int) - 1, -1) := rfl
theorem rev_places (n : Nat) : Builtin.Slice.slicePlaces ((n : Int) - 1) (-1) (-1) = n := by
  unfold Builtin.Slice.slicePlaces
  rw [if_neg (by decide)]
  by_cases h : (n : Int) - 1 > -1
  · rw [if_pos h, show ((n : Int) - 1 - -1 - 1) / (- -1) = (n : Int) - 1 by rw [Int.neg_neg, Int.ediv_one]; omega]
    omega
  · rw [if_neg h]; omega
theorem rev_applied {sl : Addr} {vl vu vs : Value} {n : Nat} {Q : Int × Int × Nat → Shared → Prop} (hs : s.heap.IsSliceOf sl vl vu vs) (pl : IsPart vl none) (pu : IsPart vu none) (ps : IsPart vs (some (-1))) (h : Q ((n : Int) - 1, -1, n) s) :
    wpAny (model P w) A (Builtin.Slice.sliceApplied (.ref sl) (pure (n : Int))) Q E s := by
  obtain ⟨os, hos, _, hds⟩ := id hs
  unfold Builtin.Slice.sliceApplied Builtin.Slice.sliceFields
  refine wpAny_bind (wpAny_bind (wpAny_field hos hds (x := vl) rfl (wpAny_bind (wpAny_field hos hds (x := vu) rfl (wpAny_bind (wpAny_field hos hds (x := vs) rfl (wpAny_pure (wpAny_bind (HT.slicePart_ ps ?_)))))))))
  show wpAny _ _ (if ((-1 : Int) == 0) = true then _ else _) _ _ s
  rw [if_neg (by decide)]
  refine wpAny_bind (HT.slicePart_ pl (wpAny_bind (HT.slicePart_ pu (wpAny_bind (wpAny_pure ?_)))))
  show wpAny _ _ (match Builtin.Slice.sliceAdjust none none (-1) (n : Int) with | (lo, hi) => pure (lo, (-1 : Int), Builtin.Slice.slicePlaces lo hi (-1))) _ _ s
  rw [rev_adjust]
  show wpAny _ _ (pure ((n : Int) - 1, (-1 : Int), Builtin.Slice.slicePlaces ((n : Int) - 1) (-1) (-1))) _ _ s
  rw [rev_places]
  exact wpAny_pure h
theorem rev_pick (xs : Array Value) : ((List.range xs.size).filterMap fun (k : Nat) => xs[((xs.size : Int) - 1 + (k : Int) * (-1)).toNat]?) = xs.toList.reverse := by
  have e : ∀ k, k < xs.size → xs[((xs.size : Int) - 1 + (k : Int) * (-1)).toNat]? = xs.toList.reverse[k]? := fun k hk => by
    rw [List.getElem?_reverse (by simpa using hk), ← Array.getElem?_toList, Array.length_toList]
    congr 1
    omega
  have all : ∀ n, n ≤ xs.size → (List.range n).filterMap (fun (k : Nat) => xs[((xs.size : Int) - 1 + (k : Int) * (-1)).toNat]?) = xs.toList.reverse.take n := by
    intro n
    induction n with
    | zero => intro _; rfl
    | succ n ih =>
      intro hn
      rw [List.range_succ, List.filterMap_append, ih (by omega), List.take_add_one]
      have h1 : n < xs.toList.reverse.length := by simp; omega
      have e' := e n (by omega)
      rw [List.getElem?_eq_getElem h1] at e' ⊢
      rw [List.filterMap_cons_some (f := fun (k : Nat) => xs[((xs.size : Int) - 1 + (k : Int) * (-1)).toNat]?) e']; rfl
  have := all xs.size (Nat.le_refl _)
  rw [this, List.take_of_length_le (by simp)]
end
section
variable {P : Program} {w : World} {A : Around} {E : Value → Shared → Prop} {s : Shared}
theorem getItem_tup_rev {t sl : Addr} {items : Array Value} {vl vu vs : Value} {Q : Value → Shared → Prop} (ht : IsTup s.heap t items) (hs : s.heap.IsSliceOf sl vl vu vs) (pl : IsPart vl none) (pu : IsPart vu none) (ps : IsPart vs (some (-1)))
    (h : Q (.ref s.heap.objs.size) { s with heap := s.heap.push { cls := .type "tuple", data := .seq items.toList.reverse.toArray } }) (hsz : items.size ≤ sizeLine) : wpAny (model P w) A (getItem (.ref t) (.ref sl)) Q E s := by
  have fits : sizeOk (.seq items.toList.reverse.toArray) := by
    show items.toList.reverse.toArray.size ≤ sizeLine
    simpa using hsz
  have ty : s.TypeIs (.ref sl) "slice" := by obtain ⟨os, h1, h2, _⟩ := id hs; exact ⟨os, h1, h2⟩
  unfold getItem
  try with_reducible refine wpAny_holding ?_
  first | refine wpAny_bind (wpAny_pure ?_) | skip
  refine wpAny_bind (wpAny_sequenceKey ht.typeIs (by decide) (wpAny_bind (wpAny_callSpecial?_slot (name := Str.ofString "__getitem__") ht.typeIs PyProof.Rows.slot_tuple_getitem (wpAny_call_entry PyProof.Rows.slot_tuple_getitem ht.typeIs PyProof.Rows.entry_tuple_getitem ?_ (PyProof.Rows.args_tuple_getitem _ _)))))
  refine wpAny_bind (m := Builtin.Tuple.tupleItemsOf (.ref t)) (PyProof.Rows.tupleItemsOf_ ht (wpAny_bind (wpAny_typeOf ty ?_)))
  rw [if_pos (by decide)]
  refine wpAny_bind (rev_applied hs pl pu ps ?_)
  have no : ¬ ((((items.size : Int) - 1) == 0 && (-1 : Int) == 1 && items.size == items.size) = true) := by simp
  show wpAny _ _ (if (((items.size : Int) - 1) == 0 && (-1 : Int) == 1 && items.size == items.size) = true then _ else _) _ _ s
  rw [if_neg no, rev_pick]
  first
    | exact wpAny_bind (m := Builtin.Tuple.tupleExact _) (wpAny_newObj_type (wpAny_pure ⟨_, rfl, wpAny_pure h⟩) fits)
    | exact wpAny_bind (m := Builtin.Tuple.tupleExact _) (wpAny_newObj_type (wpAny_bind (wpAny_pure (wpAny_pure ⟨_, rfl, wpAny_pure h⟩))) fits)
    | exact wpAny_bind (wpAny_bind (m := Builtin.Tuple.tupleExact _) (wpAny_newObj_type (wpAny_pure (wpAny_pure ⟨_, rfl, wpAny_pure h⟩)) fits))
    | exact wpAny_bind (wpAny_bind (m := Builtin.Tuple.tupleExact _) (wpAny_newObj_type (wpAny_pure ⟨_, rfl, wpAny_pure h⟩) fits))
end
section
variable {X : Cx} {e : Expr} {te : DE}
def tRevU (K : PySem.W.Frag) (te : TE) : TE := fun σ H Q => te σ H fun x H1 => ∃ a xs, x = .ref a ∧ SqT K H1 a xs ∧ ∀ p, H1 p = none → Q (.ref p) (upd H1 p (.tup xs.reverse))
theorem pe_revU {te : TE} {k : Nat} {p1 p2 p3 pos : Pos} (he : PE X e te) : PE X (.Subscript e (.Slice none none (some (.UnaryOp .USub (.Constant (.int 1) k p1) p2)) p3) pos) (tRevU X.K te) := by
  refine ⟨fun pins s σ H Q I h => Subscript_ (thn (he.run pins s σ H _ I h) fun v s1 ⟨x, H1, I1, r1, a, xs, ex, hx, q⟩ => ?_)⟩
  subst ex
  cases r1
  have step : PO X (some (.UnaryOp .USub (.Constant (.int 1) k p1) p2)) (tPart (tUn (rU fun i => .int (-i)) (tC (.int 1)))) := po_some (pe_un un_neg pe_int)
  refine wpAny_Slice (thn (po_none.run pins s1 σ H1 (fun o H2 => o = none ∧ H2 = H1) I1 ⟨rfl, rfl⟩) fun vl s2 ⟨l, H2, I2, pl, el, e2⟩ => ?_)
  subst el e2
  refine thn (po_none.run pins s2 σ H2 (fun o H3 => o = none ∧ H3 = H2) I2 ⟨rfl, rfl⟩) fun vu s3 ⟨u, H3, I3, pu, eu, e3⟩ => ?_
  subst eu e3
  refine thn (step.run pins s3 σ H3 (fun o H4 => o = some (-1) ∧ H4 = H3) I3 ⟨1, rfl, -1, rfl, rfl, rfl⟩) fun vs s4 ⟨o, H4, I4, ps, eo, e4⟩ => ?_
  subst eo e4
  have I5 : Inv X pins σ H4 { s4 with heap := s4.heap.push { cls := .type "slice", data := .fields #[vl, vu, vs] } } := I4.kept (t' := s4.toks) fun b ob q => Heap.get?_push_of_some _ q
  obtain ⟨its, r, ht, hz⟩ := I5.tuple hx
  have hlen := r.length
  refine tail_any (ops := [.ref a, .ref s4.heap.objs.size]) (s := { s4 with heap := s4.heap.push { cls := .type "slice", data := .fields #[vl, vu, vs] } }) ht.typeIs (PyProof.Rows.slot_tuple_getitem.lookup) ?_ (by with_unfolding_all rfl)
  refine getItem_tup_rev ht (Heap.IsSliceOf.new _ vl vu vs) pl pu ps ⟨.ref _, _, I5.laid (t' := s4.toks) (o := .tup xs.reverse) (fun b ob q => Heap.get?_push_of_some _ q) (Nat.le_refl _) ?_, rfl, q _ (I5.hok.fresh (Nat.le_refl _))⟩ (by rw [List.size_toArray]; omega)
  exact ⟨by rw [List.length_reverse]; exact hz, _, r.reverse, IsTup.new _ _⟩
/-- xs[::-1] of a tuple -/
def dRevU (te : DE) : DE := fun env M Q => te env M fun d M1 => match d with
  | .tup ds => Q (.tup ds.reverse) M1
  | _ => False
theorem pd_revU {k : Nat} {p1 p2 p3 pos : Pos} (he : PDE X e te) : PDE X (.Subscript e (.Slice none none (some (.UnaryOp .USub (.Constant (.int 1) k p1) p2)) p3) pos) (dRevU te) := pe_imp (pe_revU he) fun σ H Q ⟨R, F, env, M, Qd, a, e, h, k⟩ => ⟨R, F, env, M, _, a, e, h, fun F1 H1 M1 d v s1 a1 r1 q1 => by
  cases d with
  | tup ds =>
    obtain ⟨P, xs, rfl, hq, rx⟩ := r1
    exact ⟨P, xs, rfl, Same.seqT a1.fz hq, fun p hp => tup_new a1 rx.reverse (k.mono s1) q1 hp⟩
  | _ => exact q1.elim⟩
/-- xs[::-1] of a list: a new frozen one -/
def dRevL (te : DE) : DE := fun env M Q => te env M fun d M1 => match resD M1 d with
  | .lst ds => Q (.lst ds.reverse) M1
  | _ => False
theorem pd_revL {k : Nat} {p1 p2 p3 pos : Pos} (he : PDE X e te) : PDE X (.Subscript e (.Slice none none (some (.UnaryOp .USub (.Constant (.int 1) k p1) p2)) p3) pos) (dRevL te) := pe_imp (pe_revL he) fun σ H Q ⟨R, F, env, M, Qd, a, e, h, k⟩ => ⟨R, F, env, M, _, a, e, h, fun F1 H1 M1 d v s1 a1 r1 q1 => by
  split at q1
  · rename_i ds hd
    obtain ⟨P, xs, rfl, hq, rx⟩ := (seq_at a1 r1).1 hd
    exact ⟨P, xs, rfl, SqL.of hq, fun p hp => lst_new a1 rx.reverse (k.mono s1) q1 hp⟩
  · exact q1.elim⟩
/-! ### < of data -/
def rLtTV (K : PySem.W.Frag) : R2 := fun x y H Q => ∃ d e : PyData, Dp K H x d ∧ Dp K H y e ∧ PySem.W.alike d e = true ∧ d ≠ .none ∧ min d.depth e.depth ≤ 60 ∧ Q (.bl (PySem.W.dataLt d e)) H
theorem op_ltTV (hu : X.A.units + 65 < cLine) : OpR X (compareOp .Lt) (rLtTV X.K) := by
  intro pins s σ H x y v u Q I rx ry ⟨d, e, h1, h2, h3, h4, h5, q⟩
  obtain ⟨as, r1⟩ := Dp.reads I d x v h1 rx
  obtain ⟨bs, r2⟩ := Dp.reads I e y u h2 ry
  exact PySem.W.lt_data r1 r2 h3 h4 (by omega) ⟨.bl (PySem.W.dataLt d e), H, I, rfl, q⟩
/-- d < e, alike -/
def rLtD : R2D := fun d e M Q => (D.le 50 d = true ∧ D.le 50 e = true ∧ PySem.W.alike d.py e.py = true ∧ d.py ≠ .none) ∧ Q (.bl (PySem.W.dataLt d.py e.py)) M
theorem opd_ltD {k : Nat} (hr : Room k X.A) : OpD X (compareOp .Lt) rLtD := ⟨_, op_ltTV (by have := hr.un; omega), fun R F M H d e x y Qd Q a r1 r2 ⟨⟨l1, l2, h3, h4⟩, q⟩ kd => by
  have h5 := py_depth l1
  exact ⟨d.py, e.py, dp_mono a.fz (py_dp r1 l1).1, dp_mono a.fz (py_dp r2 l2).1, h3, h4, by omega, kd F H M (.bl _) _ (Same.refl _) a rfl q⟩⟩
end
end L3
set_option Elab.async false
set_option linter.all false
set_option maxRecDepth 100000
set_option maxHeartbeats 1000000
/-! L3: str, int, f-texts, split. -/
namespace L3
open PySem PySem.Spec PyProof.Rows L2
theorem sok_of {s : String} (h : (Str.ofString s).length ≤ sizeLine) : SOk (Str.ofString s) := by
  refine ⟨h, fun c hc => ?_⟩
  rw [PySem.Str.ofString_eq_toList] at hc
  obtain ⟨x, _, rfl⟩ := List.mem_map.mp (show c ∈ s.toList.map Char.toNat by simpa using hc)
  have := x.valid
  show x.val.toNat < 0x110000
  rcases this with h | ⟨_, h⟩
  · have : x.val.toNat < 0xD800 := h
    omega
  · exact h
theorem sok_int {i : Int} (h : i.natAbs.log2 < 1920) : SOk (Str.ofString (toString i)) := sok_of (PySem.int_text_fits h)
section
variable {X : Cx} {e : Expr} {te to : DE} {pos p apos : Pos}
/-- str(x) -/
def rStrD : R1D := fun d M Q => match d with
  | .int i => i.natAbs.log2 < 1920 ∧ Q (.str (Str.ofString (toString i))) M
  | .str x => Q (.str x) M
  | _ => False
theorem calld_str : CallD X (.type "str") rStrD := ⟨_, call_str_int.or SkE.call_str_str, fun R F M H d x Qd Q a r q kd => by
  cases d with
  | int i => cases (show x = V.int i from r); exact .inl ⟨i, rfl, q.1, kd F H M (.str _) _ (Same.refl _) a ⟨rfl, sok_int q.1⟩ q.2⟩
  | str y => obtain ⟨e, hy⟩ := r; subst e; exact .inr ⟨y, rfl, kd F H M (.str y) _ (Same.refl _) a ⟨rfl, hy⟩ q⟩
  | _ => exact q.elim⟩
/-- int(text) -/
def rIntD : R1D := fun d M Q => match d with
  | .str x => match PySem.intText? x with
    | some n => x.length ≤ 640 ∧ Q (.int n) M
    | none => False
  | _ => False
theorem calld_int : CallD X (.type "int") rIntD := ⟨_, call_int_str, fun R F M H d x Qd Q a r q kd => by
  cases d with
  | str y =>
    obtain ⟨e, hy⟩ := r
    subst e
    change (match PySem.intText? y with | some n => _ | none => False) at q
    split at q
    · rename_i n hn
      exact ⟨y, n, rfl, hn, q.1, kd F H M (.int n) _ (Same.refl _) a rfl q.2⟩
    · exact q.elim
  | _ => exact q.elim⟩
/-! ### f-texts -/
def dFmt (te : DE) : DE := fun env M Q => te env M fun d M1 => match d with
  | .str y => Q (.str y) M1
  | .int i => i.natAbs.log2 < 1920 ∧ Q (.str (Str.ofString (toString i))) M1
  | _ => False
theorem pd_fmt (he : PDE X e te) : PDE X (.FormattedValue e (-1) none pos) (dFmt te) := pe_imp (pe_fmt he) fun σ H Q ⟨R, F, env, M, Qd, a, e, h, k⟩ => ⟨R, F, env, M, _, a, e, h, fun F1 H1 M1 d v s1 a1 r1 q1 => by
  cases d with
  | str y => obtain ⟨ev, hy⟩ := r1; subst ev; exact .inl ⟨y, rfl, hy.1, k F1 H1 M1 (.str y) _ s1 a1 ⟨rfl, hy⟩ q1⟩
  | int i => cases (show v = V.int i from r1); exact .inr ⟨i, rfl, q1.1, k F1 H1 M1 (.str _) _ s1 a1 ⟨rfl, sok_int q1.1⟩ q1.2⟩
  | _ => exact q1.elim⟩
def dJs : List DE → Str → DEnv → Mp → (Str → Mp → Prop) → Prop
  | [], acc, _, M, Q => Q acc M
  | t :: ts, acc, env, M, Q => t env M fun d M1 => match d with
    | .str y => acc.length + y.length ≤ sizeLine ∧ dJs ts (acc ++ y) env M1 Q
    | _ => False
def dJoined (ts : List DE) : DE := fun env M Q => dJs ts Str.empty env M fun x M1 => Q (.str x) M1
theorem js_up {K : PySem.W.Frag} : ∀ (ts : List DE) {acc : Str} {σ : L2.St} {H : Hp} {R F : Hp} {env : DEnv} {M : Mp} {Qd : Str → Mp → Prop} {Q : Str → Hp → Prop}, SOk acc → At K R F M H → EnvR K F σ env → dJs ts acc env M Qd →
    (∀ F' H' M' x, Same F F' → At K R F' M' H' → SOk x → Qd x M' → Q x H') → tJs (ts.map (up K)) acc σ H Q
  | [], acc, _, H, R, F, env, M, _, _, ha, a, _, h, k => k F H M acc (Same.refl F) a ha h
  | t :: ts, acc, σ, H, R, F, env, M, Qd, Q, ha, a, e, h, k => ⟨R, F, env, M, _, a, e, h, fun F1 H1 M1 d v s1 a1 r1 q1 => by
    cases d with
    | str y =>
      obtain ⟨ev, hy⟩ := r1
      subst ev
      have hs := sok_append ha hy q1.1
      exact ⟨y, rfl, hs.1, js_up ts hs a1 (e.mono s1) q1.2 fun F2 H2 M2 x s2 a2 hx q2 => k F2 H2 M2 x (s1.trans s2) a2 hx q2⟩
    | _ => exact q1.elim⟩
theorem sok_empty : SOk Str.empty := ⟨Nat.zero_le _, fun c hc => by cases hc⟩
theorem pd_joined {v1 v2 : Expr} {rest : List Expr} {ts : List DE} (h : PJ X (v1 :: v2 :: rest) (ts.map (up X.K))) : PDE X (.JoinedStr (v1 :: v2 :: rest) pos) (dJoined ts) :=
  pe_imp (pe_joined h) fun σ H Q ⟨R, F, env, M, Qd, a, e, h, k⟩ => js_up ts sok_empty a e h fun F' H' M' x s a' hx q => k F' H' M' (.str x) _ s a' ⟨rfl, hx⟩ q
theorem pd_joined1 (he : PDE X e te) : PDE X (.JoinedStr [e] pos) te := pe_joined1 he
theorem pj_up {es : List Expr} {ts : List DE} (h : PDE X e te) (r : PJ X es (ts.map (up X.K))) : PJ X (e :: es) ((te :: ts).map (up X.K)) := .cons h r
theorem pj_up0 : PJ X [] (([] : List DE).map (up X.K)) := .nil
/-! ### split -/
def dSplit (to te : DE) : DE := fun env M Q => to env M fun o M1 => match o with
  | .str a => te env M1 fun d M2 => match d with
    | .str b => (b.length == 0) = false ∧ a.length + 2 ≤ sizeLine ∧ (∀ y ∈ Txt.split a b, SOk y) ∧ Q (.lst ((Txt.split a b).map D.str)) M2
    | _ => False
  | _ => False
theorem reps_strs {K : PySem.W.Frag} {F : Hp} : ∀ {ys : List Str}, (∀ y ∈ ys, SOk y) → Reps K F (ys.map D.str) (ys.map V.str)
  | [], _ => rfl
  | y :: ys, h => ⟨.str y, _, rfl, ⟨rfl, h y (List.mem_cons_self ..)⟩, reps_strs fun z hz => h z (List.mem_cons_of_mem _ hz)⟩
theorem pd_split {o : Expr} (ho : PDE X o to) (he : PDE X e te) (hs : starEach [e] X.env = [(false, eval e X.env)] := by rfl) (hbase : attributeBase o "split" X.env (eval o X.env) = eval o X.env := by rfl) (hline : (apos.endLine == pos.line) = true := by rfl) :
    PDE X (.Call (.Attribute o "split" apos) [e] [] pos) (dSplit to te) := by
  refine pe_imp (pe_split ho he hs hbase hline) fun σ H Q ⟨R, F, env, M, Qd, a, e, h, k⟩ => ⟨R, F, env, M, _, a, e, h, fun F1 H1 M1 d v s1 a1 r1 q1 => ?_⟩
  cases d with
  | str x =>
    obtain ⟨rfl, hx⟩ := r1
    refine ⟨⟨x, rfl⟩, R, F1, env, M1, _, a1, e.mono s1, q1, fun F2 H2 M2 d2 v2 s2 a2 r2 q2 => ?_⟩
    cases d2 with
    | str y =>
      obtain ⟨rfl, hy⟩ := r2
      exact ⟨x, y, rfl, rfl, q2.1, q2.2.1, fun p hp => lst_new a2 (reps_strs q2.2.2.1) (k.mono (s1.trans s2)) q2.2.2.2 hp⟩
    | _ => exact q2.elim
  | _ => exact q1.elim
/-! ### a, b, .. = a list -/
theorem tgs_serves {K : PySem.W.Frag} {R F : Hp} {M : Mp} {H : Hp} (a : At K R F M H) : ∀ (ts : List Tg) (σ : L2.St) (env : DEnv) (ds : List D) (vs : List V) (Qd : DEnv → Prop) (Q : L2.St → Hp → Prop), EnvR K F σ env → Reps K F ds vs → Tg.binds ts ds env Qd →
    (∀ σ' env', EnvR K F σ' env' → Qd env' → Q σ' H) → tgsOf K ts vs σ H Q
  | [], σ, env, ds, vs, Qd, Q, e, r, h, k => by
    cases ds with
    | nil => exact ⟨r, k σ env e h⟩
    | cons d ds => exact h.elim
  | t :: ts, σ, env, ds, vs, Qd, Q, e, r, h, k => by
    cases ds with
    | nil => exact h.elim
    | cons d ds =>
      obtain ⟨x, xr, rfl, r1, r2⟩ := r
      exact ⟨x, xr, rfl, tg_serves a t σ env d x _ _ e r1 h fun σ1 env1 e1 _ q1 => tgs_serves a ts σ1 env1 ds xr Qd Q e1 r2 q1 k⟩
def dAsgL (te : DE) (ts : List Tg) : DS := fun D env M => te env M fun d M1 => match resD M1 d with
  | .lst ds => Tg.binds ts ds env fun env1 => D.nx env1 M1
  | _ => False
theorem pds_asgL {es : List Expr} {k : Nat} {tpos : Pos} {ts : List Tg} (he : PDE X e te) (h : PDGs X es ts) (hc : X.calm = true := by rfl)
    (hn : (assignEach es X.env).length = ts.length := by rfl) (hst : (assignEach es X.env).findIdx? (·.1) = none := by rfl) (hs : swapsWithSole [.Tuple es k tpos] e pos.line X.env = pure false := by rfl) (hw : swappedStores [.Tuple es k tpos] e X.env = pure none := by rfl)
    (h1 : (assignEach [.Tuple es k tpos] X.env).map (·.2) = [assign (.Tuple es k tpos) X.env] := by rfl) : PDS X (.Assign [.Tuple es k tpos] e pos) (dAsgL te ts) := by
  exact ps_imp (ps_asg he (pg_lst hc h hn hst) hs hw h1) fun D σ H ⟨R, F, env, M, Dd, a, e, h, k⟩ => ⟨R, F, env, M, _, a, e, h, fun F1 H1 M1 d v s1 a1 r1 q1 => by
    split at q1
    · rename_i ds hd
      obtain ⟨P, xs, rfl, hq, rx⟩ := (seq_at a1 r1).1 hd
      have e1 := Tg.binds_len ts ds env _ q1
      have e2 := rx.length
      exact ⟨P, xs, rfl, SqL.of hq, by omega, tgs_serves a1 ts σ env ds xs _ _ (e.mono s1) rx q1 fun σ' env' e' q' => k.nx F1 H1 M1 env' σ' s1 a1 e' q'⟩
    · exact q1.elim⟩
end
end L3
set_option Elab.async false
set_option linter.all false
set_option maxRecDepth 100000
set_option maxHeartbeats 1000000
/-! L3: instances of the text's own classes: fields, methods, their making; tuples by a number; index, insert; constants that are tuples. -/
namespace L3
open PySem PySem.Spec PyProof.Rows L2
/-! ### fields by place -/
/-- the i-th set, or one more at the end -/
def putL {α : Type} : List α → Nat → α → List α
  | [], _, v => [v]
  | _ :: r, 0, v => v :: r
  | x :: r, i + 1, v => x :: putL r i v
theorem putL_len {α : Type} : ∀ {xs : List α} {i : Nat} {v : α}, (putL xs i v).length ≤ xs.length + 1 ∧ ((putL xs i v).length = xs.length ∨ xs.length ≤ i)
  | [], _, _ => ⟨Nat.le_refl _, .inr (Nat.zero_le _)⟩
  | _ :: r, 0, v => ⟨Nat.le_succ _, .inl rfl⟩
  | x :: r, i + 1, v => by
    obtain ⟨h1, h2⟩ := putL_len (xs := r) (i := i) (v := v)
    simp only [putL, List.length_cons]
    omega
theorem lookup_zipF : ∀ {fs : List Str} {xs : List V} {i : Nat} {f : Str}, fs.Nodup → fs[i]? = some f → (fs.zip xs).lookup f = xs[i]?
  | [], _, _, _, _, h => by simp at h
  | g :: fs, [], i, f, hn, h => by simp
  | g :: fs, x :: xs, 0, f, hn, h => by
    simp only [List.getElem?_cons_zero, Option.some.injEq] at h
    subst h
    simp
  | g :: fs, x :: xs, i + 1, f, hn, h => by
    simp only [List.getElem?_cons_succ] at h
    have hne : (f == g) = false := by
      rw [beq_eq_false_iff_ne]
      intro e
      subst e
      exact (List.nodup_cons.mp hn).1 (List.mem_of_getElem? h)
    simp only [List.zip_cons_cons, List.lookup_cons, hne, List.getElem?_cons_succ]
    exact lookup_zipF (List.nodup_cons.mp hn).2 h
theorem lookup_zipN : ∀ {fs : List Str} {xs : List V} {f : Str}, f ∉ fs → (fs.zip xs).lookup f = none
  | [], _, _, _ => by simp
  | g :: fs, [], f, h => by simp
  | g :: fs, x :: xs, f, h => by
    have hne : (f == g) = false := by
      rw [beq_eq_false_iff_ne]
      intro e
      subst e
      exact h List.mem_cons_self
    simp only [List.zip_cons_cons, List.lookup_cons, hne]
    exact lookup_zipN fun q => h (List.mem_cons_of_mem _ q)
theorem putF_zip : ∀ {fs : List Str} {xs : List V} {i : Nat} {f : Str} {y : V}, fs.Nodup → fs[i]? = some f → i ≤ xs.length → xs.length ≤ fs.length → putF f y (fs.zip xs) = fs.zip (putL xs i y)
  | [], _, _, _, _, _, h, _, _ => by simp at h
  | g :: fs, [], i, f, y, hn, h, hi, _ => by
    have e : i = 0 := by simpa using hi
    subst e
    simp only [List.getElem?_cons_zero, Option.some.injEq] at h
    subst h
    rw [List.zip_nil_right]
    show [(g, y)] = (g, y) :: fs.zip []
    rw [List.zip_nil_right]
  | g :: fs, x :: xs, 0, f, y, hn, h, hi, _ => by
    simp only [List.getElem?_cons_zero, Option.some.injEq] at h
    subst h
    show (if g = g then (g, y) :: fs.zip xs else _) = (g, y) :: fs.zip xs
    rw [if_pos rfl]
  | g :: fs, x :: xs, i + 1, f, y, hn, h, hi, hl => by
    simp only [List.getElem?_cons_succ] at h
    have hne : g ≠ f := by
      intro e
      subst e
      exact (List.nodup_cons.mp hn).1 (List.mem_of_getElem? h)
    show (if g = f then (g, y) :: fs.zip xs else (g, x) :: putF f y (fs.zip xs)) = (g, x) :: fs.zip (putL xs i y)
    rw [if_neg hne, putF_zip (List.nodup_cons.mp hn).2 h (by simpa using hi) (by simpa using hl)]
theorem Reps.putL {K : PySem.W.Frag} {F : Hp} : ∀ {ds : List D} {vs : List V} {d : D} {v : V} {i : Nat}, Rep K F d v → Reps K F ds vs → Reps K F (L3.putL ds i d) (L3.putL vs i v)
  | [], _, _, _, _, hd, h => by cases h; exact ⟨_, [], rfl, hd, rfl⟩
  | _ :: ds, _, _, _, 0, hd, ⟨x, r, e, h1, h2⟩ => by subst e; exact ⟨_, r, rfl, hd, h2⟩
  | _ :: ds, _, _, _, i + 1, hd, ⟨x, r, e, h1, h2⟩ => by subst e; exact ⟨x, _, rfl, h1, Reps.putL hd h2⟩
/-! ### instances -/
/-- an instance as it stands -/
def resI (M : Mp) (d : D) : Option (Cl × List D) := match d with
  | .obj c ds => some (c, ds)
  | .ref q => match M q with
    | some (.ins c ds) => some (c, ds)
    | _ => none
  | _ => none
theorem resI_at {K : PySem.W.Frag} {R F : Hp} {M : Mp} {H : Hp} {d : D} {v : V} {c : Cl} {ds : List D} (a : At K R F M H) (r : Rep K F d v) (h : resI M d = some (c, ds)) :
    ∃ p dx xs, v = .ref p ∧ H p = some (.ins (He.ga K c.nm) dx (c.fs.zip xs)) ∧ ds.length ≤ c.fs.length ∧ Reps K F ds xs := by
  unfold resI at h
  split at h
  · cases h
    obtain ⟨p, dx, xs, rfl, hq, l, rx⟩ := r
    exact ⟨p, dx, xs, rfl, a.fz _ _ hq, l, rx⟩
  · split at h
    · rename_i hm
      cases h
      obtain ⟨_, u, hu, dx, xs, rfl, l, rx⟩ := a.mu _ _ hm
      exact ⟨_, dx, xs, r, hu, l, rx⟩
    · cases h
  · cases h
/-- what the text must have of a class -/
structure ClsT (K : PySem.W.Frag) (c : Cl) : Prop where
  cl : Cls K (He.ga K c.nm)
  na : ∀ f ∈ c.fs, NoAttr K (He.ga K c.nm) f
  nd : c.fs.Nodup
  few : c.fs.length < 1000
section
variable {X : Cx} {a b o : Expr} {e : Expr} {es : List Expr} {te ta tb to : DE} {t : DA} {pos p apos tpos : Pos}
/-- o.f -/
def dFld (c : Cl) (i : Nat) (te : DE) : DE := fun env M Q => te env M fun d M1 => match resI M1 d with
  | some (c', ds) => c' = c ∧ (match ds[i]? with
    | some x => Q x M1
    | none => False)
  | none => False
theorem pd_fld {c : Cl} {i : Nat} {f : Str} (T : ClsT X.K c) (he : PDE X e te) (hf : c.fs[i]? = some f := by rfl) (hb : attributeBase e f X.env (eval e X.env) = eval e X.env := by rfl) : PDE X (.Attribute e f pos) (dFld c i te) :=
  pe_imp (pe_fld he hb) fun σ H Q ⟨R, F, env, M, Qd, a, e, h, k⟩ => ⟨R, F, env, M, _, a, e, h, fun F1 H1 M1 d v s1 a1 r1 q1 => by
    split at q1
    · rename_i c' ds hr
      obtain ⟨rfl, q1⟩ := q1
      split at q1
      · rename_i x hx
        obtain ⟨p, dx, xs, rfl, hh, l, rx⟩ := resI_at a1 r1 hr
        obtain ⟨w, hw, rw_⟩ := rx.get hx
        exact ⟨p, _, dx, _, w, rfl, hh, T.cl, T.na f (List.mem_of_getElem? hf), by rw [lookup_zipF T.nd hf]; exact hw, k F1 H1 M1 x w s1 a1 rw_ q1⟩
      · exact q1.elim
    · exact q1.elim⟩
/-- o.f = e -/
def mFld (M : Mp) (o : D) (c : Cl) (i : Nat) (v : D) (k : Mp → Prop) : Prop := match o with
  | .ref q => match M q with
    | some (.ins c' ds) => (c' = c ∧ i ≤ ds.length) ∧ k (mupd M q (.ins c (putL ds i v)))
    | _ => False
  | _ => False
def dSetFld (c : Cl) (i : Nat) (te to : DE) : DS := fun D env M => te env M fun v M1 => to env M1 fun o M2 => mFld M2 o c i v fun M3 => D.nx env M3
theorem pds_setFld {c : Cl} {i : Nat} {f : Str} {value : Expr} (T : ClsT X.K c) (he : PDE X value te) (ho : PDE X o to) (hf : c.fs[i]? = some f := by rfl) (hs : swapsWith value (some (.Attribute o f tpos)) pos.line X.env = pure false := by rfl) :
    PDS X (.Assign [.Attribute o f tpos] value pos) (dSetFld c i te to) :=
  ps_imp (ps_fld ho he hs) fun D σ H ⟨R, F, env, M, Dd, a, e, h, k⟩ => ⟨R, F, env, M, _, a, e, h, fun F1 H1 M1 d v s1 a1 r1 q1 => ⟨R, F1, env, M1, _, a1, e.mono s1, q1, fun F2 H2 M2 d2 v2 s2 a2 r2 q2 => by
    unfold mFld at q2
    split at q2
    · rename_i q
      cases (show v2 = V.ref q from r2)
      split at q2
      · rename_i c' ds hm
        obtain ⟨⟨rfl, hi⟩, q2⟩ := q2
        obtain ⟨_, u, hu, dx, xs, rfl, l, rx⟩ := a2.mu _ _ hm
        have hl := rx.length
        have hif : i < c'.fs.length := (List.getElem?_eq_some_iff.mp hf).1
        have ep := putF_zip (y := v) T.nd hf (xs := xs) (by omega) (by omega)
        refine ⟨q, _, dx, _, rfl, hu, T.cl, T.na f (List.mem_of_getElem? hf), ?_, ?_⟩
        · rw [List.length_zip]; have := T.few; omega
        · rw [ep]
          have hpl := putL_len (xs := ds) (i := i) (v := d)
          exact k.nx F2 _ _ env σ (s1.trans s2) (a2.wrote hm (o := .ins c' (putL ds i d)) ⟨dx, _, rfl, by omega, Reps.putL (r1.mono s2) rx⟩) ((e.mono s1).mono s2) q2
      · exact q2.elim
    · exact q2.elim⟩⟩
/-! ### methods -/
/-- a method as it stands behind the top -/
structure MethAt (K : PySem.W.Frag) (c : Cl) (m : Str) (qual : Str) (st : Stmt) : Prop where
  ex : ∃ f fd, FunD K m qual (defArgs st) (defBody st) (defScope st) [] [] f fd ∧ Meth K (He.ga K c.nm) m f
/-- .. and keeps a promise -/
structure MethOk (P : Program) (w : World) (K : PySem.W.Frag) (mg : Str → Option Value) (base : Heap) (k : Nat) (c : Cl) (m : Str) (n : Nat) (sp : SpD) : Prop where
  ex : ∃ f fd ps, FnOk P w K mg base CX0 k f fd ps (upSp K n sp) ∧ ps.length = n ∧ Meth K (He.ga K c.nm) m f ∧ Binds K fd ps []
theorem MethOk.mono {P : Program} {w : World} {K : PySem.W.Frag} {mg : Str → Option Value} {base : Heap} {j k : Nat} {c : Cl} {x : Str} {n : Nat} {sp : SpD} (d : MethOk P w K mg base j c x n sp) (h : j ≤ k) : MethOk P w K mg base k c x n sp := by
  obtain ⟨f, fd, ps, a, b⟩ := d.ex
  exact ⟨f, fd, ps, a.mono h, b⟩
abbrev methCx (P : Program) (w : World) (K : PySem.W.Frag) (mg : Str → Option Value) (base : Heap) (N : List Str) (q : Str) (st : Stmt) (f : Addr) (cdv : Value) (A : Around) (outer : List PySem.Env) (s : Shared) (H : Hp) (E : XK) : Cx :=
  (cxOf CX0 P w K mg base N q (defScope st) f cdv A outer s H E).nox
/-- a def of any qualified name, with its defaults -/
theorem def_fnQ {P : Program} {w : World} {K : PySem.W.Frag} {mg : Str → Option Value} {base : Heap} {k : Nat} {x qual : Str} {st : Stmt} {f : Addr} {fd : FuncData} {N ps : List Str} {dvs : List V} {kws : List (Str × V)} {sp : SpD} {t : DS} (F : FunD K x qual (defArgs st) (defBody st) (defScope st) dvs kws f fd) (S : FnScope N ps (defScope st))
    (hb : ∀ f cdv A outer s H E, Room k (A.deeper (envOfC qual (defScope st) s.heap.objs.size f cdv)) → PDSs (methCx P w K mg base N qual st f cdv A outer s H E) (defBody st) t)
    (hr : ∀ ds M Q E, ds.length = ps.length → sp ds M Q E → t { nx := fun _ M' => Q .non M', rt := Q } (startD N ds) M) : FnOk P w K mg base CX0 (k + 1) f fd ps (upSp K ps.length sp) := by
  refine F.ok S (fun vs H Q E ⟨R, F, M, ds, Qd, Ed, _, r, hl, _⟩ => by rw [← r.length, hl]) (fun cdv A outer s H vs Q E hroom h => ?_)
  obtain ⟨R, F', M, ds, Qd, Ed, a, r, hl, hsp, kd, kx⟩ := h
  refine ⟨_, (hb f cdv A outer s H E hroom).nox, R, F', startD N ds, M, { nx := fun _ M' => Qd .non M', rt := Qd }, a, start_env r, hr ds M Qd Ed hl hsp, ⟨fun F1 H1 M1 env1 σ1 s1 a1 e1 q => kd F1 H1 M1 .non .non s1 a1 rfl q, kd, fun _ _ _ _ _ _ _ _ q => q.elim, fun _ _ _ _ _ _ _ _ q => q.elim⟩⟩
theorem meth_ok {P : Program} {w : World} {K : PySem.W.Frag} {mg : Str → Option Value} {base : Heap} {k : Nat} {c : Cl} {m qual : Str} {st : Stmt} {N ps : List Str} {sp : SpD} {t : DS} (d : MethAt K c m qual st) (S : FnScope N ps (defScope st))
    (bind : ∀ (kV doc pm : Value) (an : Option Addr) (cdv ct : Value) (us : List Value), us.length = ps.length → bindArgs (PySem.W.fnOf m qual (defArgs st) (defBody st) (defScope st) .none kV doc pm an cdv ct) ⟨us, []⟩ = pure (ps.zip us))
    (hb : ∀ f cdv A outer s H E, Room k (A.deeper (envOfC qual (defScope st) s.heap.objs.size f cdv)) → PDSs (methCx P w K mg base N qual st f cdv A outer s H E) (defBody st) t)
    (hr : ∀ ds M Q E, ds.length = ps.length → sp ds M Q E → t { nx := fun _ M' => Q .non M', rt := Q } (startD N ds) M) : MethOk P w K mg base (k + 1) c m ps.length sp := by
  obtain ⟨f, fd, F, hm⟩ := d.ex
  exact ⟨f, fd, ps, def_fnQ F S hb hr, rfl, hm, F.bindsN bind⟩
/-- o.m(e, ..) -/
def dMeth (c : Cl) (sp : SpD) (to : DE) (t : DA) : DE := fun env M Q => to env M fun o M1 => (match resI M1 o with
  | some (c', _) => c' = c
  | none => False) ∧ t env M1 fun ds M2 => sp (o :: ds) M2 Q X0
theorem resI_is {M : Mp} {o : D} {c : Cl} (h : match resI M o with
  | some (c', _) => c' = c
  | none => False) : ∃ ds, resI M o = some (c, ds) := by
  split at h
  · rename_i c' ds hr
    subst h
    exact ⟨ds, hr⟩
  · exact h.elim
theorem pd_meth {k n : Nat} {c : Cl} {m : Str} {sp : SpD} (d : MethOk X.prog X.w X.K X.mg X.base k c m n sp) (T : ClsT X.K c) (hr : Room k X.A) (ho : PDE X o to) (ha : PDA X (e :: es) t) (hn : (e :: es).length + 1 = n := by rfl) (hm : m ∉ c.fs := by decide +kernel)
    (hst : starEach (e :: es) X.env = (false, eval e X.env) :: starEach es X.env := by rfl) (hpl : (backTo pos (starEach es X.env)).any (·.1) = false := by rfl) {pl : Sem Bool}
    (ht : eval (.Call (.Attribute o m apos) (e :: es) [] pos) X.env = (do
      let ov ← eval o X.env
      standAt apos.atName
      let (f, first) ← holding [ov] (getMethod ov m pl)
      callWith pos f first (backTo pos (starEach (e :: es) X.env)) (backToKw pos (keywordEach [] X.env))) := by rfl) :
    PDE X (.Call (.Attribute o m apos) (e :: es) [] pos) (dMeth c sp to t) := by
  obtain ⟨f, fd, ps, F, hl, hme, hb⟩ := d.ex
  refine pe_imp (pe_meth (pl := pl) ho T.cl hme F hr hb .nil pass0 ha hst hpl ht) fun σ H Q ⟨R, F, env, M, Qd, a, e, h, k⟩ => ⟨R, F, env, M, _, a, e, h, fun F1 H1 M1 d v s1 a1 r1 q1 => ?_⟩
  obtain ⟨ds, hres⟩ := resI_is q1.1
  obtain ⟨p, dx, xs, rfl, hh, l, rx⟩ := resI_at a1 r1 hres
  refine ⟨p, dx, _, rfl, hh, lookup_zipN hm, R, F1, env, M1, _, a1, e.mono s1, q1.2, fun F2 H2 M2 es vs s2 a2 r2 l2 q2 => ?_⟩
  show upSp X.K n sp (V.ref p :: (vs ++ [])) H2 Q E0
  rw [List.append_nil]
  exact ⟨R, F2, M2, d :: es, Qd, X0, a2, ⟨_, vs, rfl, r1.mono s2, r2⟩, by rw [List.length_cons, l2, ← hn], q2, k.mono (s1.trans s2), kx0⟩
theorem pd_meth0 {k : Nat} {c : Cl} {m : Str} {sp : SpD} (d : MethOk X.prog X.w X.K X.mg X.base k c m 1 sp) (T : ClsT X.K c) (hr : Room k X.A) (ho : PDE X o to) (hm : m ∉ c.fs := by decide +kernel) {pl : Sem Bool}
    (ht : eval (.Call (.Attribute o m apos) [] [] pos) X.env = (do
      let ov ← eval o X.env
      standAt apos.atName
      let (f, first) ← holding [ov] (getMethod ov m pl)
      callWith pos f first (backTo pos (starEach [] X.env)) (backToKw pos (keywordEach [] X.env))) := by rfl) :
    PDE X (.Call (.Attribute o m apos) [] [] pos) (dMeth c sp to dNil) := by
  obtain ⟨f, fd, ps, F, hl, hme, hb⟩ := d.ex
  refine pe_imp (pe_meth0 (pl := pl) ho T.cl hme F hr hb .nil pass0 ht) fun σ H Q ⟨R, F, env, M, Qd, a, e, h, k⟩ => ⟨R, F, env, M, _, a, e, h, fun F1 H1 M1 d v s1 a1 r1 q1 => ?_⟩
  obtain ⟨ds, hres⟩ := resI_is q1.1
  obtain ⟨p, dx, xs, rfl, hh, l, rx⟩ := resI_at a1 r1 hres
  refine ⟨p, dx, _, rfl, hh, lookup_zipN hm, ?_⟩
  exact ⟨R, F1, M1, [d], Qd, X0, a1, ⟨_, [], rfl, r1, rfl⟩, rfl, q1.2, k.mono s1, kx0⟩
/-! ### instances made -/
/-- the class c is made by an __init__ that keeps a promise; n values are written, dfl the defaults behind them -/
structure MkOk (P : Program) (w : World) (K : PySem.W.Frag) (mg : Str → Option Value) (base : Heap) (k : Nat) (c : Cl) (n : Nat) (dfl : List D) (sp : SpD) : Prop where
  ex : ∃ f fd ps ds dvs, FnOk P w K mg base CX0 k f fd ps (upSp K (n + 1 + dfl.length) sp) ∧ Mk K (He.ga K c.nm) f ∧ mg c.nm = some (.ref (He.ga K c.nm)) ∧ Binds K fd ps ds ∧ Vals dvs ds ∧ ∀ F, Reps K F dfl dvs
theorem MkOk.mono {P : Program} {w : World} {K : PySem.W.Frag} {mg : Str → Option Value} {base : Heap} {j k : Nat} {c : Cl} {n : Nat} {dfl : List D} {sp : SpD} (d : MkOk P w K mg base j c n dfl sp) (h : j ≤ k) : MkOk P w K mg base k c n dfl sp := by
  obtain ⟨f, fd, ps, ds, dvs, a, b⟩ := d.ex
  exact ⟨f, fd, ps, ds, dvs, a.mono h, b⟩
def dMake (c : Cl) (sp : SpD) (dfl : List D) (t : DA) : DE := fun env M Q => t env M fun ds M1 => ∀ p, M1 p = none → sp (.ref p :: (ds ++ dfl)) (mupd M1 p (.ins c [])) (fun v M2 => v = .non ∧ Q (.ref p) M2) X0
theorem make_up {K : PySem.W.Frag} {C : Addr} {c : Cl} {n : Nat} {dfl : List D} {dvs : List V} {sp : SpD} (hC : C = He.ga K c.nm) (hd : ∀ F, Reps K F dfl dvs) {R F : Hp} {M : Mp} {H : Hp} {ds : List D} {vs : List V} {Qd : DK} {Q : VK} (a : At K R F M H) (r : Reps K F ds vs) (l : ds.length = n)
    (h : ∀ p, M p = none → sp (.ref p :: (ds ++ dfl)) (mupd M p (.ins c [])) (fun v M2 => v = .non ∧ Qd (.ref p) M2) X0) (k : KD K R F Qd Q) (x dx : Addr) (hx : H x = none) (hdx : H dx = none) (hne : dx ≠ x) :
    upSp K (n + 1 + dfl.length) sp (.ref x :: (vs ++ dvs)) (upd (upd H dx (.own x)) x (.ins C dx [])) (fun v H2 => v = .non ∧ Q (.ref x) H2) E0 := by
  subst hC
  have a1 := a.skip hdx (.own x)
  have hx1 : upd H dx (.own x) x = none := by rw [upd_ne (Ne.symm hne)]; exact hx
  refine ⟨R, F, mupd M x (.ins c []), .ref x :: (ds ++ dfl), _, X0, a1.born hx1 (o := .ins c []) ⟨dx, [], by rw [List.zip_nil_right], Nat.zero_le _, rfl⟩, ⟨_, _, rfl, rfl, r.append (hd F)⟩, by simp; omega, h x (a.freeM hx), fun F' H' M' d v s' a' r' q => ?_, kx0⟩
  obtain ⟨rfl, q⟩ := q
  exact ⟨r', k F' H' M' (.ref x) _ s' a' rfl q⟩
theorem pd_make {k n : Nat} {c : Cl} {x : Str} {dfl : List D} {sp : SpD} (d : MkOk X.prog X.w X.K X.mg X.base k c n dfl sp) (hr : Room (k + 1) X.A) (ha : PDA X (e :: es) t) (hx : x = c.nm := by rfl) (hn : (e :: es).length = n := by rfl) (hg : Gl X x := by rfl)
    (hdb : (x == ("__debug__" : Str)) = false := by decide) (he : starEach (e :: es) X.env = (false, eval e X.env) :: starEach es X.env := by rfl) (hpl : (backTo pos (starEach es X.env)).any (·.1) = false := by rfl) :
    PDE X (.Call (.Name x p) (e :: es) [] pos) (dMake c sp dfl t) := by
  obtain ⟨f, fd, ps, ds, dvs, F, hmk, hm, hb, hv, hd⟩ := d.ex
  subst hx
  refine pe_imp (pe_make hmk F hr hg hm hb hv pass0 ha hdb he hpl) fun σ H Q ⟨R, F, env, M, Qd, a, e, h, k⟩ => ⟨R, F, env, M, _, a, e, h, fun F1 H1 M1 ds vs s1 a1 r1 l1 q1 x dx hx hdx hne => ?_⟩
  exact make_up rfl hd a1 r1 (by rw [l1, hn]) q1 (k.mono s1) x dx hx hdx hne
theorem pd_make0 {k : Nat} {c : Cl} {x : Str} {dfl : List D} {sp : SpD} (d : MkOk X.prog X.w X.K X.mg X.base k c 0 dfl sp) (hr : Room (k + 1) X.A) (hx : x = c.nm := by rfl) (hg : Gl X x := by rfl)
    (hdb : (x == ("__debug__" : Str)) = false := by decide) : PDE X (.Call (.Name x p) [] [] pos) (dMake c sp dfl dNil) := by
  obtain ⟨f, fd, ps, ds, dvs, F, hmk, hm, hb, hv, hd⟩ := d.ex
  subst hx
  refine pe_imp (pe_make0 hmk F hr hg hm hb hv pass0 hdb) fun σ H Q ⟨R, F, env, M, Qd, a, e, h, k⟩ x dx hx hdx hne => ?_
  exact make_up (ds := []) (vs := []) rfl hd a rfl rfl h k x dx hx hdx hne
end
end L3
set_option Elab.async false
set_option linter.all false
set_option maxRecDepth 100000
set_option maxHeartbeats 1000000
/-! L3: enumerate of a tuple. -/
namespace L3E
open PySem PySem.Spec PyProof.Rows L2
open PySem.Sem (wp)
open AutoSeq1 (wpAny_loadPart')
theorem meets_enumT_new (l : Addr) (items : Array Value) (n : Nat) (dct : Option Addr) (sl : Array (Option Value)) :
    Meets (Builtin.«enumerate.__new__» ⟨[.type "enumerate", .ref l], []⟩) (fun _ R s => s.heap.get? l = some { cls := .type "tuple", dict := dct, data := .seq items n, slots := sl } ∧
      R (.ok (.ret (.ref (s.heap.push { cls := .type "tuple_iterator", data := .fields #[.ref l, .int 0 0] }).objs.size)))
        { s with heap := (s.heap.push { cls := .type "tuple_iterator", data := .fields #[.ref l, .int 0 0] }).push { cls := .type "enumerate", data := .fields #[.none, .bool false, .ref s.heap.objs.size, rawInt 0, .none, .none] } }) :=
  .of_wp fun prog w A R s h => by
    obtain ⟨hp, g, d, tk, os⟩ := s; obtain ⟨hl, h⟩ := h
    have hsub := sub_enumerate
    have hL : Heap.IsTuple (Shared.heap ⟨hp, g, d, tk, os⟩) l items := ⟨_, hl, rfl, n, rfl⟩
    wp_walk using wpAny_loadPart' hl
    refine wpAny_stack_any fun st => wpAny_pure ?_
    split
    · rename_i c _ _ _ _ _
      cases (c == Value.type "enumerate")
      · wp_walk using wpAny_loadPart' hl, wpAny_pyIter_tuple hL
        exact ⟨_, rfl, h⟩
      · wp_walk using wpAny_loadPart' hl, wpAny_pyIter_tuple hL
        exact ⟨_, rfl, h⟩
    · wp_walk using wpAny_loadPart' hl, wpAny_pyIter_tuple hL
      exact ⟨_, rfl, h⟩
section
variable {prog : Program} {w : World} {A : Around} {E : Value → Shared → Prop} {s : Shared}
theorem enumT_next_item {e it l : Addr} {i : Nat} {items : Array Value} {x old : Value} {Q : Value → Shared → Prop}
    (he : IsEnum s.heap e it i old) (hit : s.heap.IsTupleIter it l i) (hl : s.heap.IsTuple l items) (hx : items[i]? = some x) (hne : e ≠ it)
    (hQ : ∀ h', IsEnumOut h' e it ((i : Int) + 1) x s.heap.objs.size → h'.IsTupleIter it l (i + 1) →
      h'.get? s.heap.objs.size = some { cls := .type "tuple", data := .seq #[.int i s.toks, x] } → h'.objs.size = s.heap.objs.size + 1 →
      (∀ b o, b ≠ e → b ≠ it → s.heap.get? b = some o → h'.get? b = some o) → Q (.ref s.heap.objs.size) { s with heap := h', toks := s.toks + 1 }) :
    wpAny (model prog w) A (Builtin.«enumerate.__next__» ⟨[.ref e], []⟩) (fun fin s' => ∃ v, fin = .done (.ret v) ∧ Q v s') E s := by
  obtain ⟨hp, g, d, tk, os⟩ := s
  show wpAny _ _ (field (.ref e) 2 >>= _) _ _ _
  refine wpAny_bind (wpAny_field he rfl (x := .ref it) rfl ?_)
  refine wpAny_bind (RZ.nextOf_tuple_item hit hl hx fun h₁ hit₁ hs₁ => ?_)
  replace hs₁ : Heap.SameBut it hp h₁ := hs₁
  have he₁ : IsEnum h₁ e it i old := (hs₁.2 e hne).trans he
  show wpAny _ _ (field (.ref e) 3 >>= _) _ _ ⟨h₁, g, d, tk, os⟩
  refine wpAny_bind (wpAny_field he₁ rfl (x := rawInt i) rfl ?_)
  show wpAny _ _ (field (.ref e) 4 >>= _) _ _ ⟨h₁, g, d, tk, os⟩
  refine wpAny_bind (wpAny_field he₁ rfl (x := .none) rfl ?_)
  show wpAny _ _ (mkInt i >>= _) _ _ ⟨h₁, g, d, tk, os⟩
  refine wpAny_bind (wpAny_mkInt ?_)
  show wpAny _ _ (setField (.ref e) 3 (rawInt ((i : Int) + 1)) >>= _) _ _ ⟨h₁, g, d, tk + 1, os⟩
  refine wpAny_bind (wpAny_setField_rec he₁ (by simp) fun h₂ he₂ hs₂ => ?_)
  replace hs₂ : Heap.SameBut e h₁ h₂ := hs₂
  replace he₂ : IsEnum h₂ e it ((i : Int) + 1) old := he₂
  show wpAny _ _ (setField (.ref e) 4 .none >>= _) _ _ ⟨h₂, g, d, tk + 1, os⟩
  refine wpAny_bind (wpAny_setField_rec he₂ (by simp) fun h₃ he₃ hs₃ => ?_)
  replace hs₃ : Heap.SameBut e h₂ h₃ := hs₃
  replace he₃ : IsEnum h₃ e it ((i : Int) + 1) old := he₃
  show wpAny _ _ (newTuple [.int i tk, x] >>= _) _ _ ⟨h₃, g, d, tk + 1, os⟩
  refine wpAny_bind (wpAny_newTuple ?_)
  have he₄ : IsEnum (h₃.push { cls := .type "tuple", data := .seq #[.int i tk, x] }) e it ((i : Int) + 1) old := Heap.get?_push_of_some _ he₃
  generalize hh₄ : h₃.push { cls := .type "tuple", data := .seq #[.int i tk, x] } = h₄ at he₄
  have hsz : h₃.objs.size = hp.objs.size := by rw [hs₃.1, hs₂.1, hs₁.1]
  have hel : e < hp.objs.size := Heap.lt_size he
  have ht₄ : h₄.get? hp.objs.size = some { cls := .type "tuple", data := .seq #[.int i tk, x] } := by rw [← hh₄, ← hsz]; exact Heap.get?_push_size _ rfl
  have hz₄ : h₄.objs.size = hp.objs.size + 1 := by rw [← hh₄, Heap.size_push, hsz]
  have hk₄ : ∀ b o, b ≠ e → b ≠ it → hp.get? b = some o → h₄.get? b = some o := fun b o hbe hbi hb => by
    rw [← hh₄]; exact Heap.get?_push_of_some _ (hs₃.extBut b o hbe (hs₂.extBut b o hbe (hs₁.extBut b o hbi hb)))
  have hit₄ : h₄.IsTupleIter it l (i + 1) := by
    rw [← hh₄]; obtain ⟨o, ho, r⟩ := (hit₁.extBut hs₂.extBut (Ne.symm hne)).extBut hs₃.extBut (Ne.symm hne); exact ⟨o, Heap.get?_push_of_some _ ho, r⟩
  show wpAny _ _ (Builtin.SmallTypes.ownedTupleIsFree (.ref e) >>= _) _ _ ⟨h₄, g, d, tk + 1, os⟩
  rw [hsz]
  clear hh₄ he₃ hs₃ he₂ hs₂ he₁ hs₁ hit₁ hsz h₃ h₂ h₁
  refine wpAny_bind ?_
  · unfold Builtin.SmallTypes.ownedTupleIsFree
    refine wpAny_bind (wpAny_field he₄ rfl (x := .none) rfl (wpAny_pure ?_))
    simp only [if_true]
    refine wpAny_bind (wpAny_rule ?_)
    refine wpAny_bind (wpAny_field he₄ rfl (x := old) rfl ?_)
    refine wpAny_bind (wpAny_setField_rec he₄ (by simp) fun h₅ he₅ hs₅ => ?_)
    replace hs₅ : Heap.SameBut e h₄ h₅ := hs₅
    replace he₅ : IsEnum h₅ e it ((i : Int) + 1) x := he₅
    show wpAny _ _ (Builtin.SmallTypes.ownedTupleHandOut (.ref e) (.ref hp.objs.size) >>= _) _ _ ⟨h₅, g, d, tk + 1, os⟩
    refine wpAny_bind ?_
    · unfold Builtin.SmallTypes.ownedTupleHandOut
      refine wpAny_bind (wpAny_setField_rec he₅ (by simp) fun h₆ he₆ hs₆ => ?_)
      replace hs₆ : Heap.SameBut e h₅ h₆ := hs₆
      replace he₆ : IsEnumOut h₆ e it ((i : Int) + 1) x hp.objs.size := he₆
      refine wpAny_setField_rec he₆ (by simp) fun h₇ he₇ hs₇ => ?_
      replace hs₇ : Heap.SameBut e h₆ h₇ := hs₇
      replace he₇ : IsEnumOut h₇ e it ((i : Int) + 1) x hp.objs.size := he₇
      refine wpAny_bind (wpAny_letGo (wpAny_pure ⟨_, rfl, hQ h₇ he₇ ?_ ?_ ?_ ?_⟩))
      · exact ((hit₄.extBut hs₅.extBut (Ne.symm hne)).extBut hs₆.extBut (Ne.symm hne)).extBut hs₇.extBut (Ne.symm hne)
      · exact hs₇.extBut _ _ (Nat.ne_of_gt hel) (hs₆.extBut _ _ (Nat.ne_of_gt hel) (hs₅.extBut _ _ (Nat.ne_of_gt hel) ht₄))
      · rw [hs₇.1, hs₆.1, hs₅.1, hz₄]
      · exact fun b o hbe hbi hb => hs₇.extBut b o hbe (hs₆.extBut b o hbe (hs₅.extBut b o hbe (hk₄ b o hbe hbi hb)))
theorem pyNext_enumT_item {e it l : Addr} {i : Nat} {items : Array Value} {x old : Value} {Q : Option Value → Shared → Prop}
    (he : IsEnum s.heap e it i old) (hit : s.heap.IsTupleIter it l i) (hl : s.heap.IsTuple l items) (hx : items[i]? = some x) (hne : e ≠ it)
    (hQ : ∀ h', IsEnumOut h' e it ((i : Int) + 1) x s.heap.objs.size → h'.IsTupleIter it l (i + 1) →
      h'.get? s.heap.objs.size = some { cls := .type "tuple", data := .seq #[.int i s.toks, x] } → h'.objs.size = s.heap.objs.size + 1 →
      (∀ b o, b ≠ e → b ≠ it → s.heap.get? b = some o → h'.get? b = some o) → Q (some (.ref s.heap.objs.size)) { s with heap := h', toks := s.toks + 1 }) :
    wpAny (model prog w) A (pyNext (.ref e)) Q E s := by
  have hT : s.TypeIs (.ref e) "enumerate" := ⟨_, he, rfl⟩
  unfold pyNext
  exact wpAny_bind (wpAny_attempt (wpAny_callSpecial?_slot (name := Str.ofString "__next__") hT F.slot_enumerate_next
    (wpAny_call_entry F.slot_enumerate_next hT F.entry_enumerate_next
      (enumT_next_item he hit hl hx hne fun h' a b c d k => wpAny_pure (hQ h' a b c d k)) (F.args_enumerate_next_1 _))))
theorem pyNext_enumT_end {e it l : Addr} {i : Nat} {items : Array Value} {old : Value} {Q : Option Value → Shared → Prop} (hh : A.handled = none)
    (he : IsEnum s.heap e it i old) (hit : s.heap.IsTupleIter it l i) (hl : s.heap.IsTuple l items) (hx : items[i]? = none)
    (hQ : ∀ h', Heap.ExtBut it s.heap h' → Q none { s with heap := h' }) : wpAny (model prog w) A (pyNext (.ref e)) Q E s := by
  have hT : s.TypeIs (.ref e) "enumerate" := ⟨_, he, rfl⟩
  unfold pyNext
  refine wpAny_bind (wpAny_attempt (wpAny_callSpecial?_slot (name := Str.ofString "__next__") hT F.slot_enumerate_next
    (wpAny_call_entry F.slot_enumerate_next hT F.entry_enumerate_next ?_ (F.args_enumerate_next_1 _))))
  show wpAny _ _ (field (.ref e) 2 >>= _) _ _ _
  refine wpAny_bind (wpAny_field he rfl (x := .ref it) rfl ?_)
  refine wpAny_bind (RZ.nextOf_tuple_end hh hit hl hx fun h' x he' hx' => ?_)
  obtain ⟨o, ho, hc⟩ := hx'
  refine wpAny_bind (wpAny_isInstance (T := "StopIteration") (b := true) ⟨o, ho, hc⟩ isSubtype_stop ?_)
  exact wpAny_pure (hQ _ he')
theorem call_enumT {l : Addr} {items : Array Value} {Q : Value → Shared → Prop} (hL : s.heap.IsTuple l items)
    (h : ∀ h', IsEnum h' (s.heap.objs.size + 1) s.heap.objs.size 0 .none → h'.IsTupleIter s.heap.objs.size l 0 → h'.objs.size = s.heap.objs.size + 2 →
      (∀ b o, s.heap.get? b = some o → h'.get? b = some o) → Q (.ref (s.heap.objs.size + 1)) { s with heap := h' }) :
    wpAny (model prog w) A (call (.type "enumerate") [.ref l]) Q E s := by
  obtain ⟨⟨c, dct, dt, sl⟩, hl, hc, n, hd⟩ := hL
  replace hc : c = .type "tuple" := hc
  replace hd : dt = .seq items n := hd
  subst hc hd
  refine callType_new F.called_enumerate (by decide) (F.typeCall_enumerate_1 _) (F.newCall_enumerate_1 _) (fun obj => F.args_object_init_2 obj _) F.entry_enumerate_new
    (meets_enumT_new l items n dct sl) ⟨hl, ?_⟩
  have hz : (s.heap.push { cls := .type "tuple_iterator", data := .fields #[.ref l, .int 0 0] }).objs.size = s.heap.objs.size + 1 := Heap.size_push ..
  show _ ∧ _
  rw [hz]
  have he : IsEnum ((s.heap.push { cls := .type "tuple_iterator", data := .fields #[.ref l, .int 0 0] }).push
      { cls := .type "enumerate", data := .fields #[.none, .bool false, .ref s.heap.objs.size, rawInt 0, .none, .none] }) (s.heap.objs.size + 1) s.heap.objs.size 0 .none := by
    have := Heap.get?_push_size (s.heap.push { cls := .type "tuple_iterator", data := .fields #[.ref l, .int 0 0] })
      (o := { cls := .type "enumerate", data := .fields #[.none, .bool false, .ref s.heap.objs.size, rawInt 0, .none, .none] }) rfl
    rw [hz] at this; exact this
  refine ⟨⟨_, he, rfl⟩, h _ he ⟨_, Heap.get?_push_of_some _ (Heap.get?_push_size _ rfl), rfl, rfl⟩ (by rw [Heap.size_push, hz]) fun b o x => Heap.get?_push_of_some _ (Heap.get?_push_of_some _ x)⟩
end
/-- the list at a as it stands at each turn, each item in a new pair -/
def IteT (K : PySem.W.Frag) (a : Addr) : It :=
  ⟨fun i H => ∃ (xs : List V) (x : V), SqT K H a xs ∧ xs[i]? = some x, fun i H v H' => ∃ T x, v = .ref T ∧ H T = none ∧ H' = upd H T (.tup [.int (i : Nat), x]) ∧ ∀ xs, SqT K H a xs → xs[i]? = some x, fun i H => ∃ xs : List V, SqT K H a xs ∧ xs.length ≤ i⟩
theorem turn_enumT {P : Program} {w : World} {K : PySem.W.Frag} {elts : List Expr} {kk : Nat} {tpos : Pos} (a e it : Addr) :
    Turn P w K (.Tuple elts kk tpos) (IteT K a) [e, it] e (fun i h => (∃ old, IsEnum h e it ((i : Nat) : Int) old) ∧ h.IsTupleIter it a i ∧ e ≠ it) where
  mem := by simp
  obj := fun i h st b hb => by
    obtain ⟨⟨old, he⟩, ⟨o, ho, hc, hd⟩, _⟩ := st
    have e' : b = e ∨ b = it := by simpa using hb
    rcases e' with z | z
    · rw [z]; exact ⟨_, he, fun v q => nomatch q⟩
    · rw [z]; exact ⟨o, ho, fun v q => by rw [hd] at q; cases q⟩
  keep := fun i h h' st k => let ⟨⟨old, he⟩, hi, hne⟩ := st; ⟨⟨old, k e (by simp) _ he⟩, hi.at fun o q => k it (by simp) o q, hne⟩
  item := by
    intro X hP hw hK hc i pins s σ H E I hf st hg
    subst hP hw hK
    obtain ⟨⟨old, he⟩, hit, hne⟩ := st
    obtain ⟨xs, x, hq, hx⟩ := hg
    obtain ⟨its, rv, p, hz⟩ := I.tuple hq
    obtain ⟨u, hu, ru⟩ := rv.get hx
    have hel : e < s.heap.objs.size := Heap.lt_size he
    have hil : it < s.heap.objs.size := by obtain ⟨_, q, _⟩ := hit; exact Heap.lt_size q
    refine pyNext_enumT_item he hit (show s.heap.IsTuple a its.toArray from p) (x := u) (by simpa using hu) hne fun h' ho hit' hT hsz hk => ?_
    refine ⟨_, rfl, wpAny_letOwnedTupleGo_enum (s := { s with heap := h', toks := s.toks + 1 }) ho fun h'' he' sb => ?_⟩
    have hT2 : h''.get? s.heap.objs.size = some { cls := .type "tuple", data := .seq #[.int i s.toks, u] } := (sb.2 _ (Nat.ne_of_gt hel)).trans hT
    have new : ObjOk X.prog X.w (upd H s.heap.objs.size (.tup [.int (i : Nat), x])) h'' s.heap.objs.size (.tup [.int (i : Nat), x]) :=
      ⟨by show 2 ≤ sizeLine; decide, [.int i s.toks, u], .cons ⟨_, rfl⟩ (.cons ru .nil), ⟨_, hT2, rfl, _, rfl⟩⟩
    have I1 : Inv X pins σ (upd H s.heap.objs.size (.tup [.int (i : Nat), x])) { s with heap := h'', toks := s.toks + 1 } :=
      I.turnedNew (ch := [e, it]) (fun b ob hb q => (sb.2 b (fun z => hb (by simp [z]))).trans (hk b ob (fun z => hb (by simp [z])) (fun z => hb (by simp [z])) q)) hf (Nat.le_refl _) new
    refine ⟨.ref s.heap.objs.size, _, I1, rfl, ⟨_, x, rfl, I.hok.fresh (Nat.le_refl _), rfl, fun ys hy => by rw [I.tuple_inj hy hq]; exact hx⟩, ⟨⟨u, ?_⟩, hit'.at fun o q => (sb.2 it (Ne.symm hne)).trans q, hne⟩, fun b hb => ?_⟩
    · have e1 : ((i + 1 : Nat) : Int) = (i : Int) + 1 := by omega
      rw [e1]; exact he'
    · have hb' : b < s.heap.objs.size := by
        have e' : b = e ∨ b = it := by simpa using hb
        rcases e' with z | z
        · rw [z]; exact hel
        · rw [z]; exact hil
      rw [upd_ne (Nat.ne_of_lt hb')]
      exact (hf b hb).1
  done := by
    intro X hP hw hK hc i pins s σ H E I hf st hg
    subst hP hw hK
    obtain ⟨⟨old, he⟩, hit, hne⟩ := st
    obtain ⟨xs, hq, hx⟩ := hg
    obtain ⟨its, rv, p, hz⟩ := I.tuple hq
    obtain ⟨f0, f1, f2, f3, f4, f5⟩ := hf it (by simp)
    have hl := rv.length
    exact pyNext_enumT_end (I.ok.hd hc) he hit (show s.heap.IsTuple a its.toArray from p) (by simp; omega) fun h' eb => ⟨rfl, I.turned (t' := s.toks) (fun b o hb q => eb b o hb q) f0 f1 f3 f4 f5⟩
  self := fun A i s Q E st h => let ⟨⟨_, he⟩, _⟩ := st; wpAny_pyIter_enum he h
def iEnumT (K : PySem.W.Frag) (ta : TA) : TI := fun σ H R => ta σ H fun vs H1 => ∃ a xs, vs = [.ref a] ∧ SqT K H1 a xs ∧ R (IteT K a) H1
theorem pi_enumT {X : Cx} {e : Expr} {ta : TA} {p pos tpos : Pos} {elts : List Expr} {kk : Nat} (hg : Gl X "enumerate") (hm : X.mg "enumerate" = none) (ha : PA X [e] ta) (hs : starEach [e] X.env = [(false, eval e X.env)] := by rfl) :
    PI X (.Tuple elts kk tpos) (.Call (.Name "enumerate" p) [e] [] pos) (iEnumT X.K ta) := by
  refine ⟨fun pins s σ H R I h => ?_⟩
  refine Call_ (ld_blt I hg hm boot_enumerate (PyProof.Rows.callWith_type1 (thn (ha.run pos pins s σ H _ I h) fun us s1 ⟨vs, H1, I1, r1, q1⟩ => ?_) hs rfl))
  obtain ⟨a, xs, ex, hq, q⟩ := q1
  subst ex
  cases r1 with
  | cons r rr =>
    cases rr
    cases r
    obtain ⟨its, rv, p', hz⟩ := I1.tuple hq
    refine call_enumT (show s1.heap.IsTuple a its.toArray from p') fun h' he hit hsz hk => wpAny_pyIter_enum he ?_
    have I2 : Inv X pins σ H1 { s1 with heap := h' } := I1.kept (t' := s1.toks) hk
    refine ⟨s1.heap.objs.size + 1, [s1.heap.objs.size + 1, s1.heap.objs.size], _, _, H1, rfl, I2, turn_enumT a (s1.heap.objs.size + 1) s1.heap.objs.size, ⟨⟨.none, he⟩, hit, Nat.succ_ne_self _⟩, fun b hb => ?_, q⟩
    have e' : b = s1.heap.objs.size + 1 ∨ b = s1.heap.objs.size := by simpa using hb
    have hle : s1.heap.objs.size ≤ b := by
      rcases e' with z | z
      · rw [z]; exact Nat.le_add_right _ _
      · rw [z]; exact Nat.le_refl _
    exact I1.fpOk hle (I1.hok.fresh hle)
/-- .. or of a list -/
def iEnumB (K : PySem.W.Frag) (ta : TA) : TI := fun σ H R => ta σ H fun vs H1 => ∃ a, vs = [.ref a] ∧ ((∃ xs, SqL K H1 a xs ∧ R (Ite K a) H1) ∨ ∃ xs, SqT K H1 a xs ∧ R (IteT K a) H1)
theorem pi_enumB {X : Cx} {e : Expr} {ta : TA} {p pos tpos : Pos} {elts : List Expr} {kk : Nat} (hg : Gl X "enumerate") (hm : X.mg "enumerate" = none) (ha : PA X [e] ta) (hs : starEach [e] X.env = [(false, eval e X.env)] := by rfl) :
    PI X (.Tuple elts kk tpos) (.Call (.Name "enumerate" p) [e] [] pos) (iEnumB X.K ta) := by
  refine ⟨fun pins s σ H R I h => ?_⟩
  refine Call_ (ld_blt I hg hm boot_enumerate (PyProof.Rows.callWith_type1 (thn (ha.run pos pins s σ H _ I h) fun us s1 ⟨vs, H1, I1, r1, q1⟩ => ?_) hs rfl))
  obtain ⟨a, ex, q⟩ := q1
  subst ex
  cases r1 with
  | cons r rr =>
    cases rr
    cases r
    rcases q with ⟨xs, hq, q⟩ | ⟨xs, hq, q⟩
    · obtain ⟨its, rv, p', hz⟩ := I1.list hq
      refine call_enumerate_list p'.isList fun h' he hit hsz hk => wpAny_pyIter_enum he ?_
      have I2 : Inv X pins σ H1 { s1 with heap := h' } := I1.kept (t' := s1.toks) hk
      refine ⟨s1.heap.objs.size + 1, [s1.heap.objs.size + 1, s1.heap.objs.size], _, _, H1, rfl, I2, turn_enum a (s1.heap.objs.size + 1) s1.heap.objs.size, ⟨⟨.none, he⟩, hit, Nat.succ_ne_self _⟩, fun b hb => ?_, q⟩
      have e' : b = s1.heap.objs.size + 1 ∨ b = s1.heap.objs.size := by simpa using hb
      have hle : s1.heap.objs.size ≤ b := by
        rcases e' with z | z
        · rw [z]; exact Nat.le_add_right _ _
        · rw [z]; exact Nat.le_refl _
      exact I1.fpOk hle (I1.hok.fresh hle)
    · obtain ⟨its, rv, p', hz⟩ := I1.tuple hq
      refine call_enumT (show s1.heap.IsTuple a its.toArray from p') fun h' he hit hsz hk => wpAny_pyIter_enum he ?_
      have I2 : Inv X pins σ H1 { s1 with heap := h' } := I1.kept (t' := s1.toks) hk
      refine ⟨s1.heap.objs.size + 1, [s1.heap.objs.size + 1, s1.heap.objs.size], _, _, H1, rfl, I2, turn_enumT a (s1.heap.objs.size + 1) s1.heap.objs.size, ⟨⟨.none, he⟩, hit, Nat.succ_ne_self _⟩, fun b hb => ?_, q⟩
      have e' : b = s1.heap.objs.size + 1 ∨ b = s1.heap.objs.size := by simpa using hb
      have hle : s1.heap.objs.size ≤ b := by
        rcases e' with z | z
        · rw [z]; exact Nat.le_add_right _ _
        · rw [z]; exact Nat.le_refl _
      exact I1.fpOk hle (I1.hok.fresh hle)
/-- a list or a tuple, walked -/
def iSeqB (K : PySem.W.Frag) (tl : TE) : TI := fun σ H R => tl σ H fun x H1 => ∃ a, x = .ref a ∧ (((∃ xs, SqL K H1 a xs) ∧ R (Itl K a) H1) ∨ ((∃ xs, SqT K H1 a xs) ∧ R (Itt K a) H1))
theorem pi_seqB {X : Cx} {tg l : Expr} {tl : TE} (hl : PE X l tl) : PI X tg l (iSeqB X.K tl) := by
  refine ⟨fun pins s σ H R I h => ?_⟩
  refine thn (hl.run pins s σ H _ I h) fun v s1 ⟨x, H1, I1, r1, q1⟩ => ?_
  obtain ⟨a, e, q⟩ := q1
  subst e
  cases r1
  rcases q with ⟨⟨xs, hq⟩, q⟩ | ⟨⟨xs, hq⟩, q⟩
  · obtain ⟨its, rv, p, hz⟩ := I1.list hq
    refine wpAny_pyIter_list p.isList ?_
    refine ⟨s1.heap.objs.size, [s1.heap.objs.size], _, _, H1, rfl, I1.kept (t' := s1.toks) fun b o e => Heap.get?_push_of_some _ e, turn_list a _, ⟨_, Heap.get?_push_size _ rfl, rfl, rfl⟩, fun b hb => ?_, q⟩
    have e : b = s1.heap.objs.size := by simpa using hb
    subst e
    exact I1.fpOk (Nat.le_refl _) (I1.hok.fresh (Nat.le_refl _))
  · obtain ⟨its, rv, p, hz⟩ := I1.tuple hq
    refine wpAny_pyIter_tuple (show s1.heap.IsTuple a its.toArray from p) ?_
    refine ⟨s1.heap.objs.size, [s1.heap.objs.size], _, _, H1, rfl, I1.kept (t' := s1.toks) fun b o e => Heap.get?_push_of_some _ e, turn_tuple a _, ⟨_, Heap.get?_push_size _ rfl, rfl, rfl⟩, fun b hb => ?_, q⟩
    have e : b = s1.heap.objs.size := by simpa using hb
    subst e
    exact I1.fpOk (Nat.le_refl _) (I1.hok.fresh (Nat.le_refl _))
end L3E
namespace L3
open PySem PySem.Spec PyProof.Rows L2
section
variable {X : Cx} {e : Expr} {t : DA} {pos p : Pos}
theorem pairs_len (xs : List D) : (xs.mapIdx fun i x => D.tup [.int (i : Nat), x]).length = xs.length := by simp
/-- what enumerate gives -/
def pairs (xs : List D) : List D := xs.mapIdx fun i x => .tup [.int (i : Nat), x]
theorem pairs_at {xs : List D} {i : Nat} {d : D} (h : (pairs xs)[i]? = some d) : ∃ x, xs[i]? = some x ∧ d = .tup [.int (i : Nat), x] := by
  unfold pairs at h
  rw [List.getElem?_mapIdx] at h
  cases hx : xs[i]? with
  | none => rw [hx] at h; cases h
  | some g => rw [hx] at h; cases h; exact ⟨g, rfl, rfl⟩
theorem gives_enumL {K : PySem.W.Frag} {F : Hp} {p : Addr} {ys : List V} {xs : List D} (hq : SqL K F p ys) (rx : Reps K F xs ys) (hz : ys.length ≤ sizeLine) : Gives K (Ite K p) F (pairs xs) := by
  refine ⟨by simp [pairs, rx.length, hz], fun R F' M H s a' => ⟨ys, a'.fz.seq (s.seq hq), by simp [pairs, rx.length]⟩, fun i d R F' M H s a' hi => ?_⟩
  obtain ⟨g, hx, rfl⟩ := pairs_at hi
  obtain ⟨y, hy, ry⟩ := rx.get hx
  refine ⟨⟨ys, y, a'.fz.seq (s.seq hq), hy⟩, fun v H' ⟨T, z, ev, hT, eH, hz⟩ => ?_⟩
  have := hz ys (a'.fz.seq (s.seq hq))
  rw [hy] at this; cases this
  subst ev eH
  exact new_pair a' hT rfl (ry.mono s)
theorem gives_enumT {K : PySem.W.Frag} {F : Hp} {p : Addr} {ys : List V} {xs : List D} (hq : SqT K F p ys) (rx : Reps K F xs ys) (hz : ys.length ≤ sizeLine) : Gives K (L3E.IteT K p) F (pairs xs) := by
  refine ⟨by simp [pairs, rx.length, hz], fun R F' M H s a' => ⟨ys, Same.seqT a'.fz (Same.seqT s hq), by simp [pairs, rx.length]⟩, fun i d R F' M H s a' hi => ?_⟩
  obtain ⟨g, hx, rfl⟩ := pairs_at hi
  obtain ⟨y, hy, ry⟩ := rx.get hx
  refine ⟨⟨ys, y, Same.seqT a'.fz (Same.seqT s hq), hy⟩, fun v H' ⟨T, z, ev, hT, eH, hz⟩ => ?_⟩
  have := hz ys (Same.seqT a'.fz (Same.seqT s hq))
  rw [hy] at this; cases this
  subst ev eH
  exact new_pair a' hT rfl (ry.mono s)
/-- enumerate of a list or a tuple -/
def seqOf : D → Option (List D)
  | .lst xs => some xs
  | .tup xs => some xs
  | _ => none
def iEnumA (t : DA) : DI := fun env M Q => t env M fun ds M1 => match ds with
  | [d] => match seqOf d with
    | some xs => Q (pairs xs) M1
    | none => False
  | _ => False
theorem pdi_enumA {elts : List Expr} {kk : Nat} {tpos : Pos} (hm : X.mg "enumerate" = none) (ha : PDA X [e] t) (hg : Gl X "enumerate" := by rfl) (hs : starEach [e] X.env = [(false, eval e X.env)] := by rfl) :
    PDI X (.Tuple elts kk tpos) (.Call (.Name "enumerate" p) [e] [] pos) (iEnumA t) := by
  refine pi_imp (L3E.pi_enumB hg hm (pa_held ha) hs) fun σ H Z ⟨R, F, env, M, Qd, a, e, h, k⟩ => ⟨R, F, env, M, _, a, e, h, fun F1 H1 M1 ds vs s1 a1 r1 l1 q1 pins s σ I => ?_⟩
  split at q1
  · rename_i d
    obtain ⟨x, r, rfl, rd, rfl⟩ := r1
    cases d with
    | lst xs =>
      obtain ⟨p, ys, rfl, hq', rx⟩ := rd
      have hq : SqL X.K F1 p ys := SqL.of hq'
      have hH := a1.fz.seq hq
      obtain ⟨its, rv, pl, hz⟩ := I.list hH
      exact ⟨p, rfl, .inl ⟨ys, hH, k F1 H1 M1 _ _ s1 a1 (gives_enumL hq rx hz) q1⟩⟩
    | tup xs =>
      obtain ⟨p, ys, rfl, hq, rx⟩ := rd
      have hH := Same.seqT a1.fz hq
      obtain ⟨its, rv, pl, hz⟩ := I.tuple hH
      exact ⟨p, rfl, .inr ⟨ys, hH, k F1 H1 M1 _ _ s1 a1 (gives_enumT hq rx hz) q1⟩⟩
    | _ => exact q1.elim
  · exact q1.elim
/-- a list or a tuple -/
def iSeq (te : DE) : DI := fun env M Q => te env M fun d M1 => match seqOf d with
  | some xs => Q xs M1
  | none => False
theorem pdi_seq {tg : Expr} {te : DE} (he : PDE X e te) : PDI X tg e (iSeq te) := by
  refine pi_imp (L3E.pi_seqB (pe_held he)) fun σ H Z ⟨R, F, env, M, Qd, a, e, h, k⟩ => ⟨R, F, env, M, _, a, e, h, fun F1 H1 M1 d v s1 a1 r1 q1 pins s σ I => ?_⟩
  cases d with
  | lst ds =>
    obtain ⟨p, xs, rfl, hq', rx⟩ := r1
    have hq : SqL X.K F1 p xs := SqL.of hq'
    have hH := a1.fz.seq hq
    obtain ⟨its, rv, pl, hz⟩ := I.list hH
    exact ⟨p, rfl, .inl ⟨⟨xs, hH⟩, k F1 H1 M1 ds _ s1 a1 (gives_list hq rx hz) q1⟩⟩
  | tup ds =>
    obtain ⟨p, xs, rfl, hq, rx⟩ := r1
    have hH := Same.seqT a1.fz hq
    obtain ⟨its, rv, pl, hz⟩ := I.tuple hH
    exact ⟨p, rfl, .inr ⟨⟨xs, hH⟩, k F1 H1 M1 ds _ s1 a1 (gives_tup hq rx hz) q1⟩⟩
  | _ => exact q1.elim
end
end L3
set_option Elab.async false
set_option linter.all false
set_option maxRecDepth 100000
set_option maxHeartbeats 4000000
/-! L3: tuple * int, int(bool), index, insert. -/
namespace L3
open PySem PySem.Spec PyProof.Rows L2
open PySem.Sem (wp)
open AutoSeq1 (wpAny_loadPart')
theorem tuple_mul1 (l : Addr) (items : Array Value) (n : Nat) (dd : Option Addr) (sl : Array (Option Value)) (u : Tok) :
    Meets (Builtin.«tuple.__mul__» ⟨[.ref l, .int 1 u], []⟩) (fun _ R s => s.heap.get? l = some { cls := .type "tuple", dict := dd, data := .seq items n, slots := sl } ∧ R (.ok (.ret (Value.ref l))) s) :=
  .of_wp fun prog w A R s h => by
    obtain ⟨hp, g, d, tk, os⟩ := s
    obtain ⟨hl, h⟩ := h
    have f1 := AutoSeq1.idx_int
    have c1 : (items.isEmpty || (1 : Int) == 1) = true := by simp
    wp_walk using wpAny_loadPart' hl
    repeat (first
      | (refine wpAny_ite_true (by rw [c1]; rfl) ?_; wp_walk using wpAny_loadPart' hl)
      | (refine wpAny_ite_false (decide_eq_false (by decide)) ?_; wp_walk using wpAny_loadPart' hl)
      | (refine wpAny_ite_true (decide_eq_true c1) ?_; wp_walk using wpAny_loadPart' hl))
    exact ⟨_, rfl, h⟩
theorem tuple_mul0 (l : Addr) (items : Array Value) (n : Nat) (dd : Option Addr) (sl : Array (Option Value)) (u : Tok) (he : items.isEmpty = false) :
    Meets (Builtin.«tuple.__mul__» ⟨[.ref l, .int 0 u], []⟩) (fun _ R s => s.heap.get? l = some { cls := .type "tuple", dict := dd, data := .seq items n, slots := sl } ∧
      R (.ok (.ret (Value.ref s.heap.objs.size))) { s with heap := s.heap.push { cls := Value.type "tuple", data := Data.seq #[] }, toks := s.toks }) :=
  .of_wp fun prog w A R s h => by
    obtain ⟨hp, g, d, tk, os⟩ := s
    obtain ⟨hl, h⟩ := h
    have f1 := AutoSeq1.idx_int
    have c1 : (items.isEmpty || (0 : Int) == 1) = false := by rw [he]; rfl
    have c2 : (decide ((0 : Int) ≤ 0) || items.isEmpty) = true := by simp
    wp_walk using wpAny_loadPart' hl
    repeat (first
      | (refine wpAny_ite_false (decide_eq_false (by rw [c1]; exact Bool.false_ne_true)) ?_; wp_walk using wpAny_loadPart' hl)
      | (refine wpAny_ite_false (decide_eq_false (by decide)) ?_; wp_walk using wpAny_loadPart' hl)
      | (refine wpAny_ite_true (decide_eq_true c2) ?_; wp_walk using wpAny_loadPart' hl))
    exact ⟨_, rfl, h⟩
/-- tuple * 0, tuple * 1 -/
def rRep0 (K : PySem.W.Frag) : R2 := fun x y H Q => ∃ l xs, x = .ref l ∧ y = .int 0 ∧ SqT K H l xs ∧ xs ≠ [] ∧ ∀ p, H p = none → Q (.ref p) (upd H p (.tup []))
def rRep1 (K : PySem.W.Frag) : R2 := fun x y H Q => ∃ l xs, x = .ref l ∧ y = .int 1 ∧ SqT K H l xs ∧ Q (.ref l) H
section
variable {X : Cx}
theorem op_rep1 : OpR X (binaryOp .Mult) (rRep1 X.K) := by
  intro pins s σ H x y v u Q I rx ry h
  obtain ⟨l, xs, rfl, rfl, hT, q⟩ := h
  cases rx
  obtain ⟨t, rfl⟩ := ry
  obtain ⟨its, r, ⟨⟨cls, dd, data, sl⟩, ho, hc, n, hd⟩, hs⟩ := I.tuple hT
  simp only at hc hd
  subst hc hd
  refine wpAny_binaryOp_repeat_ref (T := "tuple") (U := "int") (by decide) ⟨_, ho, rfl⟩ (fun s' => typeIs_int s' 1 t) noFill_tuple_mul F.fills_int_mul F.slot_int_rmul repeat_tuple F.slot_int_index.lookup
    (call_meets F.slot_int_rmul (typeIs_int s 1 t) F.entry_int_rmul (F.args_int_rmul_2 _ _) (int_rmul_tuple 1 t l its.toArray n dd sl)
      ⟨ho, rfl, ⟨_, ho, rfl⟩, call_meets F.slot_tuple_mul ⟨_, ho, rfl⟩ F.entry_tuple_mul (F.args_tuple_mul_2 _ _) (tuple_mul1 l its.toArray n dd sl t) ⟨ho, ?_⟩⟩)
  exact ⟨.ref l, H, I, rfl, q⟩
theorem op_rep0 : OpR X (binaryOp .Mult) (rRep0 X.K) := by
  intro pins s σ H x y v u Q I rx ry h
  obtain ⟨l, xs, rfl, rfl, hT, hne, q⟩ := h
  cases rx
  obtain ⟨t, rfl⟩ := ry
  obtain ⟨its, r, ⟨⟨cls, dd, data, sl⟩, ho, hc, n, hd⟩, hs⟩ := I.tuple hT
  simp only at hc hd
  subst hc hd
  have hle : its.length = xs.length := r.length.symm
  have hi : its.toArray.isEmpty = false := by
    cases its with
    | nil => exact absurd (List.eq_nil_of_length_eq_zero hle.symm) hne
    | cons a b => rfl
  refine wpAny_binaryOp_repeat_ref (T := "tuple") (U := "int") (by decide) ⟨_, ho, rfl⟩ (fun s' => typeIs_int s' 0 t) noFill_tuple_mul F.fills_int_mul F.slot_int_rmul repeat_tuple F.slot_int_index.lookup
    (call_meets F.slot_int_rmul (typeIs_int s 0 t) F.entry_int_rmul (F.args_int_rmul_2 _ _) (int_rmul_tuple 0 t l its.toArray n dd sl)
      ⟨ho, rfl, ⟨_, ho, rfl⟩, call_meets F.slot_tuple_mul ⟨_, ho, rfl⟩ F.entry_tuple_mul (F.args_tuple_mul_2 _ _) (tuple_mul0 l its.toArray n dd sl t hi) ⟨ho, ?_⟩⟩)
  refine ⟨.ref s.heap.objs.size, _, I.laid (t' := s.toks) (o := .tup []) (fun b ob q => Heap.get?_push_of_some _ q) (Nat.le_refl _) ?_, rfl, q _ (I.hok.fresh (Nat.le_refl _))⟩
  exact ⟨Nat.zero_le _, _, .nil, IsTup.new _ _⟩
theorem reps_rep {K : PySem.W.Frag} {F : Hp} {ds : List D} {vs : List V} (r : Reps K F ds vs) : ∀ n : Nat, Reps K F (List.replicate n ds).flatten (List.replicate n vs).flatten
  | 0 => rfl
  | n + 1 => by
    rw [List.replicate_succ, List.replicate_succ, List.flatten_cons, List.flatten_cons]
    exact r.append (reps_rep r n)
/-- * of ints; a tuple by a number -/
def rMulD : R2D := fun d e M Q => match d, e with
  | .int i, .int j => CMul i j ∧ Q (.int (i * j)) M
  | .tup xs, .int k => (xs ≠ [] ∧ 0 ≤ k ∧ k ≤ 1000 ∧ xs.length ≤ 1000) ∧ Q (.tup (List.replicate k.toNat xs).flatten) M
  | _, _ => False
theorem opd_mulD : OpD X (binaryOp .Mult) rMulD := ⟨_, op_mul.or (op_rep0.or (op_rep1.or op_repT)), fun R F M H d e x y Qd Q a r1 r2 q kd => by
  unfold rMulD at q
  split at q
  · rename_i i j
    exact .inl ⟨i, j, r1, r2, q.1, kd F H M (.int _) _ (Same.refl _) a rfl q.2⟩
  · rename_i xs k
    obtain ⟨⟨hne, k0, k1, hz⟩, q⟩ := q
    obtain ⟨p, vx, rfl, hx, rx⟩ := r1
    obtain rfl : y = V.int k := r2
    have lx := rx.length
    have hv : vx ≠ [] := fun e => hne (List.eq_nil_of_length_eq_zero (by rw [lx, e]; rfl))
    refine .inr ?_
    rcases (show k = 0 ∨ k = 1 ∨ 2 ≤ k by omega) with rfl | rfl | h2
    · exact .inl ⟨p, vx, rfl, rfl, Same.seqT a.fz hx, hv, fun P hP => tup_new (ds := []) (vs := []) a rfl kd q hP⟩
    · refine .inr (.inl ⟨p, vx, rfl, rfl, Same.seqT a.fz hx, kd F H M (.tup xs) _ (Same.refl _) a ⟨p, vx, rfl, hx, rx⟩ ?_⟩)
      have e : (List.replicate (1 : Int).toNat xs).flatten = xs := by show (List.replicate 1 xs).flatten = xs; simp
      rw [e] at q
      exact q
    · exact .inr (.inr ⟨p, k, vx, rfl, rfl, Same.seqT a.fz hx, hv, h2, k1, by omega, fun P hP => tup_new a (reps_rep rx _) kd q hP⟩)
  · exact q.elim⟩
/-- int(x) of an int, a truth value, a text -/
def rIntB : R1D := fun d M Q => match d with
  | .int i => Q (.int i) M
  | .bl b => Q (.int (if b then 1 else 0)) M
  | .str x => match PySem.intText? x with
    | some n => x.length ≤ 640 ∧ Q (.int n) M
    | none => False
  | _ => False
theorem calld_intB : CallD X (.type "int") rIntB := ⟨_, call_int1.or call_int_str, fun R F M H d x Qd Q a r q kd => by
  cases d with
  | int i => cases (show x = V.int i from r); exact .inl (.inl ⟨i, rfl, kd F H M (.int i) _ (Same.refl _) a rfl q⟩)
  | bl b => cases (show x = V.bl b from r); exact .inl (.inr ⟨b, rfl, kd F H M (.int _) _ (Same.refl _) a rfl q⟩)
  | str y =>
    obtain ⟨e, hy⟩ := r
    subst e
    change (match PySem.intText? y with | some n => _ | none => False) at q
    split at q
    · rename_i n hn
      exact .inr ⟨y, n, rfl, hn, q.1, kd F H M (.int n) _ (Same.refl _) a rfl q.2⟩
    · exact q.elim
  | _ => exact q.elim⟩
/-! ### list.index, list.insert -/
variable {a b o i : Expr} {e : Expr} {te ta to ti : DE} {pos p apos : Pos}
/-- xs.index(x): the first place of an equal one; xs a frozen list or an own one -/
def dIndex (to te : DE) : DE := fun env M Q => to env M fun o M1 => (match resD M1 o with
  | .lst _ => True
  | _ => False) ∧ te env M1 fun d M2 => match resD M2 o with
  | .lst ds => (D.les 58 ds = true ∧ D.le 60 d = true) ∧ (match ds.findIdx? fun z => eqD z d with
    | some j => Q (.int (j : Nat)) M2
    | none => False)
  | _ => False
theorem pys_get : ∀ {ds : List D} {j : Nat} {d : D}, ds[j]? = some d → (D.pys ds)[j]? = some d.py
  | [], _, _, h => by simp at h
  | d :: ds, 0, _, h => by simp only [List.getElem?_cons_zero, Option.some.injEq] at h; subst h; rfl
  | d :: ds, j + 1, _, h => by
    simp only [List.getElem?_cons_succ] at h
    show (D.pys ds)[j]? = _
    exact pys_get h
theorem pys_get' : ∀ {ds : List D} {j : Nat} {z : PyData}, (D.pys ds)[j]? = some z → ∃ d, ds[j]? = some d ∧ z = d.py
  | [], _, _, h => by simp [D.pys] at h
  | d :: ds, 0, _, h => by
    have h' : some d.py = some _ := h
    cases h'
    exact ⟨d, rfl, rfl⟩
  | d :: ds, j + 1, _, h => by
    have h' : (D.pys ds)[j]? = some _ := h
    obtain ⟨g, h1, h2⟩ := pys_get' h'
    exact ⟨g, by simpa using h1, h2⟩
theorem pd_index {k : Nat} (hr : Room k X.A) (ho : PDE X o to) (he : PDE X e te) (hbase : attributeBase o "index" X.env (eval o X.env) = eval o X.env := by rfl)
    (hfew : ((backTo pos (starEach [e] X.env)).all (fun x => !x.1) && (backToKw pos (keywordEach [] X.env)).all (fun x => x.1.isSome)
      && decide ([e].length + ([] : List Keyword).length + (if ([] : List Keyword).isEmpty then 0 else 1) < 30)) = true := by rfl)
    (hline : (apos.endLine == pos.line) = true := by rfl) (hs : starEach [e] X.env = (false, eval e X.env) :: starEach [] X.env := by rfl) (hplain : (backTo pos (starEach [] X.env)).any (·.1) = false := by rfl) :
    PDE X (.Call (.Attribute o "index" apos) [e] [] pos) (dIndex to te) :=
  pe_imp (pe_bm PySem.F.plainAttrs_list PySem.F.slot_list_index PySem.F.type_list_index (mt_indexD (by have := hr.un; omega)) ho (pa_cons he pa_nil hs) hbase hfew hline hs hplain) fun σ H Q ⟨R, F, env, M, Qd, a, e, h, k⟩ =>
    ⟨R, F, env, M, _, a, e, h, fun F1 H1 M1 d v s1 a1 r1 q1 => by
      obtain ⟨q0, q1⟩ := q1
      refine ⟨?_, R, F1, env, M1, _, a1, e.mono s1, q1, fun F2 H2 M2 d2 v2 s2 a2 r2 q2 => ?_⟩
      · split at q0
        · rename_i ds hd
          obtain ⟨P, xs, rfl, hq, rx⟩ := (seq_at a1 r1).1 hd
          exact .inl ⟨rfl, xs, SqL.of hq⟩
        · exact q0.elim
      · split at q2
        · rename_i ds hd
          obtain ⟨⟨l1, l2⟩, q2⟩ := q2
          have rr := res_rep a2 (r1.mono s2)
          rw [hd] at rr
          obtain ⟨P, xs, rfl, hq, rx⟩ := (seq_at a2 (r1.mono s2)).1 hd
          obtain ⟨d1, s3⟩ := lst_shaped rr l1
          obtain ⟨d3, s4⟩ := py_shaped (r2.mono a2.fz) l2
          split at q2
          · rename_i j hj
            obtain ⟨hlt, h1, h2⟩ := List.findIdx?_eq_some_iff_getElem.mp hj
            refine ⟨P, v2, _, _, j, ds[j].py, rfl, rfl, d1, d3, s3, s4, pys_get (List.getElem?_eq_getElem hlt), h1, fun m z hm hz => ?_, k F2 H2 M2 (.int _) _ (s1.trans s2) a2 rfl q2⟩
            obtain ⟨g, hg, rfl⟩ := pys_get' hz
            have hlm : m < ds.length := by omega
            rw [List.getElem?_eq_getElem hlm] at hg
            cases hg
            have := h2 m hm
            simpa [eqD] using this
          · exact q2.elim
        · exact q2.elim⟩
/-- xs.insert(i, x), an own list -/
def dInsert (to ti te : DE) : DE := fun env M Q => to env M fun o M1 => (mLst M1 o fun _ _ => True) ∧ ti env M1 fun i M2 => te env M2 fun d M3 => match i with
  | .int j => mLst M3 o fun q ds => (ds.length < sizeLine ∧ 0 ≤ j ∧ j < 2 ^ 63) ∧ Q .non (mupd M3 q (.lst (ds.take j.toNat ++ [d] ++ ds.drop j.toNat)))
  | _ => False
theorem pd_insert (ho : PDE X o to) (hi : PDE X i ti) (he : PDE X e te) (hbase : attributeBase o "insert" X.env (eval o X.env) = eval o X.env := by rfl)
    (hfew : ((backTo pos (starEach [i, e] X.env)).all (fun x => !x.1) && (backToKw pos (keywordEach [] X.env)).all (fun x => x.1.isSome)
      && decide ([i, e].length + ([] : List Keyword).length + (if ([] : List Keyword).isEmpty then 0 else 1) < 30)) = true := by rfl)
    (hline : (apos.endLine == pos.line) = true := by rfl) (hs : starEach [i, e] X.env = (false, eval i X.env) :: starEach [e] X.env := by rfl) (hs2 : starEach [e] X.env = (false, eval e X.env) :: starEach [] X.env := by rfl) (hplain : (backTo pos (starEach [e] X.env)).any (·.1) = false := by rfl) :
    PDE X (.Call (.Attribute o "insert" apos) [i, e] [] pos) (dInsert to ti te) :=
  pe_imp (pe_bm PySem.F.plainAttrs_list PySem.F.slot_list_insert PySem.F.type_list_insert mt_insert ho (pa_cons hi (pa_cons he pa_nil hs2) hs) hbase hfew hline hs hplain) fun σ H Q ⟨R, F, env, M, Qd, a, e, h, k⟩ =>
    ⟨R, F, env, M, _, a, e, h, fun F1 H1 M1 d v s1 a1 r1 q1 => ⟨mLst_ty a1 r1 q1.1, R, F1, env, M1, _, a1, e.mono s1, q1.2, fun F2 H2 M2 d2 v2 s2 a2 r2 q2 => ⟨R, F2, env, M2, _, a2, (e.mono s1).mono s2, q2, fun F3 H3 M3 d3 v3 s3 a3 r3 q3 => by
      split at q3
      · rename_i j
        obtain rfl : v2 = V.int j := r2
        obtain ⟨q, ds, xs, rfl, hm, hh, rx, hz, q3⟩ := mLst_at a3 ((r1.mono s2).mono s3) q3
        have hl := rx.length
        refine ⟨q, xs, j, v3, rfl, rfl, hh, by omega, hz.2.1, hz.2.2, k F3 _ _ .non .non ((s1.trans s2).trans s3) (a3.wrote hm (o := .lst (ds.take j.toNat ++ [d3] ++ ds.drop j.toNat)) ⟨_, rfl, ((rx.take _).append (Reps.one r3)).append (rx.drop _)⟩) rfl q3⟩
      · exact q3.elim⟩⟩⟩
/-- xs[i:j], the new list one that may change -/
def dSlM (te : DE) (tl th : DO) : DE := fun env M Q => te env M fun d M1 => tl env M1 fun lo M2 => th env M2 fun hi M3 => match resD M3 d with
  | .lst ds => ∀ p, M3 p = none → Q (.ref p) (mupd M3 p (.lst (cut ds lo hi)))
  | _ => False
theorem pd_sliceM {lo hi : Option Expr} {tl th : DO} {p2 : Pos} (he : PDE X e te) (hl : PDO X lo tl) (hu : PDO X hi th) : PDE X (.Subscript e (.Slice lo hi none p2) pos) (dSlM te tl th) := by
  refine pe_imp (pe_slice sl_list he hl hu) fun σ H Q ⟨R, F, env, M, Qd, a, e, h, k⟩ => ⟨R, F, env, M, _, a, e, h, fun F1 H1 M1 d v s1 a1 r1 q1 =>
    ⟨R, F1, env, M1, _, a1, e.mono s1, q1, fun F2 H2 M2 lo s2 a2 q2 => ⟨R, F2, env, M2, _, a2, (e.mono s1).mono s2, q2, fun F3 H3 M3 hi s3 a3 q3 => ?_⟩⟩⟩
  have r3 := r1.mono (s2.trans s3)
  have k3 := k.mono ((s1.trans s2).trans s3)
  split at q3
  · rename_i ds hd
    obtain ⟨P, xs, rfl, hq, rx⟩ := (seq_at a3 r3).1 hd
    exact ⟨P, xs, rfl, SqL.of hq, fun T hT => lst_born a3 (cut_reps rx lo hi) k3 q3 hT⟩
  · exact q3.elim
end
end L3
set_option Elab.async false
set_option linter.all false
set_option maxRecDepth 100000
set_option maxHeartbeats 1000000
/-! L3: a list by a number. -/
namespace L3
open PySem PySem.Spec PyProof.Rows L2
section
variable {X : Cx}
def rMulL : R2D := fun d e M Q => match d, e with
  | .lst xs, .int k => (0 ≤ k ∧ k ≤ 1000 ∧ xs.length ≤ 1000) ∧ Q (.lst (List.replicate k.toNat xs).flatten) M
  | _, _ => False
theorem opd_mulL : OpD X (binaryOp .Mult) rMulL := ⟨_, op_rep, fun R F M H d e x y Qd Q a r1 r2 q kd => by
  unfold rMulL at q
  split at q
  · rename_i xs k
    obtain ⟨⟨k0, k1, hz⟩, q⟩ := q
    obtain ⟨p, vx, rfl, hx, rx⟩ := r1
    obtain rfl : y = V.int k := r2
    refine ⟨p, k, vx, rfl, rfl, a.fz _ _ hx, by omega, by omega, ?_, fun P hP => lst_new a (reps_rep rx _) kd q hP⟩
    rw [← rx.length, sizeLine_eq]
    have : k.toNat ≤ 1000 := by omega
    have := Nat.mul_le_mul hz this
    omega
  · exact q.elim⟩
end
end L3
set_option Elab.async false
set_option linter.all false
set_option maxRecDepth 100000
set_option maxHeartbeats 1000000
/-! L3: __init__ with defaults; constants that are tuples; what a law's head tells of classes. -/
namespace L3
open PySem PySem.Spec PyProof.Rows L2
/-! ### __init__ -/
/-- an __init__ as it stands behind the top, dfl its defaults -/
structure InitAt (K : PySem.W.Frag) (mg : Str → Option Value) (c : Cl) (qual : Str) (st : Stmt) (dfl : List D) : Prop where
  ex : ∃ f fd dvs, FunD K "__init__" qual (defArgs st) (defBody st) (defScope st) dvs [] f fd ∧ Mk K (He.ga K c.nm) f ∧ mg c.nm = some (.ref (He.ga K c.nm)) ∧ ∀ F, Reps K F dfl dvs
structure InitOk (P : Program) (w : World) (K : PySem.W.Frag) (mg : Str → Option Value) (base : Heap) (k : Nat) (c : Cl) (qual : Str) (st : Stmt) (ps : List Str) (dfl : List D) (sp : SpD) : Prop where
  ex : ∃ f fd dvs, FnOk P w K mg base CX0 k f fd ps (upSp K ps.length sp) ∧ FunD K "__init__" qual (defArgs st) (defBody st) (defScope st) dvs [] f fd ∧ Mk K (He.ga K c.nm) f ∧ mg c.nm = some (.ref (He.ga K c.nm)) ∧ ∀ F, Reps K F dfl dvs
theorem init_ok {P : Program} {w : World} {K : PySem.W.Frag} {mg : Str → Option Value} {base : Heap} {k : Nat} {c : Cl} {qual : Str} {st : Stmt} {N ps : List Str} {dfl : List D} {sp : SpD} {t : DS} (d : InitAt K mg c qual st dfl) (S : FnScope N ps (defScope st))
    (hb : ∀ f cdv A outer s H E, Room k (A.deeper (envOfC qual (defScope st) s.heap.objs.size f cdv)) → PDSs (methCx P w K mg base N qual st f cdv A outer s H E) (defBody st) t)
    (hr : ∀ ds M Q E, ds.length = ps.length → sp ds M Q E → t { nx := fun _ M' => Q .non M', rt := Q } (startD N ds) M) : InitOk P w K mg base (k + 1) c qual st ps dfl sp := by
  obtain ⟨f, fd, dvs, F, hm, hg, hd⟩ := d.ex
  exact ⟨f, fd, dvs, def_fnQ F S hb hr, F, hm, hg, hd⟩
theorem nodflt {K : PySem.W.Frag} {dvs : List V} {ds : List D} {F : Hp} (r : Reps K F ds dvs) (h : ds ≠ []) : dvs ≠ [] := by
  intro e
  subst e
  exact h (List.eq_nil_of_length_eq_zero r.length)
/-- made with n values written, the defaults from the j-th on behind them -/
theorem InitOk.make {P : Program} {w : World} {K : PySem.W.Frag} {mg : Str → Option Value} {base : Heap} {k : Nat} {c : Cl} {qual : Str} {st : Stmt} {ps : List Str} {dfl : List D} {sp : SpD} (o : InitOk P w K mg base k c qual st ps dfl sp) (n j : Nat) (hne : dfl ≠ []) (hn : n + 1 + (dfl.length - j) = ps.length)
    (h : ∀ (T : Addr) (kV doc pm : Value) (an : Option Addr) (cdv ct : Value) (us its : List Value), us.length = n + 1 → its.length = dfl.length →
      ∃ k, bindArgs (PySem.W.fnOf "__init__" qual (defArgs st) (defBody st) (defScope st) (.ref T) kV doc pm an cdv ct) ⟨us, []⟩ = seqItems? (.ref T) >>= k ∧ k (some its.toArray) = pure (ps.zip (us ++ its.drop j))) : MkOk P w K mg base k c n (dfl.drop j) sp := by
  obtain ⟨f, fd, dvs, G, F, hm, hg, hd⟩ := o.ex
  have hl := (hd (fun _ => none)).length
  obtain ⟨ds, h1, h2⟩ := F.binds1 (ps := ps) (n + 1) j (nodflt (hd fun _ => none) hne) (by omega) fun T kV doc pm an cdv ct us its hu hi => h T kV doc pm an cdv ct us its hu (by omega)
  refine ⟨f, fd, ps, ds, dvs.drop j, ?_, hm, hg, h2, h1, fun F => (hd F).drop j⟩
  have e : n + 1 + (dfl.drop j).length = ps.length := by rw [List.length_drop]; omega
  rw [e]
  exact G
/-- no defaults -/
theorem InitOk.mkN {P : Program} {w : World} {K : PySem.W.Frag} {mg : Str → Option Value} {base : Heap} {k : Nat} {c : Cl} {qual : Str} {st : Stmt} {ps : List Str} {sp : SpD} (o : InitOk P w K mg base k c qual st ps [] sp) (n : Nat) (hn : n + 1 = ps.length)
    (h : ∀ (kV doc pm : Value) (an : Option Addr) (cdv ct : Value) (us : List Value), us.length = ps.length → bindArgs (PySem.W.fnOf "__init__" qual (defArgs st) (defBody st) (defScope st) .none kV doc pm an cdv ct) ⟨us, []⟩ = pure (ps.zip us)) : MkOk P w K mg base k c n [] sp := by
  obtain ⟨f, fd, dvs, G, F, hm, hg, hd⟩ := o.ex
  have hl := (hd (fun _ => none)).length
  have e : dvs = [] := List.eq_nil_of_length_eq_zero hl.symm
  subst e
  refine ⟨f, fd, ps, [], [], ?_, hm, hg, F.bindsN h, .nil, fun F => rfl⟩
  have e : n + 1 + ([] : List D).length = ps.length := by simpa using hn
  rw [e]
  exact G
/-! ### constants of the module that are tuples -/
section
variable {X : Cx}
theorem pd_globT {x : Str} {ds : List D} {a : Addr} {pos : Pos} (hg : Gl X x) (h : X.mg x = some (.ref a) ∧ ∀ F, Rep X.K F (.tup ds) (.ref a)) (hd : (x == ("__debug__" : Str)) = false := by decide) : PDE X (.Name x pos) (dC (.tup ds)) := pd_glob (v := .ref a) hg h.1 rfl h.2 hd
end
/-- a tuple at an address told by the text -/
def tupAt (a : PySem.W.Frag → Addr) (vs : List He.Dv) (K : PySem.W.Frag) : Bool := match K.lookup (a K) with
  | some ⟨.type c, _, .seq its _, _⟩ => decide (c = "tuple") && (decide (its.size ≤ sizeLine) && He.relAll (vs.map (He.Dv.v K)) its.toList)
  | _ => false
theorem tupAt_ok {K : PySem.W.Frag} {a : PySem.W.Frag → Addr} {vs : List He.Dv} (h : tupAt a vs K = true) (H : Hp) : SqT K H (a K) (vs.map (He.Dv.v K)) := by
  unfold tupAt at h
  cases q : K.lookup (a K) with
  | none =>
    rw [q] at h
    cases h
  | some o =>
    obtain ⟨oc, od, dt, osl⟩ := o
    rw [q] at h
    cases oc with
    | type c =>
      cases dt with
      | seq its n =>
        obtain ⟨h1, h2⟩ := He.ba (show (decide (c = "tuple") && (decide (its.size ≤ sizeLine) && He.relAll (vs.map (He.Dv.v K)) its.toList)) = true from h)
        obtain ⟨h3, h4⟩ := He.ba h2
        exact .inr ⟨_, its, n, q, congrArg Value.type (of_decide_eq_true h1), rfl, of_decide_eq_true h3, He.relAll_ok h4⟩
      | _ => cases h
    | _ => cases dt <;> cases h
/-! ### what the head tells, by more looks -/
abbrev AlX : Type := Bool × He.AlD
def obsX (fb : List (PySem.W.Frag → Bool)) (fa : List He.Fa) (fn : List He.DefD) (K : PySem.W.Frag) : AlX := (fb.all fun b => b K, He.obsD fa fn K)
def valX (fn : List He.DefD) : AlX := (true, He.valD fn)
def obsXG (n : Nat) (fb : List (PySem.W.Frag → Bool)) (fa : List He.Fa) (fn : List He.DefD) (g : Addr → Option Obj) : AlX := obsX fb fa fn (He.frG g (He.asD g n))
def SaysX (fb : List (PySem.W.Frag → Bool)) (fa : List He.Fa) (fn : List He.DefD) (K : PySem.W.Frag) : Prop := obsX fb fa fn K = valX fn
def hookX (n : Nat) (fb : List (PySem.W.Frag → Bool)) (fa : List He.Fa) (fn : List He.DefD) : PySem.W.Hook where
  α := AlX
  obs := fun s => obsXG n fb fa fn s.heap.get?
  val := fun _ => valX fn
  says := fun _ h => ∃ K : PySem.W.Frag, K.In h ∧ SaysX fb fa fn K
  of := fun _ _ e => ⟨_, He.frG_in, e⟩
  keeps := fun _ _ _ ⟨K, hK, c⟩ k => ⟨K, PySem.W.Frag.In.keeps hK k, c⟩
theorem obsXG_eq {n : Nat} {fb : List (PySem.W.Frag → Bool)} {fa : List He.Fa} {fn : List He.DefD} {g : Addr → Option Obj} {s : Shared} (h : ∀ a, g a = s.heap.get? a) : obsXG n fb fa fn g = (hookX n fb fa fn).obs s := by
  have e : g = s.heap.get? := funext h
  rw [e] <;> rfl
section
variable {fb : List (PySem.W.Frag → Bool)} {fa : List He.Fa} {fn : List He.DefD} {K : PySem.W.Frag}
theorem SaysX.d (c : SaysX fb fa fn K) : He.SaysD fa fn K := congrArg (fun z : AlX => z.2) c
theorem SaysX.b (c : SaysX fb fa fn K) (i : Nat) {f : PySem.W.Frag → Bool} (h : fb[i]? = some f := by rfl) : f K = true :=
  List.all_eq_true.mp (show (fb.all fun b => b K) = true from congrArg (fun z : AlX => z.1) c) f (List.mem_of_getElem? h)
end
end L3
set_option Elab.async false
set_option linter.all false
set_option maxRecDepth 100000
set_option maxHeartbeats 1000000
/-! L3: instances made with keyword-only arguments. -/
namespace L3
open PySem PySem.Spec PyProof.Rows L2
/-! ### keywords -/
abbrev PDK (X : Cx) (kws : List Keyword) (t : DA) : Prop := PK X kws (upA X.K kws.length t)
theorem pk_imp {X : Cx} {kws : List Keyword} {t t' : TA} (h : PK X kws t) (i : ∀ σ H Q, t' σ H Q → t σ H Q) : PK X kws t' := ⟨fun pos pins s σ H Q I q => h.run pos pins s σ H Q I (i _ _ _ q)⟩
theorem pdk_nil {X : Cx} : PDK X [] dNil := pk_imp pk_nil fun σ H Q ⟨R, F, env, M, Qd, a, e, h, k⟩ => k F H M [] [] (Same.refl F) a rfl rfl h
theorem pdk_cons {X : Cx} {e : Expr} {te : DE} {kws : List Keyword} {t : DA} {nm : Option Str} {kpos : Pos} (ha : PDE X e te) (hr : PDK X kws t) : PDK X (⟨nm, e, kpos⟩ :: kws) (dCons te t) :=
  pk_imp (pk_cons ha hr) fun σ H Q ⟨R, F, env, M, Qd, a, e, h, k⟩ => ⟨R, F, env, M, _, a, e, h, fun F1 H1 M1 d v s1 a1 r1 h1 => ⟨R, F1, env, M1, _, a1, e.mono s1, h1, fun F2 H2 M2 ds vs s2 a2 r2 l2 h2 =>
    k F2 H2 M2 (d :: ds) (v :: vs) (s1.trans s2) a2 ⟨v, vs, rfl, r1.mono s2, r2⟩ (by simp [l2]) h2⟩⟩
/-! ### __init__ with keyword-only parameters -/
/-- the keyword-only default x of the def at f, if it is an object -/
def kwdAt (f : Str × Option Str) (x : Str) (K : PySem.W.Frag) : Addr := match K.lookup (He.fAd K f) with
  | some ⟨_, _, .func fd, _⟩ => (match fd.kwdefaults with
    | .ref D => (match PySem.W.nsIn K D x with
      | some (some (.ref a)) => a
      | _ => 0)
    | _ => 0)
  | _ => 0
structure InitKAt (K : PySem.W.Frag) (mg : Str → Option Value) (c : Cl) (qual : Str) (st : Stmt) (kwd : List (Str × D)) : Prop where
  ex : ∃ f fd kws, FunD K "__init__" qual (defArgs st) (defBody st) (defScope st) [] kws f fd ∧ Mk K (He.ga K c.nm) f ∧ mg c.nm = some (.ref (He.ga K c.nm)) ∧ kws.map (·.1) = kwd.map (·.1) ∧ ∀ F, Reps K F (kwd.map (·.2)) (kws.map (·.2))
structure InitKOk (P : Program) (w : World) (K : PySem.W.Frag) (mg : Str → Option Value) (base : Heap) (k : Nat) (c : Cl) (qual : Str) (st : Stmt) (ps : List Str) (kwd : List (Str × D)) (sp : SpD) : Prop where
  ex : ∃ f fd kws, FnOk P w K mg base CX0 k f fd ps (upSp K ps.length sp) ∧ FunD K "__init__" qual (defArgs st) (defBody st) (defScope st) [] kws f fd ∧ Mk K (He.ga K c.nm) f ∧ mg c.nm = some (.ref (He.ga K c.nm)) ∧ kws.map (·.1) = kwd.map (·.1) ∧ ∀ F, Reps K F (kwd.map (·.2)) (kws.map (·.2))
theorem initK_ok {P : Program} {w : World} {K : PySem.W.Frag} {mg : Str → Option Value} {base : Heap} {k : Nat} {c : Cl} {qual : Str} {st : Stmt} {N ps : List Str} {kwd : List (Str × D)} {sp : SpD} {t : DS} (d : InitKAt K mg c qual st kwd) (S : FnScope N ps (defScope st))
    (hb : ∀ f cdv A outer s H E, Room k (A.deeper (envOfC qual (defScope st) s.heap.objs.size f cdv)) → PDSs (methCx P w K mg base N qual st f cdv A outer s H E) (defBody st) t)
    (hr : ∀ ds M Q E, ds.length = ps.length → sp ds M Q E → t { nx := fun _ M' => Q .non M', rt := Q } (startD N ds) M) : InitKOk P w K mg base (k + 1) c qual st ps kwd sp := by
  obtain ⟨f, fd, kws, F, hm, hg, hd⟩ := d.ex
  exact ⟨f, fd, kws, def_fnQ F S hb hr, F, hm, hg, hd⟩
/-- made with n values and the keywords ks; g puts them, and the lacking ones' data, in the parameters' order -/
structure MkKOk (P : Program) (w : World) (K : PySem.W.Frag) (mg : Str → Option Value) (base : Heap) (k : Nat) (c : Cl) (n : Nat) (ks : List Str) (g : List D → List D → List D) (sp : SpD) : Prop where
  ex : ∃ f fd ps gv gV np, FnOk P w K mg base CX0 k f fd ps (upSp K np sp) ∧ Mk K (He.ga K c.nm) f ∧ mg c.nm = some (.ref (He.ga K c.nm)) ∧ KBn K fd ps (n + 1) ks gv gV ∧
    ∀ F ds vs es zs, Reps K F ds vs → Reps K F es zs → ds.length = n + 1 → es.length = ks.length → Reps K F (g ds es) (gV vs zs) ∧ (g ds es).length = np
theorem MkKOk.mono {P : Program} {w : World} {K : PySem.W.Frag} {mg : Str → Option Value} {base : Heap} {j k : Nat} {c : Cl} {n : Nat} {ks : List Str} {g : List D → List D → List D} {sp : SpD} (d : MkKOk P w K mg base j c n ks g sp) (h : j ≤ k) : MkKOk P w K mg base k c n ks g sp := by
  obtain ⟨f, fd, ps, gv, gV, np, a, b⟩ := d.ex
  exact ⟨f, fd, ps, gv, gV, np, a.mono h, b⟩
/-- from the __init__: ms the keyword-only parameters that lack -/
theorem InitKOk.make {P : Program} {w : World} {K : PySem.W.Frag} {mg : Str → Option Value} {base : Heap} {k : Nat} {c : Cl} {qual : Str} {st : Stmt} {ps : List Str} {kwd : List (Str × D)} {sp : SpD} (o : InitKOk P w K mg base k c qual st ps kwd sp) (n : Nat) (ks : List Str) (is : List Nat)
    (g : {α : Type} → List α → List α → List α → List α) (gD : List D → List D → List D) (hne : kwd ≠ []) (his : ∀ i ∈ is, i < kwd.length) (hgD : ∀ ds es, gD ds es = g ds (is.map fun i => ((kwd.map (·.2))[i]?).getD .non) es)
    (hlen : ∀ ds es : List D, ds.length = n + 1 → es.length = ks.length → (gD ds es).length = ps.length)
    (hrel : ∀ {vs mz zs : List V} {us mv ws : List Value}, Vals vs us → Vals mz mv → Vals zs ws → Vals (g vs mz zs) (g us mv ws))
    (hrep : ∀ (K : PySem.W.Frag) (F : Hp) {ds ms es : List D} {vs mz zs : List V}, Reps K F ds vs → Reps K F ms mz → Reps K F es zs → Reps K F (g ds ms es) (g vs mz zs))
    (h : ∀ (D : Addr) (doc pm : Value) (an : Option Addr) (cdv ct : Value) (us mv ws : List Value), us.length = n + 1 → mv.length = is.length → ws.length = ks.length →
      KwChain D ((is.map fun i => ((kwd.map (·.1))[i]?).getD Str.empty).zip mv) (bindArgs (PySem.W.fnOf "__init__" qual (defArgs st) (defBody st) (defScope st) .none (.ref D) doc pm an cdv ct) ⟨us, ks.zip ws⟩) (ps.zip (g us mv ws))) :
    MkKOk P w K mg base k c n ks gD sp := by
  obtain ⟨f, fd, kws, G, F, hm, hg, hn, hd⟩ := o.ex
  have lk : kws.length = kwd.length := by have := congrArg List.length hn; simpa using this
  have kne : kws ≠ [] := fun e => hne (List.eq_nil_of_length_eq_zero (by rw [← lk, e]; rfl))
  have at_ : ∀ i, i < kwd.length → kws[i]? = some ((kws[i]?).getD (Str.empty, V.non)) := fun i hi => by
    rw [List.getElem?_eq_getElem (show i < kws.length by omega)]; rfl
  obtain ⟨mv, hb⟩ := F.kbinds0 (ps := ps) (n + 1) ks (is.map fun i => (kws[i]?).getD (Str.empty, V.non)) g kne (fun q hq => by
    obtain ⟨i, hi, rfl⟩ := List.mem_map.mp hq
    exact List.mem_of_getElem? (at_ i (his i hi))) hrel fun D doc pm an cdv ct us mv ws l1 l2 l3 => by
      have e : (is.map fun i => (kws[i]?).getD (Str.empty, V.non)).map (·.1) = is.map fun i => ((kwd.map (·.1))[i]?).getD Str.empty := by
        rw [List.map_map]
        refine List.map_congr_left fun i hi => ?_
        rw [← hn, List.getElem?_map, at_ i (his i hi)]; rfl
      rw [e]
      exact h D doc pm an cdv ct us mv ws l1 (by simpa using l2) l3
  refine ⟨f, fd, ps, _, _, ps.length, G, hm, hg, hb, fun F' ds vs es zs r1 r2 l1 l2 => ⟨?_, hlen ds es l1 l2⟩⟩
  rw [hgD]
  refine hrep K F' r1 ?_ r2
  have all := hd F'
  clear hb hgD hlen h
  induction is with
  | nil => exact rfl
  | cons i is ih =>
    have hi := his i List.mem_cons_self
    have e1 : (kwd.map (·.2))[i]? = some (((kwd.map (·.2))[i]?).getD .non) := by
      rw [List.getElem?_eq_getElem (by rw [List.length_map]; exact hi)]; rfl
    obtain ⟨v, hv, rv⟩ := all.get e1
    refine ⟨_, _, rfl, ?_, ih fun j hj => his j (List.mem_cons_of_mem _ hj)⟩
    have e2 : ((kws[i]?).getD (Str.empty, V.non)).2 = v := by
      rw [List.getElem?_map, at_ i hi] at hv
      exact Option.some.inj hv
    show Rep K F' _ ((kws[i]?).getD (Str.empty, V.non)).2
    rw [e2]; exact rv
def dMakeK (c : Cl) (sp : SpD) (g : List D → List D → List D) (t tk : DA) : DE := fun env M Q => t env M fun ds M1 => tk env M1 fun es M2 => ∀ p, M2 p = none → sp (g (.ref p :: ds) es) (mupd M2 p (.ins c [])) (fun v M3 => v = .non ∧ Q (.ref p) M3) X0
section
variable {X : Cx} {e : Expr} {es : List Expr} {kws : List Keyword} {t tk : DA} {pos p : Pos}
theorem pd_makeK {k n : Nat} {c : Cl} {x : Str} {ks : List Str} {g : List D → List D → List D} {sp : SpD} (d : MkKOk X.prog X.w X.K X.mg X.base k c n ks g sp) (hr : Room (k + 1) X.A) (ha : PDA X (e :: es) t) (hkw : PDK X kws tk) (hx : x = c.nm := by rfl) (hn : (e :: es).length = n := by rfl) (hl : kws.length = ks.length := by rfl) (hg : Gl X x := by rfl)
    (hall : (backToKw pos (keywordEach kws X.env)).all (·.1.isSome) = true := by rfl) (hks : (backToKw pos (keywordEach kws X.env)).filterMap (·.1) = ks := by rfl)
    (hdb : (x == ("__debug__" : Str)) = false := by decide) (he : starEach (e :: es) X.env = (false, eval e X.env) :: starEach es X.env := by rfl)
    (hpl : ((backTo pos (starEach (e :: es) X.env)).any (·.1) || (backToKw pos (keywordEach kws X.env)).any (·.1.isNone)) = false := by rfl) :
    PDE X (.Call (.Name x p) (e :: es) kws pos) (dMakeK c sp g t tk) := by
  obtain ⟨f, fd, ps, gv, gV, np, F, hmk, hm, hb, hrep⟩ := d.ex
  subst hx
  refine pe_imp (pe_makeK hmk F hr hg hm hb pass0 ha hkw hall hks hdb he hpl) fun σ H Q ⟨R, F, env, M, Qd, a, e, h, k⟩ => ⟨R, F, env, M, _, a, e, h, fun F1 H1 M1 ds vs s1 a1 r1 l1 q1 => ⟨R, F1, env, M1, _, a1, e.mono s1, q1, fun F2 H2 M2 es' zs s2 a2 r2 l2 q2 => ⟨by rw [← r1.length, l1, hn], by rw [← r2.length, l2, hl], fun x dx hx hdx hne => ?_⟩⟩⟩
  have a3 := a2.skip hdx (.own x)
  have hx1 : upd H2 dx (.own x) x = none := by rw [upd_ne (Ne.symm hne)]; exact hx
  obtain ⟨z1, z2⟩ := hrep F2 (.ref x :: ds) (.ref x :: vs) es' zs ⟨_, _, rfl, rfl, r1.mono s2⟩ r2 (by rw [List.length_cons, l1, hn]) (by rw [l2, hl])
  refine ⟨R, F2, mupd M2 x (.ins c []), g (.ref x :: ds) es', _, X0, a3.born hx1 (o := .ins c []) ⟨dx, [], by rw [List.zip_nil_right], Nat.zero_le _, rfl⟩, z1, z2, q2 x (a2.freeM hx), fun F' H' M' d v s' a' r' q => ?_, kx0⟩
  obtain ⟨rfl, q⟩ := q
  exact ⟨r', k F' H' M' (.ref x) _ ((s1.trans s2).trans s') a' rfl q⟩
end
end L3
set_option Elab.async false
set_option linter.all false
set_option maxRecDepth 100000
set_option maxHeartbeats 1000000
/-! L3: own things within own things are frozen, or read, all at once; a try that runs through. -/
namespace L3
open PySem PySem.Spec PyProof.Rows L2
mutual
/-- all that stands within an own thing is frozen with it -/
inductive Thaw : Mp → D → D → Mp → Prop where
  | keep (M : Mp) (d : D) : Thaw M d d M
  | lst {M M' : Mp} {q : Addr} {ds ds' : List D} : M q = some (.lst ds) → Thaws (mdel M q) ds ds' M' → Thaw M (.ref q) (.lst ds') M'
  | ins {M M' : Mp} {q : Addr} {c : Cl} {ds ds' : List D} : M q = some (.ins c ds) → Thaws (mdel M q) ds ds' M' → Thaw M (.ref q) (.obj c ds') M'
  | tup {M M' : Mp} {ds ds' : List D} : Thaws M ds ds' M' → Thaw M (.tup ds) (.tup ds') M'
inductive Thaws : Mp → List D → List D → Mp → Prop where
  | nil (M : Mp) : Thaws M [] [] M
  | cons {M M1 M2 : Mp} {d d' : D} {ds ds' : List D} : Thaw M d d' M1 → Thaws M1 ds ds' M2 → Thaws M (d :: ds) (d' :: ds') M2
end
section
variable {K : PySem.W.Frag} {R H : Hp}
mutual
theorem thaws_len : ∀ {M M' : Mp} {ds ds' : List D}, Thaws M ds ds' M' → ds'.length = ds.length
  | _, _, _, _, .nil _ => rfl
  | _, _, _, _, .cons _ t => by rw [List.length_cons, List.length_cons, thaws_len t]
end
mutual
theorem thaw_ok : ∀ {M M' : Mp} {d d' : D}, Thaw M d d' M' → ∀ {F : Hp} {v : V}, At K R F M H → Rep K F d v → ∃ F', Same F F' ∧ At K R F' M' H ∧ Rep K F' d' v
  | _, _, _, _, .keep M d, F, v, a, r => ⟨F, Same.refl F, a, r⟩
  | _, _, _, _, .lst (q := q) (ds' := ds') hm t, F, v, a, r => by
    cases (show v = V.ref q from r)
    obtain ⟨u, ru, a2, s2⟩ := a.freeze hm
    obtain ⟨xs, rfl, rx⟩ := ru
    obtain ⟨F', s3, a3, r3⟩ := thaws_ok t a2 (rx.mono s2)
    exact ⟨F', s2.trans s3, a3, q, xs, rfl, s3 _ _ upd_same, r3⟩
  | _, _, _, _, .ins (q := q) (ds' := ds') hm t, F, v, a, r => by
    cases (show v = V.ref q from r)
    obtain ⟨u, ru, a2, s2⟩ := a.freeze hm
    obtain ⟨dx, xs, rfl, l, rx⟩ := ru
    obtain ⟨F', s3, a3, r3⟩ := thaws_ok t a2 (rx.mono s2)
    exact ⟨F', s2.trans s3, a3, q, dx, xs, rfl, s3 _ _ upd_same, by rw [thaws_len t]; exact l, r3⟩
  | _, _, _, _, .tup (ds' := ds') t, F, v, a, r => by
    obtain ⟨b, xs, e, q, rx⟩ := r
    obtain ⟨F', s3, a3, r3⟩ := thaws_ok t a rx
    exact ⟨F', s3, a3, b, xs, e, Same.seqT s3 q, r3⟩
theorem thaws_ok : ∀ {M M' : Mp} {ds ds' : List D}, Thaws M ds ds' M' → ∀ {F : Hp} {vs : List V}, At K R F M H → Reps K F ds vs → ∃ F', Same F F' ∧ At K R F' M' H ∧ Reps K F' ds' vs
  | _, _, _, _, .nil M, F, vs, a, r => ⟨F, Same.refl F, a, r⟩
  | _, _, _, _, .cons t1 t2, F, vs, a, ⟨x, rr, e, r1, r2⟩ => by
    subst e
    obtain ⟨F1, s1, a1, q1⟩ := thaw_ok t1 a r1
    obtain ⟨F2, s2, a2, q2⟩ := thaws_ok t2 a1 (r2.mono s1)
    exact ⟨F2, s1.trans s2, a2, x, rr, rfl, q1.mono s2, q2⟩
end
end
section
variable {X : Cx} {e : Expr} {te : DE}
def dDeep (te : DE) : DE := fun env M Q => te env M fun d M1 => ∃ d' M2, Thaw M1 d d' M2 ∧ Q d' M2
theorem pd_deep (he : PDE X e te) : PDE X e (dDeep te) := pe_imp he fun σ H Q ⟨R, F, env, M, Qd, a, e, h, k⟩ => ⟨R, F, env, M, _, a, e, h, fun F1 H1 M1 d v s1 a1 r1 ⟨d', M2, th, q1⟩ => by
  obtain ⟨F2, s2, a2, r2⟩ := thaw_ok th a1 r1
  exact k F2 H1 M2 d' v (s1.trans s2) a2 r2 q1⟩
/-- the thing at a name, and all within it, read as data while an expression runs -/
def dPeekD (i : Nat) (te : DE) : DE := fun env M Q => ∃ q d' M', env[i]? = some (some (.ref q)) ∧ Thaw M (.ref q) d' M' ∧ te (env.set i (some d')) (fun _ => none) fun d _ => flatD d = true ∧ Q d M
theorem pd_peekD (i : Nat) (he : PDE X e te) : PDE X e (dPeekD i te) := pe_imp he fun σ H Q ⟨R, F, env, M, Qd, a, e, h, k⟩ => by
  obtain ⟨q, d', M', hq, th, h⟩ := h
  obtain ⟨v, hv, rv⟩ := e.get i _ hq
  obtain ⟨F', s2, a', r'⟩ := thaw_ok th a rv
  have a2 : At X.K (fun b => match F' b with
      | some _ => none
      | none => match M b with
        | some _ => H b
        | none => R b) F' (fun _ => none) H := by
    refine ⟨a'.fz, fun b o ho => (by cases ho), fun b w hw => ?_⟩
    cases hF : F' b with
    | some o => simp only [hF] at hw; cases hw
    | none =>
      simp only [hF] at hw
      refine ⟨rfl, rfl, ?_⟩
      cases hM : M b with
      | some o => simp only [hM] at hw; exact hw
      | none => simp only [hM] at hw; exact (a.fr _ _ hw).2.2
  refine ⟨_, F', _, _, _, a2, (e.mono s2).reset hv r', h, fun F3 H3 M3 d w s3 a3 r3 ⟨fl, q3⟩ => ?_⟩
  have same : ∀ b u, H b = some u → (M b ≠ none ∨ R b ≠ none) → H3 b = some u := fun b u hu hb => by
    cases hF : F' b with
    | some o =>
      have := a'.fz _ _ hF
      rw [hu] at this; cases this
      exact a3.fz _ _ (s3 _ _ hF)
    | none =>
      refine (a3.fr b u ?_).2.2
      simp only [hF]
      cases hM : M b with
      | some o => exact hu
      | none =>
        rcases hb with z | z
        · exact absurd hM z
        · cases hR : R b with
          | none => exact absurd hR z
          | some o => have := (a.fr _ _ hR).2.2; rw [hu] at this; cases this; rfl
  refine k F H3 M d w (Same.refl F) ⟨fun b w hw => a3.fz _ _ (s3 _ _ (s2 _ _ hw)), fun b o ho => ?_, fun b w hw => ?_⟩ (flat_rep fl r3) q3
  · obtain ⟨h1, u2, h2, h3⟩ := a.mu _ _ ho
    exact ⟨h1, u2, same b u2 h2 (.inl (by rw [ho]; simp)), h3⟩
  · obtain ⟨h1, h2, h3⟩ := a.fr _ _ hw
    exact ⟨h1, h2, same b w h3 (.inr (by rw [hw]; simp))⟩
/-- an own thing is no tuple -/
theorem repO_tup {K : PySem.W.Frag} {F : Hp} {p : Addr} {o : MO} {u : HO} (r : RepO K F p o u) : (∀ xs, u ≠ .tup xs) ∧ ∀ z xs, u ≠ .frz z (.tup xs) := by
  cases o with
  | lst ds => obtain ⟨xs, e, _⟩ := r; subst e; exact ⟨fun _ e => (by cases e), fun _ _ e => (by cases e)⟩
  | dct ks ds => obtain ⟨xs, e, _⟩ := r; subst e; exact ⟨fun _ e => (by cases e), fun _ _ e => (by cases e)⟩
  | ins c ds => obtain ⟨dx, xs, e, _⟩ := r; subst e; exact ⟨fun _ e => (by cases e), fun _ _ e => (by cases e)⟩
  | dkd w ks ds => obtain ⟨Ls, e, _⟩ := r; subst e; exact ⟨fun _ e => (by unfold DkO at e; cases e), fun _ _ e => (by unfold DkO at e; cases e)⟩
section
variable {K : PySem.W.Frag} {F G : Hp} (ht : ∀ a xs, F a = some (.tup xs) → G a = some (.tup xs)) (hz : ∀ a o xs, F a = some (.frz o (.tup xs)) → G a = some (.frz o (.tup xs)))
include ht hz
mutual
theorem nk_rep : ∀ (n : Nat) {d : D} {v : V}, D.nk n d = true → Rep K F d v → Rep K G d v
  | _, .non, _, _, r => r
  | _, .int _, _, _, r => r
  | _, .str _, _, _, r => r
  | n + 1, .tup ds, v, h, ⟨a, xs, e, q, r⟩ => ⟨a, xs, e, (by
      rcases q with (q | ⟨o, q⟩) | q
      · exact .inl (.inl (ht _ _ q))
      · exact .inl (.inr ⟨o, hz _ _ _ q⟩)
      · exact .inr q), nks_rep n h r⟩
  | 0, .tup _, _, h, _ => by simp [D.nk] at h
  | _, .bl _, _, h, _ => by simp [D.nk] at h
  | _, .ty _, _, h, _ => by simp [D.nk] at h
  | _, .ref _, _, h, _ => by simp [D.nk] at h
  | _, .lst _, _, h, _ => by simp [D.nk] at h
  | _, .lsk _, _, h, _ => by simp [D.nk] at h
  | _, .dct _ _, _, h, _ => by simp [D.nk] at h
  | _, .obj _ _, _, h, _ => by simp [D.nk] at h
  | _, .dkd _ _ _, _, h, _ => by simp [D.nk] at h
theorem nks_rep : ∀ (n : Nat) {ds : List D} {vs : List V}, D.nks n ds = true → Reps K F ds vs → Reps K G ds vs
  | _, [], _, _, r => r
  | n, d :: ds, _, h, ⟨x, rr, e, r1, r2⟩ => by
    simp only [D.nks, Bool.and_eq_true] at h
    exact ⟨x, rr, e, nk_rep n h.1 r1, nks_rep n h.2 r2⟩
end
theorem keys_rep : ∀ {ds : List D} {vs : List V}, (∀ d ∈ ds, isKey d = true) → Reps K F ds vs → Reps K G ds vs
  | [], _, _, r => r
  | d :: ds, _, h, ⟨x, rr, e, r1, r2⟩ => ⟨x, rr, e, nk_rep ht hz 8 (by
      have := h d List.mem_cons_self
      cases d <;> first | exact this | (simp [isKey] at this)) r1, keys_rep (fun d hd => h d (List.mem_cons_of_mem _ hd)) r2⟩
end
/-- the thing at a name, own or not, read as data while an expression makes a new list of keys -/
def dPeekO (i : Nat) (te : DE) : DE := fun env M Q => ∃ d0 d' M', env[i]? = some (some d0) ∧ Thaw M d0 d' M' ∧ te (env.set i (some d')) (fun _ => none) fun d M3 => ∃ p ds, d = .ref p ∧ M3 p = some (.lst ds) ∧ (∀ y ∈ ds, isKey y = true) ∧ Q (.lst ds) M
theorem pd_peekO (i : Nat) (he : PDE X e te) : PDE X e (dPeekO i te) := pe_imp he fun σ H Q ⟨R, F, env, M, Qd, a, e, h, k⟩ => by
  obtain ⟨d0, d', M', hq, th, h⟩ := h
  obtain ⟨v, hv, rv⟩ := e.get i _ hq
  obtain ⟨F', s2, a', r'⟩ := thaw_ok th a rv
  have a2 : At X.K (fun b => match F' b with
      | some _ => none
      | none => match M b with
        | some _ => H b
        | none => R b) F' (fun _ => none) H := by
    refine ⟨a'.fz, fun b o ho => (by cases ho), fun b w hw => ?_⟩
    cases hF : F' b with
    | some o => simp only [hF] at hw; cases hw
    | none =>
      simp only [hF] at hw
      refine ⟨rfl, rfl, ?_⟩
      cases hM : M b with
      | some o => simp only [hM] at hw; exact hw
      | none => simp only [hM] at hw; exact (a.fr _ _ hw).2.2
  refine ⟨_, F', _, _, _, a2, (e.mono s2).reset hv r', h, fun F3 H3 M3 d w s3 a3 r3 ⟨p, ds, ed, hp, hk, q3⟩ => ?_⟩
  subst ed
  have same : ∀ b u, H b = some u → (M b ≠ none ∨ R b ≠ none) → H3 b = some u := fun b u hu hb => by
    cases hF : F' b with
    | some o =>
      have := a'.fz _ _ hF
      rw [hu] at this; cases this
      exact a3.fz _ _ (s3 _ _ hF)
    | none =>
      refine (a3.fr b u ?_).2.2
      simp only [hF]
      cases hM : M b with
      | some o => exact hu
      | none =>
        rcases hb with z | z
        · exact absurd hM z
        · cases hR : R b with
          | none => exact absurd hR z
          | some o => have := (a.fr _ _ hR).2.2; rw [hu] at this; cases this; rfl
  obtain ⟨hFp, u, hHp, xs, eu, rx⟩ := a3.mu _ _ hp
  subst eu
  have noM : M p = none := by
    cases hM : M p with
    | none => rfl
    | some o =>
      obtain ⟨h1, u2, h2, h3⟩ := a.mu _ _ hM
      cases hF : F' p with
      | some o2 => rw [s3 _ _ hF] at hFp; cases hFp
      | none =>
        have := a3.fr p u2 (by simp only [hF, hM]; exact h2)
        rw [hp] at this; cases this.2.1
  have noR : R p = none := by
    cases hR : R p with
    | none => rfl
    | some o =>
      have hF : F' p = none := (a'.fr _ _ hR).1
      have := a3.fr p o (by simp only [hF, noM]; exact hR)
      rw [hp] at this; cases this.2.1
  let G : Hp := fun b => if b = p then some (.lst xs) else match M b with
    | some _ => none
    | none => F3 b
  have gp : G p = some (.lst xs) := if_pos rfl
  have gn : ∀ b, b ≠ p → M b = none → G b = F3 b := fun b h1 h2 => by show (if b = p then _ else _) = _; rw [if_neg h1, h2]
  have gm : ∀ b o, M b = some o → G b = none := fun b o h2 => by
    show (if b = p then _ else _) = _
    rw [if_neg (fun ex => by rw [ex, noM] at h2; cases h2), h2]
  have sFG : Same F G := fun b w hw => by
    have hb : b ≠ p := fun ex => by rw [← ex] at hFp; rw [s3 _ _ (s2 _ _ hw)] at hFp; cases hFp
    have hM : M b = none := by
      cases hM : M b with
      | none => rfl
      | some o => rw [(a.mu _ _ hM).1] at hw; cases hw
    rw [gn b hb hM]; exact s3 _ _ (s2 _ _ hw)
  have key : ∀ b w, F3 b = some w → (∀ o u, RepO X.K F b o u → u ≠ w) → G b = some w := fun b w hw hne => by
    have hb : b ≠ p := fun ex => by rw [ex, hFp] at hw; cases hw
    have hM : M b = none := by
      cases hM : M b with
      | none => rfl
      | some o =>
        obtain ⟨h1, u2, h2, h3⟩ := a.mu _ _ hM
        have e1 := same b u2 h2 (.inl (by rw [hM]; simp))
        rw [a3.fz _ _ hw] at e1
        cases e1
        exact absurd rfl (hne _ _ h3)
    rw [gn b hb hM]; exact hw
  refine k G H3 M (.lst ds) _ sFG ⟨fun b w hw => ?_, fun b o ho => ?_, fun b w hw => ?_⟩ ⟨p, xs, (show w = V.ref p from r3), gp, keys_rep (fun a ys h => key a _ h fun o u r e => (repO_tup r).1 _ e) (fun a z ys h => key a _ h fun o u r e => (repO_tup r).2 _ _ e) hk rx⟩ q3
  · by_cases hb : b = p
    · subst hb; rw [gp] at hw; cases hw; exact hHp
    · cases hM : M b with
      | some o => rw [gm b o hM] at hw; cases hw
      | none => rw [gn b hb hM] at hw; exact a3.fz _ _ hw
  · obtain ⟨h1, u2, h2, h3⟩ := a.mu _ _ ho
    exact ⟨gm b o ho, u2, same b u2 h2 (.inl (by rw [ho]; simp)), h3.mono sFG⟩
  · obtain ⟨h1, h2, h3⟩ := a.fr _ _ hw
    have hb : b ≠ p := fun ex => by rw [ex, noR] at hw; cases hw
    refine ⟨?_, h2, same b w h3 (.inr (by rw [hw]; simp))⟩
    rw [gn b hb h2]
    have hF : F' b = none := (a'.fr _ _ hw).1
    exact (a3.fr b w (by simp only [hF, h2]; exact hw)).1
/-! ### a try that runs through -/
theorem pds_try {body : List Stmt} {h₀ : ExceptHandler} {hs : List ExceptHandler} {t : DS} {pos : Pos} (h : PDSs X.nox body t) : PDS X (.Try body (h₀ :: hs) [] [] pos) t := ps_try_thru0 h
end
end L3
set_option Elab.async false
set_option linter.all false
set_option maxRecDepth 100000
set_option maxHeartbeats 1000000
/-! Readings of shared helpers, third part: is_name, is_sign, drawn texts, judges of writers. -/
namespace L3
open PySem PySem.Spec PyProof.Rows L2
local macro_rules | `(tactic| walk_at "w") => `(tactic| conv => whnf)
/-! names and signs -/
theorem sok_letters : SOk letters := by decide +kernel
theorem isName_all {x : Str} : (signs x).map (fun z => D.bl (match z with | .str y => strIn y letters | _ => false)) = (x.cps.toList.map isLetter).map D.bl := by
  unfold signs
  rw [List.map_map, List.map_map]
  refine List.map_congr_left fun c _ => ?_
  show D.bl (strIn ⟨#[c]⟩ letters) = D.bl (isLetter c)
  rw [strIn_letters]
def sp_is_name : SpD := fun ds M Q _ => ∃ x, ds = [.str x] ∧ Q (.bl (isName x)) M
def sp_law_is_name : SpD := sp_is_name
def t_is_name : DS := (dRet (dAndV (dChain rLtI rLeI (dC (.int 0)) (dUn rLenD (dVar 0)) (dC (.int 6))) (dUn rAllD (dLc (iTxt (dVar 0)) (.name 1) dYes (dBin (rInDD id) (dVar 1) (dC (.str "abcdefghijklmnopqrstuvwxyz"))) [1]))))
def t_law_is_name : DS := (dRet (dAndV (dChain rLtI rLtI (dC (.int 0)) (dUn rLenD (dVar 0)) (dC (.int 7))) (dUn rAllD (dLc (iTxt (dVar 0)) (.name 1) dYes (dBin (rInDD id) (dVar 1) (dCall sp_law_letters dNil)) [1]))))
/-- all(sign in LETTERS for ..), behind its list -/
theorem r_all_letters {x : Str} {M : Mp} {Q : DK} {te : DE} {env : DEnv} (h : ∀ c (K : DK), K (.bl (strIn ⟨#[c]⟩ letters)) M → te (env.set 1 (some (sgn c))) M K) (q : Q (.bl (x.cps.toList.all isLetter)) M) :
    dLcL (.name 1) dYes te env (signs x) [] M (fun ds M2 => rAllD (.lst ds) M2 Q) := by
  refine lc_map (fun z => D.bl (match z with | .str y => strIn y letters | _ => false)) (fun z hz K1 K2 hK => ?_) ?_
  · obtain ⟨c, hc, rfl⟩ := List.mem_map.mp hz
    exact h c K1 hK
  · rw [isName_all]
    walk_at "w"
    rw [asBls_map]
    show Q (.bl ((x.cps.toList.map isLetter).all id)) M
    rw [List.all_map]
    exact q
theorem r_is_name (ds : List D) (M : Mp) (Q : DK) (E : DX) (hl : ds.length = 1) (h : sp_is_name ds M Q E) : t_is_name { nx := fun _ M' => Q .non M', rt := Q } (startD ["text", "sign"] ds) M := by
  obtain ⟨x, rfl, q⟩ := h
  unfold isName at q
  walk_at "w"
  have e0 : decide ((0 : Int) < (x.length : Int)) = decide (0 < x.length) := by simp
  have e1 : decide ((x.length : Int) ≤ 6) = decide (x.length ≤ 6) := by rw [decide_eq_decide]; omega
  refine brn_by (fun hc => ?_) fun hc => ?_
  · rw [← e0, show decide ((0 : Int) < (x.length : Int)) = true from hc, Bool.true_and] at q
    walk_at "w"
    refine brn_by (fun hd => ?_) fun hd => ?_
    · rw [← e1, show decide ((x.length : Int) ≤ 6) = true from hd, Bool.true_and] at q
      walk_at "w"
      refine r_all_letters (fun c K hK => ?_) q
      exact hK
    · rw [← e1, show decide ((x.length : Int) ≤ 6) = false from hd, Bool.false_and] at q
      walk_at "w"
      show Q (.bl (decide ((x.length : Int) ≤ 6))) M
      rw [show decide ((x.length : Int) ≤ 6) = false from hd]
      exact q
  · rw [← e0, show decide ((0 : Int) < (x.length : Int)) = false from hc, Bool.false_and] at q
    walk_at "w"
    exact q
theorem r_law_is_name (ds : List D) (M : Mp) (Q : DK) (E : DX) (hl : ds.length = 1) (h : sp_law_is_name ds M Q E) : t_law_is_name { nx := fun _ M' => Q .non M', rt := Q } (startD ["_law_text_here", "_law_sign"] ds) M := by
  obtain ⟨x, rfl, q⟩ := h
  unfold isName at q
  walk_at "w"
  have e0 : decide ((0 : Int) < (x.length : Int)) = decide (0 < x.length) := by simp
  have e1 : decide ((x.length : Int) < 7) = decide (x.length ≤ 6) := by rw [decide_eq_decide]; omega
  refine brn_by (fun hc => ?_) fun hc => ?_
  · rw [← e0, show decide ((0 : Int) < (x.length : Int)) = true from hc, Bool.true_and] at q
    walk_at "w"
    refine brn_by (fun hd => ?_) fun hd => ?_
    · rw [← e1, show decide ((x.length : Int) < 7) = true from hd, Bool.true_and] at q
      walk_at "w"
      refine r_all_letters (fun c K hK => ?_) q
      exact ⟨rfl, hK⟩
    · rw [← e1, show decide ((x.length : Int) < 7) = false from hd, Bool.false_and] at q
      walk_at "w"
      show Q (.bl (decide ((x.length : Int) < 7))) M
      rw [show decide ((x.length : Int) < 7) = false from hd]
      exact q
  · rw [← e0, show decide ((0 : Int) < (x.length : Int)) = false from hc, Bool.false_and] at q
    walk_at "w"
    exact q
def isSign (x : Str) : Bool := isName x && decide (x.length = 1)
theorem isSign_one {c : Nat} : isSign ⟨#[c]⟩ = isLetter c := by
  unfold isSign isName
  have h1 : (⟨#[c]⟩ : Str).length = 1 := rfl
  rw [h1]
  simp
theorem one_of {x : Str} (h : x.length = 1) : ∃ c, x = ⟨#[c]⟩ := by
  obtain ⟨⟨l⟩⟩ := x
  have h' : l.length = 1 := h
  match l, h' with
  | [c], _ => exact ⟨c, rfl⟩
def sp_is_sign : SpD := fun ds M Q _ => ∃ x, ds = [.str x] ∧ Q (.bl (isSign x)) M
def t_is_sign : DS := (dRet (dAndV (dBin (rEqDD id) (dUn rLenD (dVar 0)) (dC (.int 1))) (dBin (rInDD id) (dVar 0) (dC (.str "abcdefghijklmnopqrstuvwxyz")))))
theorem r_is_sign (ds : List D) (M : Mp) (Q : DK) (E : DX) (hl : ds.length = 1) (h : sp_is_sign ds M Q E) : t_is_sign { nx := fun _ M' => Q .non M', rt := Q } (startD ["text"] ds) M := by
  obtain ⟨x, rfl, q⟩ := h
  walk_at "w"
  refine ⟨⟨rfl, rfl⟩, ?_⟩
  walk_at "w"
  refine brn_by (fun hc => ?_) fun hc => ?_
  · have h1 : x.length = 1 := by
      have h1 : ((x.length : Int) == 1) = true := hc
      have := eq_of_beq h1
      omega
    obtain ⟨c, rfl⟩ := one_of h1
    walk_at "w"
    show Q (.bl (strIn ⟨#[c]⟩ letters)) M
    rw [strIn_letters, ← isSign_one]
    exact q
  · have h1 : ((x.length : Int) == 1) = false := hc
    show Q (.bl ((x.length : Int) == 1)) M
    have h2 : isSign x = false := by
      unfold isSign
      rw [decide_eq_false (fun e => by rw [e] at h1; exact absurd h1 (by decide)), Bool.and_false]
    rw [h2] at q
    rw [h1]
    exact q
/-! drawn texts -/
theorem join_len {a : Str} {ys : List Str} : (Txt.join a ys).length ≤ (ys.map (·.length)).sum + ys.length * a.length := by
  have e : (Txt.join a ys).cps.toList = TL.joinL a.cps.toList (ys.map fun y => y.cps.toList) := by
    rw [TL.join_eq]; exact TL.tl_join a ys
  show (Txt.join a ys).cps.size ≤ _
  rw [← Array.length_toList, e]
  refine Nat.le_trans (joinL_len _) ?_
  rw [List.map_map, List.length_map, Array.length_toList]
  exact Nat.le_refl _
theorem sum_one {ys : List Str} (h : ∀ y ∈ ys, y.length = 1) : (ys.map (·.length)).sum = ys.length := by
  induction ys with
  | nil => rfl
  | cons y ys ih =>
    rw [List.map_cons, List.sum_cons, h y List.mem_cons_self, ih fun z hz => h z (List.mem_cons_of_mem _ hz), List.length_cons]
    omega
theorem sgn_letters {x : D} (h : x ∈ signs letters) : ∃ c, x = sgn c ∧ isLetter c = true := by
  obtain ⟨c, hc, rfl⟩ := List.mem_map.mp h
  exact ⟨c, rfl, (mem_letters c).mp hc⟩
def sp_law_text : SpD := fun ds M Q _ => ∃ p b n, ds = [.ref p, .int n] ∧ M p = some (.lst (Bag.l b)) ∧ b.Ok ∧ 0 ≤ n ∧ n ≤ 100 ∧ ∀ x b', Bag.Ok b' → x.length ≤ 1000 → Q (.str x) (mupd M p (.lst b'.l))
def t_law_text : DS := (dSeq (dSet 2 (dCall sp_law_letters dNil))
    (dSeq (dSet 3 (dJoin (dC (.str "")) (dLc (iRange1 (dCons (dCall sp_law_pull (dCons (dVar 0) (dCons (dBin rAddD (dVar 1) (dC (.int 1))) dNil))) dNil)) (.name 5) dYes (dCall sp_law_of (dCons (dVar 0) (dCons (dVar 2) dNil))) [5])))
    (dSeq (dSet 4 (dCall sp_law_pull (dCons (dVar 0) (dCons (dBin rAddD (dUn rLenD (dVar 3)) (dC (.int 1))) dNil))))
    (dRet (dBin rAddD (dBin rAddD (dSl (dVar 3) dNoPart (dPart (dVar 4))) (dCall sp_law_of (dCons (dVar 0) (dCons (dLst (dCons (dC (.str "")) (dCons (dC (.str "")) (dCons (dC (.str "")) (dCons (dC (.str "")) (dCons (dC (.str "A")) (dCons (dC (.str "1")) (dCons (dC (.str " ")) (dCons (dC (.str "-")) (dCons (dC (.str "~")) (dCons (dC (.str "_")) dNil))))))))))) dNil)))) (dSl (dVar 3) (dPart (dVar 4)) dNoPart))))))
theorem r_law_text (ds : List D) (M : Mp) (Q : DK) (E : DX) (hl : ds.length = 2) (h : sp_law_text ds M Q E) : t_law_text { nx := fun _ M' => Q .non M', rt := Q } (startD ["_law_bag_here", "_law_limit", "_law_letters_here", "_law_text_here", "_law_at", "_law_k"] ds) M := by
  obtain ⟨p, b, n, rfl, hM, hb, h0, h1, q⟩ := h
  walk_at "w"
  refine ⟨rfl, ?_⟩
  walk_at "w"
  refine ⟨p, b, n + 1, rfl, hM, hb, by omega, by omega, fun r b1 hb1 r0 r1 => ?_⟩
  walk_at "w"
  refine ⟨⟨by omega, by omega⟩, ?_⟩
  walk_at "w"
  refine lc_inv (fun i acc M' => ∃ b' ys, Bag.Ok b' ∧ M' = mupd M p (.lst b'.l) ∧ acc = ys.map D.str ∧ ys.length = i ∧ ∀ y ∈ ys, y.length = 1) ⟨b1, [], hb1, rfl, rfl, rfl, fun y hy => by cases hy⟩ (fun i x acc M' K hx ⟨b', ys, hb', e1, e2, e3, e4⟩ hK => ?_) fun acc M' ⟨b', ys, hb', e1, e2, e3, e4⟩ => ?_
  · subst e1 e2
    walk_at "w"
    refine ⟨p, b', .str letters, signs letters, rfl, mupd_same, hb', by decide +kernel, by decide +kernel, .inr (.inr ⟨letters, rfl, rfl⟩), fun x b2 hb2 hx => ?_⟩
    obtain ⟨c, rfl, _⟩ := sgn_letters hx
    refine hK _ _ ⟨b2, ys ++ [⟨#[c]⟩], hb2, by rw [mupd_mupd], by simp [sgn], by simp [e3], fun y hy => ?_⟩
    rcases List.mem_append.mp hy with hy | hy
    · exact e4 y hy
    · rw [List.mem_singleton.mp hy]; rfl
  · subst e1 e2
    rw [rng_length] at e3
    walk_at "w"
    rw [asStrs_map]
    walk_at "w"
    have hs := sum_one e4
    have hj := join_len (a := Str.ofString "") (ys := ys)
    have h00 : (Str.ofString "").length = 0 := by decide +kernel
    rw [hs, h00, Nat.mul_zero] at hj
    refine ⟨by rw [hs, h00]; omega, ?_⟩
    generalize Txt.join (Str.ofString "") ys = x at hj ⊢
    walk_at "w"
    refine ⟨p, b', x.length + 1, rfl, mupd_same, hb', by omega, by omega, fun r2 b2 hb2 s0 s1 => ?_⟩
    rw [mupd_mupd]
    walk_at "w"
    refine ⟨p, b2, .lst [.str "", .str "", .str "", .str "", .str "A", .str "1", .str " ", .str "-", .str "~", .str "_"], [.str "", .str "", .str "", .str "", .str "A", .str "1", .str " ", .str "-", .str "~", .str "_"], rfl, mupd_same, hb2, by decide, by decide, .inl ⟨rfl, fun e => by cases e⟩, fun y b3 hb3 hy => ?_⟩
    obtain ⟨z, rfl, hz⟩ : ∃ z : Str, y = .str z ∧ z.length ≤ 1 := by
      simp only [List.mem_cons, List.not_mem_nil, or_false] at hy
      rcases hy with rfl | rfl | rfl | rfl | rfl | rfl | rfl | rfl | rfl | rfl <;> exact ⟨_, rfl, by decide +kernel⟩
    have hA := cutS_length x none (some r2)
    have hB := cutS_length x (some r2) none
    rw [mupd_mupd]
    walk_at "w"
    have hC : (cutS x none (some r2) ++ z).length = (cutS x none (some r2)).length + z.length := by
      show ((cutS x none (some r2)).cps ++ z.cps).size = _
      rw [Array.size_append]; rfl
    refine ⟨by rw [sizeLine_eq]; omega, ?_⟩
    walk_at "w"
    refine ⟨by rw [sizeLine_eq, hC]; omega, ?_⟩
    refine q _ b3 hb3 ?_
    show ((cutS x none (some r2) ++ z).cps ++ (cutS x (some r2) none).cps).size ≤ 1000
    rw [Array.size_append]
    have hC' : (cutS x none (some r2) ++ z).cps.size = (cutS x none (some r2)).length + z.length := hC
    have hB' : (cutS x (some r2) none).cps.size ≤ x.length := hB
    omega
/-! ### keys that are the same -/
mutual
theorem nk_eqv : ∀ {n : Nat} {d e : D}, D.nk n d = true → D.nk n e = true → PyData.eqv d.py e.py = true → d = e
  | n, .non, e, _, he, h => by cases e <;> first | rfl | (cases n <;> simp [D.nk] at he; done) | (simp [D.py, PyData.eqv] at h; done)
  | n, .int i, e, _, he, h => by
    cases e <;> first | (cases n <;> simp [D.nk] at he; done) | (simp [D.py, PyData.eqv] at h; done) | (simp [D.py, PyData.eqv] at h; rw [h])
  | n, .str i, e, _, he, h => by
    cases e <;> first | (cases n <;> simp [D.nk] at he; done) | (simp [D.py, PyData.eqv] at h; done) | (simp [D.py, PyData.eqv] at h; rw [h])
  | n + 1, .tup ds, e, hd, he, h => by
    cases e with
    | tup es =>
      simp only [D.py, PyData.eqv] at h
      rw [nks_eqv (show D.nks n ds = true by simpa [D.nk] using hd) (show D.nks n es = true by simpa [D.nk] using he) h]
    | _ => first | (simp [D.nk] at he; done) | (simp [D.py, PyData.eqv] at h; done)
  | 0, .tup _, _, hd, _, _ => by simp [D.nk] at hd
  | n, .bl _, _, hd, _, _ => by cases n <;> simp [D.nk] at hd
  | n, .ty _, _, hd, _, _ => by cases n <;> simp [D.nk] at hd
  | n, .ref _, _, hd, _, _ => by cases n <;> simp [D.nk] at hd
  | n, .lst _, _, hd, _, _ => by cases n <;> simp [D.nk] at hd
  | n, .lsk _, _, hd, _, _ => by cases n <;> simp [D.nk] at hd
  | n, .dct _ _, _, hd, _, _ => by cases n <;> simp [D.nk] at hd
  | n, .obj _ _, _, hd, _, _ => by cases n <;> simp [D.nk] at hd
  | n, .dkd _ _ _, _, hd, _, _ => by cases n <;> simp [D.nk] at hd
theorem nks_eqv : ∀ {n : Nat} {ds es : List D}, D.nks n ds = true → D.nks n es = true → PyData.eqvAll (D.pys ds) (D.pys es) = true → ds = es
  | _, [], [], _, _, _ => rfl
  | _, [], _ :: _, _, _, h => by simp [D.pys, PyData.eqvAll] at h
  | _, _ :: _, [], _, _, h => by simp [D.pys, PyData.eqvAll] at h
  | n, d :: ds, e :: es, hd, he, h => by
    simp only [D.nks, Bool.and_eq_true] at hd he
    simp only [D.pys, PyData.eqvAll, Bool.and_eq_true] at h
    rw [nk_eqv hd.1 he.1 h.1, nks_eqv hd.2 he.2 h.2]
end
mutual
theorem nk_self : ∀ {n : Nat} {d : D}, D.nk n d = true → PyData.eqv d.py d.py = true
  | _, .non, _ => by simp [D.py, PyData.eqv]
  | _, .int i, _ => by simp [D.py, PyData.eqv]
  | _, .str x, _ => by simp [D.py, PyData.eqv]
  | n + 1, .tup ds, h => by
    simp only [D.py, PyData.eqv]
    exact nks_self (show D.nks n ds = true by simpa [D.nk] using h)
  | 0, .tup _, hd => by simp [D.nk] at hd
  | n, .bl _, hd => by cases n <;> simp [D.nk] at hd
  | n, .ty _, hd => by cases n <;> simp [D.nk] at hd
  | n, .ref _, hd => by cases n <;> simp [D.nk] at hd
  | n, .lst _, hd => by cases n <;> simp [D.nk] at hd
  | n, .lsk _, hd => by cases n <;> simp [D.nk] at hd
  | n, .dct _ _, hd => by cases n <;> simp [D.nk] at hd
  | n, .obj _ _, hd => by cases n <;> simp [D.nk] at hd
  | n, .dkd _ _ _, hd => by cases n <;> simp [D.nk] at hd
theorem nks_self : ∀ {n : Nat} {ds : List D}, D.nks n ds = true → PyData.eqvAll (D.pys ds) (D.pys ds) = true
  | _, [], _ => rfl
  | n, d :: ds, h => by
    simp only [D.nks, Bool.and_eq_true] at h
    simp only [D.pys, PyData.eqvAll, Bool.and_eq_true]
    exact ⟨nk_self h.1, nks_self h.2⟩
end
theorem nks_of {n : Nat} : ∀ {ds : List D}, (∀ d ∈ ds, D.nk n d = true) → D.nks n ds = true
  | [], _ => rfl
  | d :: ds, h => by
    simp only [D.nks, Bool.and_eq_true]
    exact ⟨h d List.mem_cons_self, nks_of fun g hg => h g (List.mem_cons_of_mem _ hg)⟩
/-! ### the keys of arrows -/
def kyD (a : Ar) : D := .tup [.int a.at_, .str a.sg]
instance : DecidableRel arLt := fun a b => by unfold arLt; infer_instance
theorem arLt_irr (a : Ar) : ¬ arLt a a := fun h => h.elim (fun q => by omega) fun q => List.lt_irrefl _ q.2
theorem arLt_trans {a b c : Ar} (h : arLt a b) (g : arLt b c) : arLt a c := by
  rcases h with h | ⟨h, h2⟩ <;> rcases g with g | ⟨g, g2⟩
  · exact .inl (by omega)
  · exact .inl (by omega)
  · exact .inl (by omega)
  · exact .inr ⟨by omega, List.lt_trans h2 g2⟩
theorem arLt_tri {a b : Ar} (h : kyD a ≠ kyD b) (g : ¬ arLt b a) : arLt a b := by
  by_cases e : a.at_ = b.at_
  · refine .inr ⟨e, ?_⟩
    have h1 : ¬ b.sg.cps.toList < a.sg.cps.toList := fun q => g (.inr ⟨e.symm, q⟩)
    rcases List.le_iff_lt_or_eq.mp (List.not_lt.mp h1) with q | q
    · exact q
    · refine absurd ?_ h
      unfold kyD
      rw [e, PySem.W.str_of_cps q]
  · by_cases l : a.at_ < b.at_
    · exact .inl l
    · exact absurd (.inl (by omega)) g
theorem leD_ky {a b : Ar} : leD (kyD a) (kyD b) = true ↔ ¬ arLt b a := by
  show (!PySem.W.dataLt (.tuple [.int b.at_, .str b.sg]) (.tuple [.int a.at_, .str a.sg])) = true ↔ _
  rw [PySem.W.dataLt_pair (by simp [PySem.W.alike]) (by simp [PySem.W.alike]), PySem.W.dataLt_int, PySem.W.dataLt_str]
  unfold arLt
  simp only [PyData.eqv]
  by_cases h1 : b.at_ = a.at_
  · by_cases h2 : b.sg = a.sg
    · simp [h1, h2, List.lt_irrefl]
    · simp [h1, h2]
  · simp [h1]
theorem ky_inj {a b : Ar} (h : kyD a = kyD b) : a.at_ = b.at_ ∧ a.sg = b.sg := by
  unfold kyD at h
  simpa using h
theorem perm_eq {α : Type} {R : α → α → Prop} (anti : ∀ a b, R a b → R b a → a = b) : ∀ {xs ys : List α}, xs.Perm ys → xs.Pairwise R → ys.Pairwise R → xs = ys
  | [], ys, p, _, _ => (List.Perm.nil_eq p)
  | x :: xs, [], p, _, _ => absurd p.length_eq (by simp)
  | x :: xs, y :: ys, p, hx, hy => by
    rw [List.pairwise_cons] at hx hy
    have e : x = y := by
      rcases List.mem_cons.mp (p.mem_iff.mp List.mem_cons_self) with e | e
      · exact e
      · rcases List.mem_cons.mp (p.mem_iff.mpr (List.mem_cons_self (a := y) (l := ys))) with e2 | e2
        · exact e2.symm
        · exact anti _ _ (hx.1 y e2) (hy.1 x e)
    subst e
    rw [perm_eq anti (List.Perm.cons_inv p) hx.2 hy.2]
theorem ky_nk (a : Ar) : D.nk 8 (kyD a) = true := rfl
theorem ky_nks (as : List Ar) : D.nks 8 (as.map kyD) = true := nks_of fun d hd => by
  obtain ⟨a, _, rfl⟩ := List.mem_map.mp hd; rfl
/-- keys == sorted(set(keys)) just where they rise -/
theorem keys_rise {as : List Ar} {ys : List D} (hn : ys.Nodup) (hm : ∀ g, g ∈ ys ↔ g ∈ as.map kyD) (hs : ys.Pairwise fun d e => leD d e = true) : eqD (.lst (as.map kyD)) (.lst ys) = decide (as.Pairwise arLt) := by
  have ynk : D.nks 8 ys = true := nks_of fun d hd => by
    obtain ⟨a, _, rfl⟩ := List.mem_map.mp ((hm d).mp hd); rfl
  have ev : eqD (.lst (as.map kyD)) (.lst ys) = PyData.eqvAll (D.pys (as.map kyD)) (D.pys ys) := by unfold eqD; simp only [D.py, PyData.eqv]
  rw [ev, Bool.eq_iff_iff, decide_eq_true_eq]
  constructor
  · intro h
    have e := nks_eqv (ky_nks as) ynk h
    rw [← e] at hn hs
    rw [List.nodup_iff_pairwise_ne, List.pairwise_map] at hn
    rw [List.pairwise_map] at hs
    exact (hn.and hs).imp fun {a b} ⟨h1, h2⟩ => arLt_tri h1 (leD_ky.mp h2)
  · intro h
    have nd : (as.map kyD).Nodup := by
      rw [List.nodup_iff_pairwise_ne, List.pairwise_map]
      refine h.imp fun {a b} q e => ?_
      obtain ⟨e1, e2⟩ := ky_inj e
      rcases q with q | ⟨_, q⟩
      · omega
      · rw [e2] at q; exact List.lt_irrefl _ q
    have pw : (as.map kyD).Pairwise fun d e => leD d e = true := by
      rw [List.pairwise_map]
      exact h.imp fun {a b} q => leD_ky.mpr fun g => arLt_irr _ (arLt_trans q g)
    have pm : (as.map kyD).Perm ys := (List.perm_ext_iff_of_nodup nd hn).mpr fun g => (hm g).symm
    have eq : as.map kyD = ys := by
      -- on keys the order has one answer
      have key : ∀ {xs zs : List D}, xs.Perm zs → (∀ d ∈ xs, ∃ a, d = kyD a) → xs.Pairwise (fun d e => leD d e = true) → zs.Pairwise (fun d e => leD d e = true) → xs = zs := fun p hk h1 h2 =>
        perm_eq (R := fun d e => leD d e = true ∧ (∃ a, d = kyD a) ∧ ∃ a, e = kyD a) (fun d e ⟨q1, ⟨a, ha⟩, b, hb⟩ ⟨q2, _⟩ => by
          subst ha hb
          apply Classical.byContradiction
          intro ne
          have g1 := leD_ky.mp q1
          have g2 := leD_ky.mp q2
          exact g2 (arLt_tri ne g1)) p (h1.imp_of_mem fun ha hb q => ⟨q, hk _ ha, hk _ hb⟩) (h2.imp_of_mem fun ha hb q => ⟨q, hk _ (p.mem_iff.mpr ha), hk _ (p.mem_iff.mpr hb)⟩)
      exact key pm (fun d hd => by obtain ⟨a, _, rfl⟩ := List.mem_map.mp hd; exact ⟨a, rfl⟩) pw hs
    rw [← eq]
    exact nks_self (ky_nks as)
/-! ### expressions that give one value and change nothing -/
def Ev (t : DE) (env : DEnv) (M : Mp) (d : D) : Prop := ∀ K : DK, K d M → t env M K
theorem Ev.chain {ta tb tc : DE} {env : DEnv} {M : Mp} {i j k : Int} (ha : Ev ta env M (.int i)) (hb : Ev tb env M (.int j)) (hc : Ev tc env M (.int k)) : Ev (dChain rLeI rLeI ta tb tc) env M (.bl (decide (i ≤ j) && decide (j ≤ k))) := fun K q => by
  refine ha _ (hb _ ?_)
  walk_at "w"
  refine brn_by (fun h => ?_) fun h => ?_
  · have h' : decide (i ≤ j) = true := h
    rw [h', Bool.true_and] at q
    exact hc _ q
  · have h' : decide (i ≤ j) = false := h
    rw [h', Bool.false_and] at q
    exact q
theorem Ev.and {ta tb : DE} {env : DEnv} {M : Mp} {b c : Bool} (ha : Ev ta env M (.bl b)) (hb : b = true → Ev tb env M (.bl c)) : Ev (dAndV ta tb) env M (.bl (b && c)) := fun K q => by
  refine ha _ ?_
  walk_at "w"
  refine brn_by (fun h => ?_) fun h => ?_
  · have h' : b = true := h
    rw [h', Bool.true_and] at q
    exact hb h' _ q
  · have h' : b = false := h
    rw [h', Bool.false_and] at q
    show K (.bl b) M
    rw [h']; exact q
theorem Ev.c {d : D} {env : DEnv} {M : Mp} : Ev (dC d) env M d := fun K q => q
/-! ### judges of arrows and writers -/
def arB (a : Ar) : Bool := (decide (0 ≤ a.at_) && decide (a.at_ ≤ 2)) && (isSign a.sg && (decide (0 ≤ a.to) && decide (a.to ≤ 2)))
def sp_is_arrow : SpD := fun ds M Q _ => ∃ a, ds = [arD a] ∧ Q (.bl (arB a)) M
def t_is_arrow : DS := (dSeq (dAsg (dVar 0) (.tup [(.name 1), (.name 2), (.name 3)]))
    (dRet (dAndV (dChain rLeI rLeI (dC (.int 0)) (dVar 1) (dC (.int 2))) (dAndV (dCall sp_is_sign (dCons (dVar 2) dNil)) (dChain rLeI rLeI (dC (.int 0)) (dVar 3) (dC (.int 2)))))))
theorem r_is_arrow (ds : List D) (M : Mp) (Q : DK) (E : DX) (hl : ds.length = 1) (h : sp_is_arrow ds M Q E) : t_is_arrow { nx := fun _ M' => Q .non M', rt := Q } (startD ["arrow", "place", "sign", "to"] ds) M := by
  obtain ⟨a, rfl, q⟩ := h
  show dAndV (dChain rLeI rLeI (dC (.int 0)) (dVar 1) (dC (.int 2))) (dAndV (dCall sp_is_sign (dCons (dVar 2) dNil)) (dChain rLeI rLeI (dC (.int 0)) (dVar 3) (dC (.int 2)))) [some (arD a), some (.int a.at_), some (.str a.sg), some (.int a.to)] M Q
  refine Ev.and (b := decide (0 ≤ a.at_) && decide (a.at_ ≤ 2)) (Ev.chain .c (fun K q => q) .c) (fun _ => Ev.and (b := isSign a.sg) (c := decide (0 ≤ a.to) && decide (a.to ≤ 2)) (fun K q => ?_) fun _ => by exact Ev.chain .c (fun K q => q) .c) _ q
  exact ⟨a.sg, rfl, q⟩
/-- a writer's parts, of whatever kind -/
def isWr (nm : Str) (as : List Ar) (p c : Int) : Bool := isName nm && (decide (as.length ≤ 9) && (as.all arB && (decide (as.Pairwise arLt) && ((decide (0 ≤ p) && decide (p ≤ 3)) && (decide (0 ≤ c) && decide (c ≤ 3))))))
def thD (nm : Str) (as : List Ar) (is : List Int) : List D := .str nm :: .tup (as.map arD) :: is.map D.int
def sp_is_writer : SpD := fun ds M Q _ => ∃ ts : List D, ds = [.tup ts] ∧ ((ts.length ≠ 4 ∧ Q (.bl false) M) ∨ ∃ nm as p c, ts = thD nm as [p, c] ∧ as.length ≤ 1000 ∧ Q (.bl (isWr nm as p c)) M)
def t_is_writer_1 : DS := (dSeq (dSet 1 (dLc (iTpl (dVar 3)) (.name 6) dYes (dSl (dVar 6) dNoPart (dPart (dC (.int 2)))) [6]))
    (dRet (dAndV (dBin (rEqDD id) (dVar 1) (dUn rSortSet (dVar 1))) (dAndV (dChain rLeI rLeI (dC (.int 0)) (dVar 4) (dC (.int 3))) (dChain rLeI rLeI (dC (.int 0)) (dVar 5) (dC (.int 3)))))))
def t_is_writer_2 : DS := (dSeq (dAsg (dVar 0) (.tup [(.name 2), (.name 3), (.name 4), (.name 5)]))
    (dSeq (dIfS (dOr (dNot (dTru (dCall sp_is_name (dCons (dVar 2) dNil)))) (dOr (dTest (dBin rGtI (dUn rLenD (dVar 3)) (dC (.int 9)))) (dNot (dTru (dUn rAllD (dLc (iTpl (dVar 3)) (.name 6) dYes (dCall sp_is_arrow (dCons (dVar 6) dNil)) [6])))))) (dRet (dC (.bl false))) dNext)
    t_is_writer_1))
def t_is_writer : DS := (dSeq (dIfS (dTest (dBin (rEqDD not) (dUn rLenD (dVar 0)) (dC (.int 4)))) (dRet (dC (.bl false))) dNext)
    t_is_writer_2)
theorem cut_two {x y z : D} : cut [x, y, z] none (some 2) = [x, y] := rfl
theorem r_is_writer_1 (nm : Str) (as : List Ar) (p c : Int) (M : Mp) (Q : DK) (nx : DEnv → Mp → Prop) (e0 e1 e6 : Option D) (h9 : as.length ≤ 9)
    (q : Q (.bl (decide (as.Pairwise arLt) && ((decide (0 ≤ p) && decide (p ≤ 3)) && (decide (0 ≤ c) && decide (c ≤ 3))))) M) :
    t_is_writer_1 { nx := nx, rt := Q } [e0, e1, some (.str nm), some (.tup (as.map arD)), some (.int p), some (.int c), e6] M := by
  walk_at "w"
  refine lc_map (fun d => match d with
    | .tup (x :: y :: _) => .tup [x, y]
    | _ => .non) (fun x hx K1 K2 h1 => ?_) ?_
  · obtain ⟨a, _, rfl⟩ := List.mem_map.mp hx
    exact h1
  · have e : (as.map arD).map (fun d => match d with
        | .tup (x :: y :: _) => D.tup [x, y]
        | _ => .non) = as.map kyD := by rw [List.map_map]; rfl
    rw [e]
    show dAndV (dBin (rEqDD id) (dVar 1) (dUn rSortSet (dVar 1))) (dAndV (dChain rLeI rLeI (dC (.int 0)) (dVar 4) (dC (.int 3))) (dChain rLeI rLeI (dC (.int 0)) (dVar 5) (dC (.int 3)))) [e0, some (.lst (as.map kyD)), some (.str nm), some (.tup (as.map arD)), some (.int p), some (.int c), e6] M Q
    refine Ev.and (b := decide (as.Pairwise arLt)) (fun K qk => ?_) (fun _ => by exact Ev.and (Ev.chain .c (fun K q => q) .c) fun _ => by exact Ev.chain .c (fun K q => q) .c) _ q
    walk_at "w"
    refine ⟨⟨fun g hg => ?_, by rw [List.length_map]; omega, ?_⟩, fun ys h1 h2 h3 => ?_⟩
    · obtain ⟨a, _, rfl⟩ := List.mem_map.mp hg; rfl
    · refine ⟨?_, ?_⟩
      · rw [List.map_map]; exact PySem.W.AllAlike.of fun b b' => by simp [kyD, D.py, D.pys, PySem.W.alike, PySem.W.alikeAll]
      · rw [List.map_map]; exact PySem.W.Sortable.tuples fun b => ⟨_, _, rfl⟩
    · walk_at "w"
      refine ⟨⟨?_, ?_⟩, ?_⟩
      · show D.les 59 (as.map kyD) = true
        exact les_of fun d hd => by obtain ⟨a, _, rfl⟩ := List.mem_map.mp hd; rfl
      · show D.les 59 ys = true
        exact les_of fun d hd => by obtain ⟨a, _, rfl⟩ := List.mem_map.mp ((h2 d).mp hd); rfl
      · show K (.bl (eqD (.lst (as.map kyD)) (.lst ys))) M
        rw [keys_rise h1 h2 h3]
        exact qk
theorem all_arB (as : List Ar) : ((as.map arD).map fun d => match d with
    | .tup [.int a, .str s, .int t] => D.bl (arB ⟨a, s, t⟩)
    | _ => .non) = (as.map arB).map D.bl := by
  rw [List.map_map, List.map_map]
  rfl
theorem r_is_writer_2 (nm : Str) (as : List Ar) (p c : Int) (M : Mp) (Q : DK) (nx : DEnv → Mp → Prop) (e1 e2 e3 e4 e5 e6 : Option D) (h1000 : as.length ≤ 1000) (q : Q (.bl (isWr nm as p c)) M) :
    t_is_writer_2 { nx := nx, rt := Q } [some (.tup (thD nm as [p, c])), e1, e2, e3, e4, e5, e6] M := by
  unfold isWr at q
  walk_at "w"
  refine ⟨nm, rfl, ?_⟩
  walk_at "w"
  refine brn_by (fun h => ?_) fun h => ?_
  · have h' : isName nm = false := by
      have : (!isName nm) = true := h
      simpa using this
    rw [h', Bool.false_and] at q
    exact q
  · have h' : isName nm = true := by
      have : (!isName nm) = false := h
      simpa using this
    rw [h', Bool.true_and] at q
    walk_at "w"
    refine brn_by (fun g => ?_) fun g => ?_
    · have g' : decide (as.length ≤ 9) = false := by
        have := of_decide_eq_true g
        rw [List.length_map] at this
        exact decide_eq_false (by omega)
      rw [g', Bool.false_and] at q
      exact q
    · have g9 : as.length ≤ 9 := by
        have := of_decide_eq_false g
        rw [List.length_map] at this
        omega
      rw [decide_eq_true g9, Bool.true_and] at q
      walk_at "w"
      refine lc_map (fun d => match d with
        | .tup [.int a, .str s, .int t] => D.bl (arB ⟨a, s, t⟩)
        | _ => .non) (fun x hx K1 K2 h1 => ?_) ?_
      · obtain ⟨a, _, rfl⟩ := List.mem_map.mp hx
        exact ⟨a, rfl, h1⟩
      · rw [all_arB]
        walk_at "w"
        rw [asBls_map]
        walk_at "w"
        have ea : (as.map arB).all id = as.all arB := by rw [List.all_map]; rfl
        refine brn_by (fun k => ?_) fun k => ?_
        · have k' : as.all arB = false := by
            have : (!((as.map arB).all id)) = true := k
            rw [ea] at this
            simpa using this
          rw [k', Bool.false_and] at q
          exact q
        · have k' : as.all arB = true := by
            have : (!((as.map arB).all id)) = false := k
            rw [ea] at this
            simpa using this
          rw [k', Bool.true_and] at q
          exact r_is_writer_1 nm as p c M Q _ _ _ _ g9 q
theorem r_is_writer (ds : List D) (M : Mp) (Q : DK) (E : DX) (hl : ds.length = 1) (h : sp_is_writer ds M Q E) : t_is_writer { nx := fun _ M' => Q .non M', rt := Q } (startD ["thing", "keys", "name", "arrows", "patience", "cap", "arrow"] ds) M := by
  obtain ⟨ts, rfl, h⟩ := h
  walk_at "w"
  refine ⟨⟨rfl, rfl⟩, ?_⟩
  walk_at "w"
  refine brn_by (fun g => ?_) fun g => ?_
  · rcases h with ⟨_, q⟩ | ⟨nm, as, p, c, rfl, _, _⟩
    · exact q
    · cases g
  · rcases h with ⟨hn, q⟩ | ⟨nm, as, p, c, rfl, h9, q⟩
    · have g' : (!((ts.length : Int) == 4)) = false := g
      have : (ts.length : Int) = 4 := by simpa using g'
      omega
    · exact r_is_writer_2 nm as p c M Q _ _ _ _ _ _ _ h9 q
/-! ### the law's own judge of writers -/
def sp_law_is_writer : SpD := sp_is_writer
def t_law_is_writer_1 : DS := (dSeq (dSet 1 (dLc (iTpl (dBin rIxD (dVar 0) (dC (.int 1)))) (.name 7) dYes (dSl (dVar 7) dNoPart (dPart (dC (.int 2)))) [7]))
    (dSeq (dSet 2 (dUn rAllD (dLc (iRange1 (dCons (dBin rSubI (dUn rLenD (dVar 1)) (dC (.int 1))) dNil)) (.name 8) dYes (dBin rLtD (dBin rIxD (dVar 1) (dVar 8)) (dBin rIxD (dVar 1) (dBin rAddD (dVar 8) (dC (.int 1))))) [8])))
    (dRet (dAndV (dVar 2) (dAndV (dChain rLeI rLeI (dC (.int 0)) (dBin rIxD (dVar 0) (dC (.int 2))) (dC (.int 3))) (dChain rLeI rLeI (dC (.int 0)) (dBin rIxD (dVar 0) (dC (.int 3))) (dC (.int 3))))))))
def t_law_is_writer_2 : DS := (dSeq (dFor (iTpl (dBin rIxD (dVar 0) (dC (.int 1)))) (.tup [(.name 3), (.name 4), (.name 5)]) (dSeq (dSet 6 (dAndV (dChain rLeI rLeI (dC (.int 0)) (dVar 3) (dC (.int 2))) (dAndV (dChain rLeI rLeI (dC (.int 0)) (dVar 5) (dC (.int 2))) (dBin (rEqDD id) (dUn rLenD (dVar 4)) (dC (.int 1))))))
    (dIfS (dOr (dNot (dTru (dVar 6))) (dNot (dTru (dCall sp_law_is_name (dCons (dVar 4) dNil))))) (dRet (dC (.bl false))) dNext)))
    t_law_is_writer_1)
def t_law_is_writer : DS := (dSeq (dIfS (dOr (dTest (dBin (rEqDD not) (dUn rLenD (dVar 0)) (dC (.int 4)))) (dOr (dNot (dTru (dCall sp_law_is_name (dCons (dBin rIxD (dVar 0) (dC (.int 0))) dNil)))) (dTest (dBin rGtI (dUn rLenD (dBin rIxD (dVar 0) (dC (.int 1)))) (dC (.int 9)))))) (dRet (dC (.bl false))) dNext)
    t_law_is_writer_2)
theorem dataLt_ky {a b : Ar} : PySem.W.dataLt (kyD a).py (kyD b).py = decide (arLt a b) := by
  have h := leD_ky (a := b) (b := a)
  have e : leD (kyD b) (kyD a) = !PySem.W.dataLt (kyD a).py (kyD b).py := rfl
  rw [e] at h
  cases hd : PySem.W.dataLt (kyD a).py (kyD b).py with
  | true =>
    rw [hd] at h
    refine (decide_eq_true ?_).symm
    apply Classical.byContradiction
    intro n
    exact absurd (h.mpr n) (by decide)
  | false =>
    rw [hd] at h
    exact (decide_eq_false (h.mp rfl)).symm
/-- each before the next: all in order -/
theorem steps_rise : ∀ (as : List Ar), (∀ k, ∀ a b, as[k]? = some a → as[k + 1]? = some b → arLt a b) ↔ as.Pairwise arLt
  | [] => by simp
  | [a] => by simp
  | a :: b :: as => by
    rw [List.pairwise_cons, ← steps_rise (b :: as)]
    constructor
    · intro h
      have h2 : ∀ k, ∀ x y, (b :: as)[k]? = some x → (b :: as)[k + 1]? = some y → arLt x y := fun k x y h1 h2 => h (k + 1) x y (by simpa using h1) (by simpa using h2)
      have hab : arLt a b := h 0 a b rfl rfl
      refine ⟨fun c hc => ?_, h2⟩
      rcases List.mem_cons.mp hc with rfl | hc
      · exact hab
      · exact arLt_trans hab ((List.pairwise_cons.mp ((steps_rise (b :: as)).mp h2)).1 c hc)
    · rintro ⟨h1, h2⟩ k x y hx hy
      cases k with
      | zero =>
        cases hx
        exact h1 y (List.mem_of_getElem? hy)
      | succ k => exact h2 k x y (by simpa using hx) (by simpa using hy)
def stepB (as : List Ar) (k : Nat) : Bool := match as[k]?, as[k + 1]? with
  | some a, some b => decide (arLt a b)
  | _, _ => true
theorem steps_all (as : List Ar) : ((List.range (as.length - 1)).map (stepB as)).all id = decide (as.Pairwise arLt) := by
  rw [Bool.eq_iff_iff, decide_eq_true_eq, ← steps_rise, List.all_map, List.all_eq_true]
  constructor
  · intro h k a b ha hb
    have hk := (List.getElem?_eq_some_iff.mp hb).1
    have := h k (List.mem_range.mpr (by omega))
    simp only [Function.comp, stepB, ha, hb, id] at this
    exact of_decide_eq_true this
  · intro h k hk
    have hk := List.mem_range.mp hk
    have h1 : k < as.length := by omega
    have h2 : k + 1 < as.length := by omega
    simp only [Function.comp, stepB, List.getElem?_eq_getElem h1, List.getElem?_eq_getElem h2, id]
    exact decide_eq_true (h k _ _ (List.getElem?_eq_getElem h1) (List.getElem?_eq_getElem h2))
theorem Ev.ixT {t : DE} {env : DEnv} {M : Mp} {ds : List D} {i : Int} {d : D} (h : Ev t env M (.tup ds)) (hi : atI ds i = some d) : Ev (dBin rIxD t (dC (.int i))) env M d := fun K q => by
  refine h _ ?_
  walk_at "w"
  rw [hi]
  exact q
theorem r_law_is_writer_1 (nm : Str) (as : List Ar) (p c : Int) (M : Mp) (Q : DK) (nx : DEnv → Mp → Prop) (e1 e2 e3 e4 e5 e6 e7 e8 : Option D) (h9 : as.length ≤ 9)
    (q : Q (.bl (decide (as.Pairwise arLt) && ((decide (0 ≤ p) && decide (p ≤ 3)) && (decide (0 ≤ c) && decide (c ≤ 3))))) M) :
    t_law_is_writer_1 { nx := nx, rt := Q } [some (.tup (thD nm as [p, c])), e1, e2, e3, e4, e5, e6, e7, e8] M := by
  walk_at "w"
  refine lc_map (fun d => match d with
    | .tup (x :: y :: _) => .tup [x, y]
    | _ => .non) (fun x hx K1 K2 h1 => ?_) ?_
  · obtain ⟨a, _, rfl⟩ := List.mem_map.mp hx
    exact h1
  · have e : (as.map arD).map (fun d => match d with
        | .tup (x :: y :: _) => D.tup [x, y]
        | _ => .non) = as.map kyD := by rw [List.map_map]; rfl
    rw [e]
    walk_at "w"
    rw [List.length_map]
    refine ⟨⟨by omega, by omega⟩, ?_⟩
    have en : ((as.length : Int) - 1).toNat = as.length - 1 := by omega
    rw [en]
    walk_at "w"
    refine lc_map (fun d => match d with
      | .int k => .bl (stepB as k.toNat)
      | _ => .non) (fun x hx K1 K2 h1 => ?_) ?_
    · obtain ⟨k, hk⟩ := List.getElem?_of_mem hx
      obtain ⟨hlt, rfl⟩ := rng_at hk
      have k1 : k < as.length := by omega
      have k2 : k + 1 < as.length := by omega
      have a1 : atI (as.map kyD) (0 + (k : Int)) = some (kyD as[k]) := by
        rw [Int.zero_add]
        exact atI_of (by rw [List.getElem?_map, List.getElem?_eq_getElem k1]; rfl)
      have a2 : atI (as.map kyD) (0 + (k : Int) + 1) = some (kyD as[k + 1]) := by
        rw [Int.zero_add, show (k : Int) + 1 = ((k + 1 : Nat) : Int) by omega]
        exact atI_of (by rw [List.getElem?_map, List.getElem?_eq_getElem k2]; rfl)
      walk_at "w"
      rw [a1]
      walk_at "w"
      rw [a2]
      walk_at "w"
      refine ⟨⟨rfl, rfl, by simp [kyD, D.py, D.pys, PySem.W.alike, PySem.W.alikeAll], by simp [kyD, D.py]⟩, ?_⟩
      have hs : stepB as (0 + (k : Int)).toNat = PySem.W.dataLt (kyD as[k]).py (kyD as[k + 1]).py := by
        rw [dataLt_ky, show (0 + (k : Int)).toNat = k by omega]
        simp only [stepB, List.getElem?_eq_getElem k1, List.getElem?_eq_getElem k2]
      have h1' : K1 (.bl (stepB as (0 + (k : Int)).toNat)) M := h1
      rw [hs] at h1'
      exact h1'
    · have em : (rng 0 (as.length - 1)).map (fun d => match d with
          | .int k => D.bl (stepB as k.toNat)
          | _ => .non) = ((List.range (as.length - 1)).map (stepB as)).map D.bl := by
        unfold rng
        rw [List.map_map, List.map_map]
        refine List.map_congr_left fun k _ => ?_
        show D.bl (stepB as (0 + (k : Int)).toNat) = D.bl (stepB as k)
        rw [show (0 + (k : Int)).toNat = k by omega]
      rw [em]
      walk_at "w"
      rw [asBls_map]
      show dAndV (dVar 2) (dAndV (dChain rLeI rLeI (dC (.int 0)) (dBin rIxD (dVar 0) (dC (.int 2))) (dC (.int 3))) (dChain rLeI rLeI (dC (.int 0)) (dBin rIxD (dVar 0) (dC (.int 3))) (dC (.int 3)))) [some (.tup (thD nm as [p, c])), some (.lst (as.map kyD)), some (.bl (((List.range (as.length - 1)).map (stepB as)).all id)), e3, e4, e5, e6, e7, e8] M Q
      rw [steps_all]
      exact Ev.and (b := decide (as.Pairwise arLt)) (fun K q => q) (fun _ => by exact Ev.and (Ev.chain .c (Ev.ixT (ds := thD nm as [p, c]) (fun K q => q) atI_2) .c) fun _ => by exact Ev.chain .c (Ev.ixT (ds := thD nm as [p, c]) (fun K q => q) atI_3) .c) _ q
end L3
set_option Elab.async false
set_option linter.all false
set_option maxRecDepth 100000
set_option maxHeartbeats 1000000
/-! Readings of shared helpers, fourth part: companies drawn and made, arrows at a place, stands. -/
namespace L3
open PySem PySem.Spec PyProof.Rows L2
local macro_rules | `(tactic| walk_at "w") => `(tactic| conv => whnf)
/-! ### companies -/
theorem isWr_ok {w : Wr} (h : WrOk w) : isWr w.name w.ar w.pat w.cap = true := by
  have h1 : w.ar.all arB = true := by
    rw [List.all_eq_true]
    intro a ha
    have := h.ar a ha
    obtain ⟨c, hc, hl⟩ := this.sg
    unfold arB
    have hs : isSign a.sg = true := by rw [hc, isSign_one]; exact hl
    simp [this.at0, this.at1, hs, this.to0, this.to1]
  unfold isWr
  simp only [h.name, h.few, h1, h.up, h.pat0, h.pat1, h.cap0, h.cap1, decide_true, Bool.and_self]
structure CrewOk (ws : List Wr) : Prop where
  ok : ∀ w ∈ ws, WrOk w
  nd : (ws.map (·.name)).Nodup
  few : ws.length ≤ 3
def sp_law_company : SpD := fun ds M Q _ => ∃ p b n cs, ds = [.ref p, .int n, .lst (cs.map sgn)] ∧ M p = some (.lst (Bag.l b)) ∧ b.Ok ∧ 0 < n ∧ n ≤ 3 ∧ SgOk cs ∧
  ∀ ws b', Bag.Ok b' → CrewOk ws → 0 < ws.length → (ws.length : Int) ≤ n → Q (.lst (ws.map wrD)) (mupd M p (.lst b'.l))
def t_law_company_1 : DS := (dFrzN 5 (dRet (dVar 5)))
def t_law_company : DS := (dSeq (dPar 4 5 (dCons (dCall sp_law_of (dCons (dVar 0) (dCons (dLst (dCons (dC (.int 3)) (dCons (dC (.int 5)) (dCons (dC (.int 7)) (dCons (dC (.int 8)) dNil))))) dNil))) (dCons (dLstM dNil) dNil)))
    (dSeq (dFor (iLst (dCall sp_law_names (dCons (dVar 0) (dCons (dBin rAddD (dC (.int 1)) (dCall sp_law_pull (dCons (dVar 0) (dCons (dVar 1) dNil)))) dNil)))) (.name 3) (dDrop (dAppend (dVar 5) (dCall sp_law_writer (dCons (dVar 0) (dCons (dVar 3) (dCons (dBin rAddD (dC (.int 1)) (dCall sp_law_pull (dCons (dVar 0) (dCons (dC (.int 3)) dNil)))) (dCons (dVar 2) (dCons (dVar 4) dNil)))))))))
    t_law_company_1))
theorem r_law_company (ds : List D) (M : Mp) (Q : DK) (E : DX) (hl : ds.length = 3) (h : sp_law_company ds M Q E) : t_law_company { nx := fun _ M' => Q .non M', rt := Q } (startD ["_law_bag_here", "_law_limit", "_law_signs_here", "_law_name", "_law_thick", "_law_found"] ds) M := by
  obtain ⟨p, b, n, cs, rfl, hM, hb, h0, h1, hcs, q⟩ := h
  walk_at "w"
  refine ⟨p, b, .lst [.int 3, .int 5, .int 7, .int 8], [.int 3, .int 5, .int 7, .int 8], rfl, hM, hb, by decide, by decide, .inl ⟨rfl, fun e => by cases e⟩, fun y b1 hb1 hy => ?_⟩
  obtain ⟨th, rfl⟩ : ∃ th : Int, y = .int th := by
    simp only [List.mem_cons, List.not_mem_nil, or_false] at hy
    rcases hy with rfl | rfl | rfl | rfl <;> exact ⟨_, rfl⟩
  walk_at "w"
  intro qa hqa
  have hpq : qa ≠ p := fun e => by rw [e, mupd_same] at hqa; cases hqa
  rw [mupd_ne hpq] at hqa
  walk_at "w"
  refine ⟨p, b1, n, rfl, by rw [mupd_ne (Ne.symm hpq), mupd_same], hb1, h0, by omega, fun r b2 hb2 r0 r1 => ?_⟩
  rw [mupd_comm hpq, mupd_mupd]
  walk_at "w"
  refine ⟨p, b2, 1 + r, rfl, by rw [mupd_ne (Ne.symm hpq), mupd_same], hb2, by omega, by omega, fun xs b3 hb3 hxl hxn hxd => ?_⟩
  rw [mupd_comm hpq, mupd_mupd]
  walk_at "w"
  refine for_inv (fun i env M' => ∃ s3 b', ∃ ws : List Wr, env = [some (.ref p), some (.int n), some (.lst (cs.map sgn)), s3, some (.int th), some (.ref qa)] ∧ Bag.Ok b' ∧ M' = mupd (mupd M p (.lst b'.l)) qa (.lst (ws.map wrD)) ∧ ws.map (·.name) = xs.take i ∧ ∀ w ∈ ws, WrOk w)
    ⟨none, b3, [], rfl, hb3, rfl, by simp, by simp⟩ (fun i x env M' K hx ⟨s3, b4, ws, e1, hb4, e2, e3, e4⟩ hK => ?_) fun env M' ⟨s3, b4, ws, e1, hb4, e2, e3, e4⟩ => ?_
  · subst e1 e2
    rw [List.getElem?_map] at hx
    obtain ⟨nm, hnm, rfl⟩ := Option.map_eq_some_iff.mp hx
    have hi : i < xs.length := (List.getElem?_eq_some_iff.mp hnm).1
    have hwl : ws.length = i := by have := congrArg List.length e3; rw [List.length_map, List.length_take] at this; omega
    walk_at "w"
    refine ⟨?_, ?_⟩
    · walk_at "w"
      rw [mupd_same]
      trivial
    walk_at "w"
    refine ⟨p, b4, 3, rfl, by rw [mupd_ne (Ne.symm hpq), mupd_same], hb4, by decide, by decide, fun r3 b5 hb5 r30 r31 => ?_⟩
    rw [mupd_comm hpq, mupd_mupd]
    walk_at "w"
    refine ⟨p, b5, nm, 1 + r3, cs, th, rfl, by rw [mupd_ne (Ne.symm hpq), mupd_same], hb5, by omega, by omega, hcs, fun w b6 hb6 hw => ?_⟩
    rw [mupd_comm hpq, mupd_mupd]
    walk_at "w"
    rw [mupd_same]
    refine ⟨by rw [List.length_map, sizeLine_eq]; omega, ?_⟩
    refine hK _ _ ⟨_, b6, ws ++ [w], rfl, hb6, by rw [mupd_mupd, List.map_append]; rfl, ?_, fun z hz => ?_⟩
    · rw [List.map_append, e3, List.take_add_one, hnm, List.map_cons, List.map_nil, hw.name]; rfl
    · rcases List.mem_append.mp hz with hz | hz
      · exact e4 z hz
      · rw [List.mem_singleton.mp hz]
        exact hw.ok (hxn nm (List.mem_of_getElem? hnm)) (by omega) hcs
  · subst e1 e2
    rw [List.length_map, List.take_length] at e3
    walk_at "w"
    rw [mupd_same]
    walk_at "w"
    rw [mdel_mupd (by rw [mupd_ne hpq]; exact hqa)]
    have hlen : ws.length = xs.length := by rw [← e3, List.length_map]
    exact q ws b4 hb4 ⟨e4, by rw [e3]; exact hxd, by omega⟩ (by omega) (by omega)
/-! ### a company made -/
abbrev CCompany : Cl := ⟨"Company", ["crew"]⟩
def coD (ws : List Wr) : D := .obj CCompany [.tup (ws.map wrD)]
def IsRow (d : D) (xs : List D) : Prop := d = .lst xs ∨ d = .tup xs
theorem IsRow.seq {d : D} {xs : List D} (h : IsRow d xs) : seqOf d = some xs := by rcases h with rfl | rfl <;> rfl
theorem IsRow.res {d : D} {xs : List D} {M : Mp} (h : IsRow d xs) : resD M d = d := by rcases h with rfl | rfl <;> rfl
def sp_need_writers : SpD := fun ds M Q _ => ∃ d ws, ds = [d] ∧ IsRow d (ws.map wrD) ∧ CrewOk ws ∧ Q .non M
def t_need_writers_1 : DS := (dIfS (dTest (dBin rGtI (dUn rLenD (dVar 1)) (dC (.int 3)))) dNever dNext)
def t_need_writers_2 : DS := (dSeq (dSet 1 (dLc (iSeq (dVar 0)) (.name 3) dYes (dBin rIxD (dVar 3) (dC (.int 0))) [3]))
    (dSeq (dFor (iEnumA (dCons (dVar 1) dNil)) (.tup [(.name 2), (.name 4)]) (dIfS (dTest (dBin (rInDD id) (dVar 4) (dSl (dVar 1) dNoPart (dPart (dVar 2))))) dNever dNext))
    t_need_writers_1))
def t_need_writers : DS := (dSeq (dFor (iEnumA (dCons (dVar 0) dNil)) (.tup [(.name 2), (.name 3)]) (dIfS (dNot (dTru (dCall sp_is_writer (dCons (dVar 3) dNil)))) dNever dNext))
    t_need_writers_2)
theorem r_need_writers_2 (d : D) (ws : List Wr) (hd : IsRow d (ws.map wrD)) (hw : CrewOk ws) (M : Mp) (Q : DK) (e2 e3 : Option D) (q : Q .non M) :
    t_need_writers_2 { nx := fun _ M' => Q .non M', rt := Q } [some d, none, e2, e3, none] M := by
  walk_at "w"
  rw [show seqOf d = some (ws.map wrD) from hd.seq]
  walk_at "w"
  refine lc_map (fun x => match x with
    | .tup (z :: _) => z
    | _ => .non) (fun x hx K1 K2 h1 => ?_) ?_
  · obtain ⟨w, _, rfl⟩ := List.mem_map.mp hx
    exact h1
  · have e : (ws.map wrD).map (fun x => match x with
        | .tup (z :: _) => z
        | _ => D.non) = (ws.map (·.name)).map D.str := by rw [List.map_map, List.map_map]; rfl
    rw [e]
    walk_at "w"
    refine for_inv (fun i env M' => M' = M ∧ ∃ s2 s4, env = [some d, some (.lst ((ws.map (·.name)).map D.str)), s2, e3, s4]) ⟨rfl, _, _, rfl⟩ (fun i x env M' K hx ⟨eM, s2, s4, e1⟩ hK => ?_) fun env M' ⟨eM, s2, s4, e1⟩ => ?_
    · subst eM e1
      obtain ⟨g, hg, rfl⟩ := pairs_at hx
      rw [List.getElem?_map] at hg
      obtain ⟨nm, hnm, rfl⟩ := Option.map_eq_some_iff.mp hg
      have hi : i < (ws.map (·.name)).length := (List.getElem?_eq_some_iff.mp hnm).1
      walk_at "w"
      rw [show cut ((ws.map (·.name)).map D.str) none (some (i : Int)) = ((ws.map (·.name)).take i).map D.str by
        rw [cut_map]; unfold cut; rw [HT.sIx_none, HT.sIx_nat, List.drop_zero, Nat.sub_zero, Nat.min_eq_left (by omega)]]
      refine ⟨⟨rfl, les_flat fun g hg => by obtain ⟨x, _, rfl⟩ := List.mem_map.mp hg; rfl⟩, ?_⟩
      have hno : (((ws.map (·.name)).take i).map D.str).any (fun z => eqD z (.str nm)) = false := by
        rw [List.any_eq_false]
        intro z hz
        obtain ⟨y, hy, rfl⟩ := List.mem_map.mp hz
        rw [eqD_str]
        intro e
        have e := eq_of_beq e
        subst e
        obtain ⟨j, hj⟩ := List.getElem?_of_mem hy
        have hji : j < i := by have := (List.getElem?_eq_some_iff.mp hj).1; rw [List.length_take] at this; omega
        rw [List.getElem?_take, if_pos hji] at hj
        have := (List.nodup_iff_pairwise_ne.mp hw.nd)
        rw [List.pairwise_iff_getElem] at this
        obtain ⟨hj1, hj2⟩ := List.getElem?_eq_some_iff.mp hj
        obtain ⟨hi1, hi2⟩ := List.getElem?_eq_some_iff.mp hnm
        exact this j i hj1 hi1 hji (hj2.trans hi2.symm)
      rw [hno]
      exact hK _ _ ⟨rfl, _, _, rfl⟩
    · subst eM e1
      walk_at "w"
      refine brn_by (fun hc => ?_) fun hc => q
      have := of_decide_eq_true hc
      rw [List.length_map, List.length_map] at this
      have := hw.few
      omega
theorem r_need_writers (ds : List D) (M : Mp) (Q : DK) (E : DX) (hl : ds.length = 1) (h : sp_need_writers ds M Q E) : t_need_writers { nx := fun _ M' => Q .non M', rt := Q } (startD ["writers", "names", "at", "writer", "name"] ds) M := by
  obtain ⟨d, ws, rfl, hd, hw, q⟩ := h
  walk_at "w"
  rw [show seqOf d = some (ws.map wrD) from hd.seq]
  walk_at "w"
  refine for_inv (fun i env M' => M' = M ∧ ∃ s2 s3, env = [some d, none, s2, s3, none]) ⟨rfl, _, _, rfl⟩ (fun i x env M' K hx ⟨eM, s2, s3, e1⟩ hK => ?_) fun env M' ⟨eM, s2, s3, e1⟩ => ?_
  · subst eM e1
    obtain ⟨g, hg, rfl⟩ := pairs_at hx
    rw [List.getElem?_map] at hg
    obtain ⟨w, hw', rfl⟩ := Option.map_eq_some_iff.mp hg
    have hok := hw.ok w (List.mem_of_getElem? hw')
    walk_at "w"
    refine ⟨_, rfl, .inr ⟨w.name, w.ar, w.pat, w.cap, rfl, Nat.le_trans hok.few (by decide), ?_⟩⟩
    rw [isWr_ok hok]
    exact hK _ _ ⟨rfl, _, _, rfl⟩
  · subst eM e1
    exact r_need_writers_2 d ws hd hw _ Q _ _ q
def sp_Company___init__ : SpD := fun ds M Q _ => ∃ p d ws, ds = [.ref p, d] ∧ IsRow d (ws.map wrD) ∧ CrewOk ws ∧ M p = some (.ins CCompany []) ∧ Q .non (mupd M p (.ins CCompany [.tup (ws.map wrD)]))
def t_Company___init__ : DS := (dSeq (dDrop (dCall sp_need_writers (dCons (dVar 1) dNil)))
    (dSetFld CCompany 0 (dUn rTupleD (dVar 1)) (dVar 0)))
theorem r_Company___init__ (ds : List D) (M : Mp) (Q : DK) (E : DX) (hl : ds.length = 2) (h : sp_Company___init__ ds M Q E) : t_Company___init__ { nx := fun _ M' => Q .non M', rt := Q } (startD ["self", "writers"] ds) M := by
  obtain ⟨p, d, ws, rfl, hd, hw, hM, q⟩ := h
  walk_at "w"
  refine ⟨d, ws, rfl, hd, hw, ?_⟩
  rcases hd with rfl | rfl
  all_goals
    walk_at "w"
    rw [hM]
    exact ⟨⟨rfl, Nat.le_refl _⟩, q⟩
end L3
set_option Elab.async false
set_option linter.all false
set_option maxRecDepth 100000
set_option maxHeartbeats 1000000
/-! Readings of shared helpers, fifth part: stands and steps. -/
namespace L3
open PySem PySem.Spec PyProof.Rows L2
local macro_rules | `(tactic| walk_at "w") => `(tactic| conv => whnf)
/-! ### arrows at a place -/
def arTo (w : Wr) (p : Int) : List Int := (arsAt w p).map Ar.to
def sp_arrows_at : SpD := fun ds M Q _ => ∃ w p, ds = [wrD w, .int p] ∧ w.ar.Pairwise arLt ∧ Q (.dct ((arsAt w p).map fun a => Sum.inr a.sg) ((arTo w p).map D.int)) M
def t_arrows_at : DS := (dRet (dDc (iTpl (dBin rIxD (dVar 0) (dC (.int 1)))) (.tup [(.name 2), (.name 3), (.name 4)]) (dTest (dBin (rEqDD id) (dVar 2) (dVar 1))) (dVar 3) (dVar 4) [2, 3, 4]))
def arP (p : Int) (x : D) : Bool := match x with
  | .tup [.int a, _, _] => a == p
  | _ => false
def arK (x : D) : L2.Key := match x with
  | .tup [_, .str s, _] => .inr s
  | _ => .inl 0
def arV (x : D) : D := match x with
  | .tup [_, _, z] => z
  | _ => .non
theorem ar_filter (w : Wr) (p : Int) : (w.ar.map arD).filter (arP p) = (arsAt w p).map arD := by
  unfold arsAt
  rw [List.filter_map]
  congr 1
theorem r_arrows_at (ds : List D) (M : Mp) (Q : DK) (E : DX) (hl : ds.length = 2) (h : sp_arrows_at ds M Q E) : t_arrows_at { nx := fun _ M' => Q .non M', rt := Q } (startD ["writer", "place", "at", "sign", "to"] ds) M := by
  obtain ⟨w, p, rfl, hw, q⟩ := h
  walk_at "w"
  refine dc_filter (arP p) arK arV ?_ (fun x hx K1 K2 h1 h2 => ?_) ?_
  · rw [ar_filter, List.map_map]
    exact sg_nodup hw p
  · obtain ⟨a, _, rfl⟩ := List.mem_map.mp hx
    walk_at "w"
    refine ⟨⟨rfl, rfl⟩, ?_⟩
    walk_at "w"
    refine brn_by (fun hc => ?_) fun hc => ?_
    · exact h1 hc
    · exact h2 hc
  · rw [ar_filter, List.map_map, List.map_map]
    have e : (arTo w p).map D.int = (arsAt w p).map (arV ∘ arD) := by unfold arTo; rw [List.map_map]; rfl
    rw [e] at q
    exact q
def doneAt (w : Wr) (p : Int) : Bool := (arsAt w p).isEmpty
def sp_is_done : SpD := fun ds M Q _ => ∃ w p, ds = [wrD w, .int p] ∧ w.ar.Pairwise arLt ∧ Q (.bl (doneAt w p)) M
def t_is_done : DS := (dRet (dBin (rEqKD id) (dCall sp_arrows_at (dCons (dVar 0) (dCons (dVar 1) dNil))) dDctF0))
theorem r_is_done (ds : List D) (M : Mp) (Q : DK) (E : DX) (hl : ds.length = 2) (h : sp_is_done ds M Q E) : t_is_done { nx := fun _ M' => Q .non M', rt := Q } (startD ["writer", "place"] ds) M := by
  obtain ⟨w, p, rfl, hw, q⟩ := h
  walk_at "w"
  refine ⟨w, p, rfl, hw, ?_⟩
  walk_at "w"
  refine ⟨⟨les_flat fun d hd => ?_, rfl⟩, ?_⟩
  · obtain ⟨c, _, rfl⟩ := List.mem_map.mp hd; rfl
  have e : eqTab ((arsAt w p).map fun a => (Sum.inr a.sg : L2.Key)) ((arTo w p).map D.int) [] [] = doneAt w p := by
    unfold eqTab doneAt arTo
    cases arsAt w p <;> rfl
  show Q (.bl (eqTab _ _ [] [])) M
  rw [e]; exact q
def atD (a : Ar) : D := .tup [.str a.sg, .int a.to]
def sp_law_arrows : SpD := fun ds M Q _ => ∃ w p, ds = [wrD w, .int p] ∧ Q (.lst ((arsAt w p).map atD)) M
def t_law_arrows : DS := (dRet (dLc (iTpl (dBin rIxD (dVar 0) (dC (.int 1)))) (.tup [(.name 2), (.name 3), (.name 4)]) (dTest (dBin (rEqDD id) (dVar 2) (dVar 1))) (dTup (dCons (dVar 3) (dCons (dVar 4) dNil))) [2, 3, 4]))
theorem r_law_arrows (ds : List D) (M : Mp) (Q : DK) (E : DX) (hl : ds.length = 2) (h : sp_law_arrows ds M Q E) : t_law_arrows { nx := fun _ M' => Q .non M', rt := Q } (startD ["_law_writer_here", "_law_place", "_law_at", "_law_sign", "_law_to"] ds) M := by
  obtain ⟨w, p, rfl, q⟩ := h
  walk_at "w"
  refine lc_filter (arP p) (fun x => match x with
    | .tup [_, s, z] => .tup [s, z]
    | _ => .non) (fun x hx K1 K2 h1 h2 => ?_) ?_
  · obtain ⟨a, _, rfl⟩ := List.mem_map.mp hx
    walk_at "w"
    refine ⟨⟨rfl, rfl⟩, ?_⟩
    walk_at "w"
    refine brn_by (fun hc => ?_) fun hc => ?_
    · exact h1 hc
    · exact h2 hc
  · rw [ar_filter, List.map_map]
    exact q
/-! ### stands -/
structure St where
  pl : List Int
  wt : List Int
  la : Int
  mn : Int
def stD (s : St) : D := .tup [.tup (s.pl.map D.int), .tup (s.wt.map D.int), .tup [.int s.la, .int s.mn]]
def cnt (w : Wr) (p : Int) : Bool := decide (0 < w.pat) && !doneAt w p
def cntAt (ws : List Wr) (pl : List Int) (k : Nat) : Bool := match ws[k]?, pl[k]? with
  | some w, some p => cnt w p
  | _, _ => false
/-- a stand of a company, as far as its counts go; where none is counted the wait is nought -/
structure StOk (ws : List Wr) (s : St) : Prop where
  pl : s.pl.length = ws.length
  wt : s.wt.length = ws.length
  no : ∀ k x, s.wt[k]? = some x → cntAt ws s.pl k = false → x = 0
def st0 (n : Nat) : St := ⟨List.replicate n 0, List.replicate n 0, -1, 0⟩
theorem st0_ok (ws : List Wr) : StOk ws (st0 ws.length) := ⟨by simp [st0], by simp [st0], fun k x hx _ => by
  have := List.mem_of_getElem? hx
  exact (List.mem_replicate.mp this).2⟩
theorem rep_zero (n : Nat) : (List.replicate n [D.int 0]).flatten = (List.replicate n (0 : Int)).map D.int := by
  induction n with
  | zero => rfl
  | succ n ih => rw [List.replicate_succ, List.flatten_cons, ih]; rfl
def sp_Company_begin : SpD := fun ds M Q _ => ∃ ws : List Wr, ds = [coD ws] ∧ ws.length ≤ 3 ∧ Q (stD (st0 ws.length)) M
def t_Company_begin : DS := (dRet (dTup (dCons (dBin rMulD (dTup (dCons (dC (.int 0)) dNil)) (dUn rLenD (dFld CCompany 0 (dVar 0)))) (dCons (dBin rMulD (dTup (dCons (dC (.int 0)) dNil)) (dUn rLenD (dFld CCompany 0 (dVar 0)))) (dCons (dC (.tup [(.int (-1)), (.int 0)])) dNil)))))
theorem r_Company_begin (ds : List D) (M : Mp) (Q : DK) (E : DX) (hl : ds.length = 1) (h : sp_Company_begin ds M Q E) : t_Company_begin { nx := fun _ M' => Q .non M', rt := Q } (startD ["self"] ds) M := by
  obtain ⟨ws, rfl, hw, q⟩ := h
  walk_at "w"
  refine ⟨rfl, ?_⟩
  walk_at "w"
  refine ⟨⟨by simp, by omega, by rw [List.length_map]; omega, by decide⟩, ?_⟩
  walk_at "w"
  refine ⟨rfl, ?_⟩
  walk_at "w"
  refine ⟨⟨by simp, by omega, by rw [List.length_map]; omega, by decide⟩, ?_⟩
  rw [List.length_map, Int.toNat_natCast, rep_zero]
  exact q
def sp_law_begin : SpD := fun ds M Q _ => ∃ ws : List Wr, ds = [.lst (ws.map wrD)] ∧ ws.length ≤ 3 ∧ Q (stD (st0 ws.length)) M
def t_law_begin : DS := (dRet (dTup (dCons (dBin rMulD (dTup (dCons (dC (.int 0)) dNil)) (dUn rLenD (dVar 0))) (dCons (dBin rMulD (dTup (dCons (dC (.int 0)) dNil)) (dUn rLenD (dVar 0))) (dCons (dTup (dCons (dUn rNegI (dC (.int 1))) (dCons (dC (.int 0)) dNil))) dNil)))))
theorem r_law_begin (ds : List D) (M : Mp) (Q : DK) (E : DX) (hl : ds.length = 1) (h : sp_law_begin ds M Q E) : t_law_begin { nx := fun _ M' => Q .non M', rt := Q } (startD ["_law_m"] ds) M := by
  obtain ⟨ws, rfl, hw, q⟩ := h
  walk_at "w"
  refine ⟨⟨by simp, by omega, by rw [List.length_map]; omega, by decide⟩, ?_⟩
  walk_at "w"
  refine ⟨⟨by simp, by omega, by rw [List.length_map]; omega, by decide⟩, ?_⟩
  rw [List.length_map, Int.toNat_natCast, rep_zero]
  exact q
theorem atI_map {α β : Type} {f : α → β} {xs : List α} {i : Nat} {x : α} (h : xs[i]? = some x) : atI (xs.map f) (i : Int) = some (f x) := atI_of (by rw [List.getElem?_map, h]; rfl)
theorem atI_map0 {α β : Type} {f : α → β} {xs : List α} {i : Nat} {x : α} (h : xs[i]? = some x) : atI (xs.map f) (0 + (i : Int)) = some (f x) := by rw [Int.zero_add]; exact atI_map h
/-! ### whose waits are counted -/
def sp_Company_counts : SpD := fun ds M Q _ => ∃ ws w, ∃ i : Nat, ∃ p : Int, ds = [coD ws, .int i, .int p] ∧ ws[i]? = some w ∧ WrOk w ∧ Q (.bl (cnt w p)) M
def t_Company_counts : DS := (dRet (dAndV (dBin rGtI (dBin rIxD (dBin rIxD (dFld CCompany 0 (dVar 0)) (dVar 1)) (dC (.int 2))) (dC (.int 0))) (dNotV (dCall sp_is_done (dCons (dBin rIxD (dFld CCompany 0 (dVar 0)) (dVar 1)) (dCons (dVar 2) dNil))))))
theorem r_Company_counts (ds : List D) (M : Mp) (Q : DK) (E : DX) (hl : ds.length = 3) (h : sp_Company_counts ds M Q E) : t_Company_counts { nx := fun _ M' => Q .non M', rt := Q } (startD ["self", "spot", "place"] ds) M := by
  obtain ⟨ws, w, i, p, rfl, hw, ok, q⟩ := h
  unfold cnt at q
  walk_at "w"
  refine ⟨rfl, ?_⟩
  walk_at "w"
  rw [atI_map hw]
  walk_at "w"
  refine brn_by (fun hc => ?_) fun hc => ?_
  · rw [show decide (0 < w.pat) = true from hc, Bool.true_and] at q
    walk_at "w"
    refine ⟨rfl, ?_⟩
    walk_at "w"
    rw [atI_map hw]
    walk_at "w"
    refine ⟨w, p, rfl, ok.up, ?_⟩
    exact q
  · rw [show decide (0 < w.pat) = false from hc, Bool.false_and] at q
    show Q (.bl (decide (0 < w.pat))) M
    rw [show decide (0 < w.pat) = false from hc]
    exact q
def sp_law_waits_count : SpD := fun ds M Q _ => ∃ ws : List Wr, ∃ w, ∃ pl : List Int, ∃ i : Nat, ∃ p, ds = [.lst (ws.map wrD), .tup (pl.map D.int), .int i] ∧ ws[i]? = some w ∧ pl[i]? = some p ∧ Q (.bl (cnt w p)) M
def t_law_waits_count : DS := (dRet (dAndV (dBin rGtI (dBin rIxD (dBin rIxD (dVar 0) (dVar 2)) (dC (.int 2))) (dC (.int 0))) (dBin (rEqDD not) (dCall sp_law_arrows (dCons (dBin rIxD (dVar 0) (dVar 2)) (dCons (dBin rIxD (dVar 1) (dVar 2)) dNil))) (dLst dNil))))
theorem les_at2 (as : List Ar) : D.les 59 (as.map atD) = true := les_of fun d hd => by
  obtain ⟨a, _, rfl⟩ := List.mem_map.mp hd; rfl
theorem r_law_waits_count (ds : List D) (M : Mp) (Q : DK) (E : DX) (hl : ds.length = 3) (h : sp_law_waits_count ds M Q E) : t_law_waits_count { nx := fun _ M' => Q .non M', rt := Q } (startD ["_law_m", "_law_places", "_law_at"] ds) M := by
  obtain ⟨ws, w, pl, i, p, rfl, hw, hp, q⟩ := h
  unfold cnt at q
  walk_at "w"
  rw [atI_map hw]
  walk_at "w"
  refine brn_by (fun hc => ?_) fun hc => ?_
  · rw [show decide (0 < w.pat) = true from hc, Bool.true_and] at q
    walk_at "w"
    rw [atI_map hw]
    walk_at "w"
    rw [atI_map hp]
    walk_at "w"
    refine ⟨w, p, rfl, ?_⟩
    walk_at "w"
    refine ⟨⟨les_at2 _, rfl⟩, ?_⟩
    have ee : eqD (.lst ((arsAt w p).map atD)) (.lst []) = doneAt w p := by
      rw [eqD_nil]; unfold doneAt; cases arsAt w p <;> rfl
    show Q (.bl (!eqD (.lst ((arsAt w p).map atD)) (.lst []))) M
    rw [ee]
    exact q
  · rw [show decide (0 < w.pat) = false from hc, Bool.false_and] at q
    show Q (.bl (decide (0 < w.pat))) M
    rw [show decide (0 < w.pat) = false from hc]
    exact q
end L3
set_option Elab.async false
set_option linter.all false
set_option maxRecDepth 100000
set_option maxHeartbeats 1000000
/-! Readings of shared helpers, sixth part: who can write, the stand behind, the steps. -/
namespace L3
open PySem PySem.Spec PyProof.Rows L2
local macro_rules | `(tactic| walk_at "w") => `(tactic| conv => whnf)
def natI (k : Nat) : D := .int (k : Int)
theorem rng0 (n : Nat) : rng 0 n = (List.range n).map natI := by
  unfold rng natI
  refine List.map_congr_left fun k _ => ?_
  rw [Int.zero_add]
theorem eqD_nat {i j : Nat} : eqD (.int (i : Int)) (.int (j : Int)) = decide (i = j) := by
  rw [eqD_int, Bool.eq_iff_iff, beq_iff_eq, decide_eq_true_eq]
  omega
theorem eqD_pair {a b c d : Int} : eqD (.tup [.int a, .int b]) (.tup [.int c, .int d]) = (a == c && b == d) := by
  simp [eqD, D.py, D.pys, PyData.eqv, PyData.eqvAll]
/-! ### who can write -/
def oth (ws : List Wr) (s : St) (i : Nat) : List Nat := (List.range ws.length).filter fun k => !decide (k = i) && cntAt ws s.pl k
def wtOk (ws : List Wr) (s : St) (k : Nat) : Bool := match s.wt[k]?, ws[k]? with
  | some x, some w => decide (x < w.pat)
  | _, _ => false
def capped (w : Wr) (s : St) (i : Nat) : Bool := decide (0 < w.cap) && (s.la == (i : Int) && s.mn == w.cap)
def mayW (ws : List Wr) (s : St) (i : Nat) : Bool := match ws[i]? with
  | some w => !capped w s i && (oth ws s i).all (wtOk ws s)
  | none => false
theorem mayW_at {ws : List Wr} {s : St} {i : Nat} {w : Wr} (h : ws[i]? = some w) : mayW ws s i = (!capped w s i && (oth ws s i).all (wtOk ws s)) := by
  unfold mayW; rw [h]
theorem oth_mem {ws : List Wr} {s : St} {i k : Nat} (h : k ∈ oth ws s i) : k < ws.length := List.mem_range.mp (List.mem_filter.mp h).1
def othP (ws : List Wr) (s : St) (i : Nat) (x : D) : Bool := match x with
  | .int k => !decide (k.toNat = i) && cntAt ws s.pl k.toNat
  | _ => false
theorem oth_list (ws : List Wr) (s : St) (i : Nat) : (((List.range ws.length).map natI).filter (othP ws s i)).map id = (oth ws s i).map natI := by
  rw [List.map_id, List.filter_map]; rfl
def wtP (ws : List Wr) (s : St) (x : D) : D := match x with
  | .int k => .bl (wtOk ws s k.toNat)
  | _ => .non
theorem wt_list (ws : List Wr) (s : St) (ks : List Nat) : (ks.map natI).map (wtP ws s) = (ks.map (wtOk ws s)).map D.bl := by
  rw [List.map_map, List.map_map]; rfl
def sp_Company_may_write : SpD := fun ds M Q _ => ∃ ws s, ∃ i : Nat, ∃ w, ds = [coD ws, stD s, .int i] ∧ CrewOk ws ∧ ws[i]? = some w ∧ s.pl.length = ws.length ∧ s.wt.length = ws.length ∧ Q (.bl (mayW ws s i)) M
def t_Company_may_write_1 : DS := (dSeq (dSet 4 (dLc (iRange1 (dCons (dUn rLenD (dFld CCompany 0 (dVar 0))) dNil)) (.name 8) (dAnd (dTest (dBin (rEqDD not) (dVar 8) (dVar 2))) (dTru (dMeth CCompany sp_Company_counts (dVar 0) (dCons (dVar 8) (dCons (dBin rIxD (dVar 5) (dVar 8)) dNil))))) (dVar 8) [8]))
    (dRet (dUn rAllD (dLc (iLst (dVar 4)) (.name 8) dYes (dBin rLtI (dBin rIxD (dVar 6) (dVar 8)) (dBin rIxD (dBin rIxD (dFld CCompany 0 (dVar 0)) (dVar 8)) (dC (.int 2)))) [8]))))
def t_Company_may_write : DS := (dSeq (dAsg (dVar 1) (.tup [(.name 5), (.name 6), (.name 7)]))
    (dSeq (dSet 3 (dBin rIxD (dBin rIxD (dFld CCompany 0 (dVar 0)) (dVar 2)) (dC (.int 3))))
    (dSeq (dIfS (dAnd (dTest (dBin rGtI (dVar 3) (dC (.int 0)))) (dTest (dBin (rEqDD id) (dVar 7) (dTup (dCons (dVar 2) (dCons (dVar 3) dNil)))))) (dRet (dC (.bl false))) dNext)
    t_Company_may_write_1)))
theorem r_Company_may_write_1 (ws : List Wr) (s : St) (i : Nat) (hw : CrewOk ws) (hp : s.pl.length = ws.length) (hwt : s.wt.length = ws.length) (M : Mp) (Q : DK) (nx : DEnv → Mp → Prop) (e1 e3 e7 e8 : Option D) (q : Q (.bl ((oth ws s i).all (wtOk ws s))) M) :
    t_Company_may_write_1 { nx := nx, rt := Q } [some (coD ws), e1, some (.int (i : Int)), e3, none, some (.tup (s.pl.map D.int)), some (.tup (s.wt.map D.int)), e7, e8] M := by
  have hfew := hw.few
  walk_at "w"
  refine ⟨rfl, ?_⟩
  walk_at "w"
  rw [List.length_map]
  refine ⟨⟨by omega, by omega⟩, ?_⟩
  rw [Int.toNat_natCast, rng0]
  walk_at "w"
  refine lc_filter (othP ws s i) id (fun x hx K1 K2 h1 h2 => ?_) ?_
  · obtain ⟨k, hk, rfl⟩ := List.mem_map.mp hx
    have hkl : k < ws.length := List.mem_range.mp hk
    have hkw := List.getElem?_eq_getElem hkl
    have hkp : s.pl[k]? = some (s.pl[k]'(by omega)) := List.getElem?_eq_getElem (by omega)
    have hP : othP ws s i (natI k) = (!decide (k = i) && cnt ws[k] (s.pl[k]'(by omega))) := by
      show (!decide ((k : Int).toNat = i) && cntAt ws s.pl (k : Int).toNat) = _
      rw [Int.toNat_natCast]
      unfold cntAt
      rw [hkw, hkp]
    walk_at "w"
    refine ⟨⟨rfl, rfl⟩, ?_⟩
    walk_at "w"
    refine brn_by (fun hc => ?_) fun hc => ?_
    · have hc' : (!eqD (.int (k : Int)) (.int (i : Int))) = true := hc
      rw [eqD_nat] at hc'
      rw [hc', Bool.true_and] at hP
      walk_at "w"
      refine ⟨rfl, ?_⟩
      walk_at "w"
      rw [atI_map hkp]
      walk_at "w"
      refine ⟨ws, ws[k], k, _, rfl, hkw, hw.ok _ (List.getElem_mem hkl), ?_⟩
      walk_at "w"
      refine brn_by (fun hd => ?_) fun hd => ?_
      · exact h1 (hP.trans hd)
      · exact h2 (hP.trans hd)
    · have hc' : (!eqD (.int (k : Int)) (.int (i : Int))) = false := hc
      rw [eqD_nat] at hc'
      rw [hc', Bool.false_and] at hP
      exact h2 hP
  · rw [oth_list]
    walk_at "w"
    refine lc_map (wtP ws s) (fun x hx K1 K2 h1 => ?_) ?_
    · obtain ⟨k, hk, rfl⟩ := List.mem_map.mp hx
      have hkl := oth_mem hk
      have hkw := List.getElem?_eq_getElem hkl
      have hkt : s.wt[k]? = some (s.wt[k]'(by omega)) := List.getElem?_eq_getElem (by omega)
      have hP : wtP ws s (natI k) = .bl (decide (s.wt[k]'(by omega) < ws[k].pat)) := by
        show D.bl (wtOk ws s (k : Int).toNat) = _
        rw [Int.toNat_natCast]
        unfold wtOk
        rw [hkw, hkt]
      rw [hP] at h1
      walk_at "w"
      rw [atI_map hkt]
      walk_at "w"
      refine ⟨rfl, ?_⟩
      walk_at "w"
      rw [atI_map hkw]
      exact h1
    · rw [wt_list]
      walk_at "w"
      rw [asBls_map]
      show Q (.bl (((oth ws s i).map (wtOk ws s)).all id)) M
      rw [List.all_map]
      exact q
theorem r_Company_may_write (ds : List D) (M : Mp) (Q : DK) (E : DX) (hl : ds.length = 3) (h : sp_Company_may_write ds M Q E) : t_Company_may_write { nx := fun _ M' => Q .non M', rt := Q } (startD ["self", "stand", "spot", "cap", "others", "places", "waits", "run", "at"] ds) M := by
  obtain ⟨ws, s, i, w, rfl, hok, hw, hp, hwt, q⟩ := h
  rw [mayW_at hw] at q
  walk_at "w"
  refine ⟨rfl, ?_⟩
  walk_at "w"
  rw [atI_map hw]
  walk_at "w"
  have fin : capped w s i = false → t_Company_may_write_1 { nx := fun _ M' => Q .non M', rt := Q } [some (coD ws), some (stD s), some (.int (i : Int)), some (.int w.cap), none, some (.tup (s.pl.map D.int)), some (.tup (s.wt.map D.int)), some (.tup [.int s.la, .int s.mn]), none] M := fun hc => by
    rw [hc] at q
    exact r_Company_may_write_1 ws s i hok hp hwt M Q _ _ _ _ _ q
  refine brn_by (fun hc => ?_) fun hc => ?_
  · walk_at "w"
    refine ⟨⟨rfl, rfl⟩, ?_⟩
    walk_at "w"
    refine brn_by (fun hd => ?_) fun hd => ?_
    · have hd' : eqD (.tup [.int s.la, .int s.mn]) (.tup [.int (i : Int), .int w.cap]) = true := hd
      rw [eqD_pair] at hd'
      have : capped w s i = true := by unfold capped; rw [hd', show decide (0 < w.cap) = true from hc]; rfl
      rw [this] at q
      exact q
    · have hd' : eqD (.tup [.int s.la, .int s.mn]) (.tup [.int (i : Int), .int w.cap]) = false := hd
      rw [eqD_pair] at hd'
      exact fin (by unfold capped; rw [hd', Bool.and_false])
  · exact fin (by unfold capped; rw [show decide (0 < w.cap) = false from hc, Bool.false_and])
def sp_law_can : SpD := fun ds M Q _ => ∃ ws s, ∃ i : Nat, ∃ w, ds = [.lst (ws.map wrD), stD s, .int i] ∧ CrewOk ws ∧ ws[i]? = some w ∧ s.pl.length = ws.length ∧ s.wt.length = ws.length ∧ Q (.bl (mayW ws s i)) M
def t_law_can_1 : DS := (dSeq (dSet 3 (dLc (iRange1 (dCons (dUn rLenD (dVar 0)) dNil)) (.name 7) (dAnd (dTest (dBin (rEqDD not) (dVar 7) (dVar 2))) (dTru (dCall sp_law_waits_count (dCons (dVar 0) (dCons (dVar 4) (dCons (dVar 7) dNil)))))) (dVar 7) [7]))
    (dRet (dUn rAllD (dLc (iLst (dVar 3)) (.name 7) dYes (dBin rLtI (dBin rIxD (dVar 5) (dVar 7)) (dBin rIxD (dBin rIxD (dVar 0) (dVar 7)) (dC (.int 2)))) [7]))))
def t_law_can : DS := (dSeq (dAsg (dVar 1) (.tup [(.name 4), (.name 5), (.name 6)]))
    (dSeq (dIfS (dAnd (dTest (dBin rGtI (dBin rIxD (dBin rIxD (dVar 0) (dVar 2)) (dC (.int 3))) (dC (.int 0)))) (dTest (dBin (rEqDD id) (dVar 6) (dTup (dCons (dVar 2) (dCons (dBin rIxD (dBin rIxD (dVar 0) (dVar 2)) (dC (.int 3))) dNil)))))) (dRet (dC (.bl false))) dNext)
    t_law_can_1))
theorem r_law_can_1 (ws : List Wr) (s : St) (i : Nat) (hw : CrewOk ws) (hp : s.pl.length = ws.length) (hwt : s.wt.length = ws.length) (M : Mp) (Q : DK) (nx : DEnv → Mp → Prop) (e1 e6 e7 : Option D) (q : Q (.bl ((oth ws s i).all (wtOk ws s))) M) :
    t_law_can_1 { nx := nx, rt := Q } [some (.lst (ws.map wrD)), e1, some (.int (i : Int)), none, some (.tup (s.pl.map D.int)), some (.tup (s.wt.map D.int)), e6, e7] M := by
  have hfew := hw.few
  walk_at "w"
  rw [List.length_map]
  refine ⟨⟨by omega, by omega⟩, ?_⟩
  rw [Int.toNat_natCast, rng0]
  walk_at "w"
  refine lc_filter (othP ws s i) id (fun x hx K1 K2 h1 h2 => ?_) ?_
  · obtain ⟨k, hk, rfl⟩ := List.mem_map.mp hx
    have hkl : k < ws.length := List.mem_range.mp hk
    have hkw := List.getElem?_eq_getElem hkl
    have hkp : s.pl[k]? = some (s.pl[k]'(by omega)) := List.getElem?_eq_getElem (by omega)
    have hP : othP ws s i (natI k) = (!decide (k = i) && cnt ws[k] (s.pl[k]'(by omega))) := by
      show (!decide ((k : Int).toNat = i) && cntAt ws s.pl (k : Int).toNat) = _
      rw [Int.toNat_natCast]
      unfold cntAt
      rw [hkw, hkp]
    walk_at "w"
    refine ⟨⟨rfl, rfl⟩, ?_⟩
    walk_at "w"
    refine brn_by (fun hc => ?_) fun hc => ?_
    · have hc' : (!eqD (.int (k : Int)) (.int (i : Int))) = true := hc
      rw [eqD_nat] at hc'
      rw [hc', Bool.true_and] at hP
      walk_at "w"
      refine ⟨ws, ws[k], s.pl, k, _, rfl, hkw, hkp, ?_⟩
      walk_at "w"
      refine brn_by (fun hd => ?_) fun hd => ?_
      · exact h1 (hP.trans hd)
      · exact h2 (hP.trans hd)
    · have hc' : (!eqD (.int (k : Int)) (.int (i : Int))) = false := hc
      rw [eqD_nat] at hc'
      rw [hc', Bool.false_and] at hP
      exact h2 hP
  · rw [oth_list]
    walk_at "w"
    refine lc_map (wtP ws s) (fun x hx K1 K2 h1 => ?_) ?_
    · obtain ⟨k, hk, rfl⟩ := List.mem_map.mp hx
      have hkl := oth_mem hk
      have hkw := List.getElem?_eq_getElem hkl
      have hkt : s.wt[k]? = some (s.wt[k]'(by omega)) := List.getElem?_eq_getElem (by omega)
      have hP : wtP ws s (natI k) = .bl (decide (s.wt[k]'(by omega) < ws[k].pat)) := by
        show D.bl (wtOk ws s (k : Int).toNat) = _
        rw [Int.toNat_natCast]
        unfold wtOk
        rw [hkw, hkt]
      rw [hP] at h1
      walk_at "w"
      rw [atI_map hkt]
      walk_at "w"
      rw [atI_map hkw]
      exact h1
    · rw [wt_list]
      walk_at "w"
      rw [asBls_map]
      show Q (.bl (((oth ws s i).map (wtOk ws s)).all id)) M
      rw [List.all_map]
      exact q
theorem r_law_can (ds : List D) (M : Mp) (Q : DK) (E : DX) (hl : ds.length = 3) (h : sp_law_can ds M Q E) : t_law_can { nx := fun _ M' => Q .non M', rt := Q } (startD ["_law_m", "_law_stand", "_law_spot", "_law_others", "_law_places", "_law_waits", "_law_run", "_law_at"] ds) M := by
  obtain ⟨ws, s, i, w, rfl, hok, hw, hp, hwt, q⟩ := h
  rw [mayW_at hw] at q
  walk_at "w"
  rw [atI_map hw]
  walk_at "w"
  have fin : capped w s i = false → t_law_can_1 { nx := fun _ M' => Q .non M', rt := Q } [some (.lst (ws.map wrD)), some (stD s), some (.int (i : Int)), none, some (.tup (s.pl.map D.int)), some (.tup (s.wt.map D.int)), some (.tup [.int s.la, .int s.mn]), none] M := fun hc => by
    rw [hc] at q
    exact r_law_can_1 ws s i hok hp hwt M Q _ _ _ _ q
  refine brn_by (fun hc => ?_) fun hc => ?_
  · walk_at "w"
    rw [atI_map hw]
    walk_at "w"
    refine ⟨⟨rfl, rfl⟩, ?_⟩
    walk_at "w"
    refine brn_by (fun hd => ?_) fun hd => ?_
    · have hd' : eqD (.tup [.int s.la, .int s.mn]) (.tup [.int (i : Int), .int w.cap]) = true := hd
      rw [eqD_pair] at hd'
      have : capped w s i = true := by unfold capped; rw [hd', show decide (0 < w.cap) = true from hc]; rfl
      rw [this] at q
      exact q
    · have hd' : eqD (.tup [.int s.la, .int s.mn]) (.tup [.int (i : Int), .int w.cap]) = false := hd
      rw [eqD_pair] at hd'
      exact fin (by unfold capped; rw [hd', Bool.and_false])
  · exact fin (by unfold capped; rw [show decide (0 < w.cap) = false from hc, Bool.false_and])
end L3
set_option Elab.async false
set_option linter.all false
set_option maxRecDepth 100000
set_option maxHeartbeats 1000000
/-! Readings of shared helpers, seventh part: the stand behind a step, the steps. -/
namespace L3
open PySem PySem.Spec PyProof.Rows L2
local macro_rules | `(tactic| walk_at "w") => `(tactic| conv => whnf)
/-! ### the stand behind -/
theorem cut_to {α : Type} (xs : List α) (k : Nat) : cut xs none (some (k : Int)) = xs.take k := by
  unfold cut
  rw [HT.sIx_none, HT.sIx_nat, List.drop_zero, Nat.sub_zero]
  by_cases h : k ≤ xs.length
  · rw [Nat.min_eq_left h]
  · rw [Nat.min_eq_right (by omega), List.take_length, List.take_of_length_le (by omega)]
theorem cut_from {α : Type} (xs : List α) (k : Nat) : cut xs (some (k : Int)) none = xs.drop k := by
  unfold cut
  rw [HT.sIx_none, HT.sIx_nat]
  by_cases h : k ≤ xs.length
  · rw [Nat.min_eq_left h, List.take_of_length_le (by rw [List.length_drop]; omega)]
  · rw [Nat.min_eq_right (by omega), List.drop_length, List.drop_eq_nil_of_le (by omega)]; simp
theorem cut_from1 {α : Type} (xs : List α) (k : Nat) : cut xs (some ((k : Int) + 1)) none = xs.drop (k + 1) := cut_from xs (k + 1)
def runOf (w : Wr) (s : St) (i : Nat) : Int × Int := if 0 < w.cap then ((i : Int), if s.la = (i : Int) then s.mn + 1 else 1) else (-1, 0)
def wtOf (ws : List Wr) (s : St) (i k : Nat) (x : Int) : Int := if (!decide (k = i) && cntAt ws s.pl k) = true then x + 1 else 0
def aft (ws : List Wr) (w : Wr) (s : St) (i : Nat) (to : Int) : St :=
  ⟨s.pl.take i ++ [to] ++ s.pl.drop (i + 1), s.wt.mapIdx (wtOf ws s i), (runOf w s i).1, (runOf w s i).2⟩
def wtF (ws : List Wr) (s : St) (i : Nat) (d : D) : D := match d with
  | .tup [.int k, .int x] => .int (wtOf ws s i k.toNat x)
  | _ => .non
theorem wtF_list (ws : List Wr) (s : St) (i : Nat) (xs : List Int) : (pairs (xs.map D.int)).map (wtF ws s i) = (xs.mapIdx (wtOf ws s i)).map D.int := by
  apply List.ext_getElem?
  intro k
  unfold pairs
  rw [List.getElem?_map, List.getElem?_mapIdx, List.getElem?_map, List.getElem?_map, List.getElem?_mapIdx]
  cases xs[k]? <;> rfl
def sp_Company_behind : SpD := fun ds M Q _ => ∃ ws s, ∃ i : Nat, ∃ w, ∃ to : Int, ds = [coD ws, stD s, .int i, .int to] ∧ CrewOk ws ∧ ws[i]? = some w ∧ s.pl.length = ws.length ∧ s.wt.length = ws.length ∧ Q (stD (aft ws w s i to)) M
def t_Company_behind_1 : DS := (dRet (dTup (dCons (dVar 4) (dCons (dUn rTupleD (dVar 5)) (dCons (dVar 6) dNil)))))
def t_Company_behind : DS := (dSeq (dAsg (dVar 1) (.tup [(.name 7), (.name 8), (.tup [(.name 9), (.name 10)])]))
    (dSeq (dSet 4 (dBin rAddD (dBin rAddD (dSl (dVar 7) dNoPart (dPart (dVar 2))) (dTup (dCons (dVar 3) dNil))) (dSl (dVar 7) (dPart (dBin rAddD (dVar 2) (dC (.int 1)))) dNoPart)))
    (dSeq (dSet 5 (dLc (iEnumA (dCons (dVar 8) dNil)) (.tup [(.name 11), (.name 12)]) dYes (dIf (dAnd (dTest (dBin (rEqDD not) (dVar 11) (dVar 2))) (dTru (dMeth CCompany sp_Company_counts (dVar 0) (dCons (dVar 11) (dCons (dBin rIxD (dVar 7) (dVar 11)) dNil))))) (dBin rAddD (dVar 12) (dC (.int 1))) (dC (.int 0))) [11, 12]))
    (dSeq (dSet 6 (dC (.tup [(.int (-1)), (.int 0)])))
    (dSeq (dIfS (dTest (dBin rGtI (dBin rIxD (dBin rIxD (dFld CCompany 0 (dVar 0)) (dVar 2)) (dC (.int 3))) (dC (.int 0)))) (dSet 6 (dTup (dCons (dVar 2) (dCons (dIf (dTest (dBin (rEqDD id) (dVar 9) (dVar 2))) (dBin rAddD (dVar 10) (dC (.int 1))) (dC (.int 1))) dNil)))) dNext)
    t_Company_behind_1)))))
theorem ixN_at {n j : Nat} (hj : j < n) : ixN n (j : Int) = some j := by
  unfold ixN
  rw [if_pos (by omega), if_pos (by omega)]
  simp
theorem small_len {α β : Type} {xs : List α} {k : Nat} (f : α → β) (h : xs.length ≤ 3) : ((xs.map f).take k).length ≤ 3 := by
  rw [List.length_take, List.length_map]; omega
theorem r_Company_behind (ds : List D) (M : Mp) (Q : DK) (E : DX) (hl : ds.length = 4) (h : sp_Company_behind ds M Q E) : t_Company_behind { nx := fun _ M' => Q .non M', rt := Q } (startD ["self", "stand", "spot", "to", "later", "counted", "run", "places", "waits", "last", "many", "at", "wait"] ds) M := by
  obtain ⟨ws, s, i, w, to, rfl, hok, hw, hp, hwt, q⟩ := h
  have hfew := hok.few
  have hil : i < ws.length := (List.getElem?_eq_some_iff.mp hw).1
  walk_at "w"
  rw [cut_to]
  refine ⟨by have := small_len (k := i) D.int (xs := s.pl) (by omega); show _ + 1 ≤ _; rw [sizeLine_eq]; omega, ?_⟩
  walk_at "w"
  rw [cut_from1]
  refine ⟨by rw [sizeLine_eq, List.length_append, List.length_take, List.length_drop, List.length_map]; show min _ _ + 1 + _ ≤ _; omega, ?_⟩
  walk_at "w"
  refine lc_map (wtF ws s i) (fun x hx K1 K2 h1 => ?_) ?_
  · obtain ⟨k, hk⟩ := List.getElem?_of_mem hx
    obtain ⟨g, hg, rfl⟩ := pairs_at hk
    rw [List.getElem?_map] at hg
    obtain ⟨x, hx', rfl⟩ := Option.map_eq_some_iff.mp hg
    have hkl : k < ws.length := by have := (List.getElem?_eq_some_iff.mp hx').1; omega
    have hkw := List.getElem?_eq_getElem hkl
    have hkp : s.pl[k]? = some (s.pl[k]'(by omega)) := List.getElem?_eq_getElem (by omega)
    have hc0 : cntAt ws s.pl k = cnt ws[k] (s.pl[k]'(by omega)) := by unfold cntAt; rw [hkw, hkp]
    have h1' : K1 (.int (if (!decide (k = i) && cnt ws[k] (s.pl[k]'(by omega))) = true then x + 1 else 0)) M := by
      rw [← hc0]; exact h1
    walk_at "w"
    refine ⟨⟨rfl, rfl⟩, ?_⟩
    walk_at "w"
    refine brn_by (fun hc => ?_) fun hc => ?_
    · have hc' : (!eqD (.int (k : Int)) (.int (i : Int))) = true := hc
      rw [eqD_nat] at hc'
      rw [hc', Bool.true_and] at h1'
      walk_at "w"
      refine ⟨rfl, ?_⟩
      walk_at "w"
      rw [atI_map hkp]
      walk_at "w"
      refine ⟨ws, ws[k], k, _, rfl, hkw, hok.ok _ (List.getElem_mem hkl), ?_⟩
      walk_at "w"
      refine brn_by (fun hd => ?_) fun hd => ?_
      · rw [if_pos (show cnt ws[k] (s.pl[k]'(by omega)) = true from hd)] at h1'
        exact h1'
      · rw [if_neg (by rw [show cnt ws[k] (s.pl[k]'(by omega)) = false from hd]; exact Bool.false_ne_true)] at h1'
        exact h1'
    · have hc' : (!eqD (.int (k : Int)) (.int (i : Int))) = false := hc
      rw [eqD_nat] at hc'
      rw [hc', Bool.false_and, if_neg Bool.false_ne_true] at h1'
      exact h1'
  · rw [wtF_list]
    walk_at "w"
    refine ⟨rfl, ?_⟩
    walk_at "w"
    rw [atI_map hw]
    walk_at "w"
    have e1 : (s.pl.map D.int).take i ++ [D.int to] ++ (s.pl.map D.int).drop (i + 1) = (s.pl.take i ++ [to] ++ s.pl.drop (i + 1)).map D.int := by
      rw [List.map_append, List.map_append, List.map_take, List.map_drop]; rfl
    refine brn_by (fun hc => ?_) fun hc => ?_
    · have hcap : 0 < w.cap := of_decide_eq_true hc
      walk_at "w"
      refine ⟨⟨rfl, rfl⟩, ?_⟩
      walk_at "w"
      have fin : ∀ m : Int, (if s.la = (i : Int) then s.mn + 1 else 1) = m → Q (.tup [.tup ((s.pl.map D.int).take i ++ [D.int to] ++ (s.pl.map D.int).drop (i + 1)), .tup ((s.wt.mapIdx (wtOf ws s i)).map D.int), .tup [.int (i : Int), .int m]]) M := fun m hm => by
        rw [e1]
        have : stD (aft ws w s i to) = .tup [.tup ((s.pl.take i ++ [to] ++ s.pl.drop (i + 1)).map D.int), .tup ((s.wt.mapIdx (wtOf ws s i)).map D.int), .tup [.int (i : Int), .int m]] := by
          unfold aft stD runOf
          rw [if_pos hcap, hm]
        rw [this] at q
        exact q
      refine brn_by (fun hd => ?_) fun hd => ?_
      · have hd' : (s.la == (i : Int)) = true := hd
        exact fin _ (if_pos (eq_of_beq hd'))
      · have hd' : (s.la == (i : Int)) = false := hd
        exact fin _ (if_neg (fun e => by rw [e] at hd'; simp at hd'))
    · have hcap : ¬ 0 < w.cap := of_decide_eq_false hc
      walk_at "w"
      rw [e1]
      have : stD (aft ws w s i to) = .tup [.tup ((s.pl.take i ++ [to] ++ s.pl.drop (i + 1)).map D.int), .tup ((s.wt.mapIdx (wtOf ws s i)).map D.int), .tup [.int (-1), .int 0]] := by
        unfold aft stD runOf
        rw [if_neg hcap]
      rw [this] at q
      exact q
/-! ### .. by the law's own reckoning -/
def sp_law_after : SpD := fun ds M Q _ => ∃ ws s, ∃ i : Nat, ∃ w, ∃ to : Int, ds = [.lst (ws.map wrD), stD s, .int i, .int to] ∧ CrewOk ws ∧ ws[i]? = some w ∧ StOk ws s ∧ Q (stD (aft ws w s i to)) M
def t_law_after : DS := (dSeq (dAsg (dVar 1) (.tup [(.name 7), (.name 8), (.name 9)]))
    (dSeq (dSet 4 (dLcM (iEnumA (dCons (dVar 8) dNil)) (.tup [(.name 10), (.name 11)]) dYes (dBin rAddD (dVar 11) (dUn rIntB (dCall sp_law_waits_count (dCons (dVar 0) (dCons (dVar 7) (dCons (dVar 10) dNil)))))) [10, 11]))
    (dSeq (dSetIx (dC (.int 0)) (dVar 4) (dVar 2))
    (dSeq (dSet 5 (dIf (dTest (dBin (rEqDD id) (dBin rIxD (dVar 9) (dC (.int 0))) (dVar 2))) (dBin rAddD (dBin rIxD (dVar 9) (dC (.int 1))) (dC (.int 1))) (dC (.int 1))))
    (dSeq (dSet 6 (dIf (dTest (dBin rGtI (dBin rIxD (dBin rIxD (dVar 0) (dVar 2)) (dC (.int 3))) (dC (.int 0)))) (dTup (dCons (dVar 2) (dCons (dVar 5) dNil))) (dTup (dCons (dUn rNegI (dC (.int 1))) (dCons (dC (.int 0)) dNil)))))
    (dFrzN 4 (dRet (dTup (dCons (dBin rAddD (dBin rAddD (dSl (dVar 7) dNoPart (dPart (dVar 2))) (dTup (dCons (dVar 3) dNil))) (dSl (dVar 7) (dPart (dBin rAddD (dVar 2) (dC (.int 1)))) dNoPart)) (dCons (dUn rTupleD (dVar 4)) (dCons (dVar 6) dNil)))))))))))
def wtG (ws : List Wr) (s : St) (k : Nat) (x : Int) : Int := x + (if cntAt ws s.pl k then 1 else 0)
def wtH (ws : List Wr) (s : St) (d : D) : D := match d with
  | .tup [.int k, .int x] => .int (wtG ws s k.toNat x)
  | _ => .non
theorem wtH_list (ws : List Wr) (s : St) (xs : List Int) : (pairs (xs.map D.int)).map (wtH ws s) = (xs.mapIdx (wtG ws s)).map D.int := by
  apply List.ext_getElem?
  intro k
  unfold pairs
  rw [List.getElem?_map, List.getElem?_mapIdx, List.getElem?_map, List.getElem?_map, List.getElem?_mapIdx]
  cases xs[k]? <;> rfl
theorem wt_same {ws : List Wr} {s : St} (h : StOk ws s) {i : Nat} (hi : i < ws.length) : ((s.wt.mapIdx (wtG ws s)).map D.int).set i (.int 0) = (s.wt.mapIdx (wtOf ws s i)).map D.int := by
  rw [← List.map_set]
  congr 1
  apply List.ext_getElem?
  intro k
  rw [List.getElem?_set]
  by_cases hk : i = k
  · subst hk
    rw [if_pos rfl, if_pos (by rw [List.length_mapIdx, h.wt]; exact hi), List.getElem?_mapIdx, List.getElem?_eq_getElem (by rw [h.wt]; exact hi)]
    show some 0 = some (wtOf ws s i i _)
    unfold wtOf
    rw [if_neg (by simp)]
  · rw [if_neg hk, List.getElem?_mapIdx, List.getElem?_mapIdx]
    cases hx : s.wt[k]? with
    | none => rfl
    | some x =>
      show some (wtG ws s k x) = some (wtOf ws s i k x)
      unfold wtG wtOf
      rw [decide_eq_false (fun e => hk e.symm), Bool.not_false, Bool.true_and]
      cases hc : cntAt ws s.pl k with
      | true => rfl
      | false => rw [h.no k x hx hc]; rfl
theorem r_law_after (ds : List D) (M : Mp) (Q : DK) (E : DX) (hl : ds.length = 4) (h : sp_law_after ds M Q E) : t_law_after { nx := fun _ M' => Q .non M', rt := Q } (startD ["_law_m", "_law_stand", "_law_spot", "_law_to", "_law_later", "_law_many", "_law_fresh", "_law_places", "_law_waits", "_law_run", "_law_at", "_law_wait"] ds) M := by
  obtain ⟨ws, s, i, w, to, rfl, hok, hw, hs, q⟩ := h
  have hfew := hok.few
  have hp := hs.pl
  have hwt := hs.wt
  have hil : i < ws.length := (List.getElem?_eq_some_iff.mp hw).1
  walk_at "w"
  refine lc_map (wtH ws s) (fun x hx K1 K2 h1 => ?_) ?_
  · obtain ⟨k, hk⟩ := List.getElem?_of_mem hx
    obtain ⟨g, hg, rfl⟩ := pairs_at hk
    rw [List.getElem?_map] at hg
    obtain ⟨x, hx', rfl⟩ := Option.map_eq_some_iff.mp hg
    have hkl : k < ws.length := by have := (List.getElem?_eq_some_iff.mp hx').1; omega
    have hkw := List.getElem?_eq_getElem hkl
    have hkp : s.pl[k]? = some (s.pl[k]'(by omega)) := List.getElem?_eq_getElem (by omega)
    have hc0 : cntAt ws s.pl k = cnt ws[k] (s.pl[k]'(by omega)) := by unfold cntAt; rw [hkw, hkp]
    have h1' : K1 (.int (x + (if cnt ws[k] (s.pl[k]'(by omega)) then 1 else 0))) M := by
      rw [← hc0]; exact h1
    walk_at "w"
    refine ⟨ws, ws[k], s.pl, k, _, rfl, hkw, hkp, ?_⟩
    exact h1'
  · rw [wtH_list]
    intro p hpn
    walk_at "w"
    rw [mupd_same]
    walk_at "w"
    rw [ixN_at (by rw [List.length_map, List.length_mapIdx, hwt]; exact hil)]
    walk_at "w"
    rw [wt_same hs hil, mupd_mupd]
    refine ⟨⟨rfl, rfl⟩, ?_⟩
    walk_at "w"
    have e1 : (s.pl.map D.int).take i ++ [D.int to] ++ (s.pl.map D.int).drop (i + 1) = (s.pl.take i ++ [to] ++ s.pl.drop (i + 1)).map D.int := by
      rw [List.map_append, List.map_append, List.map_take, List.map_drop]; rfl
    have fin : ∀ (m : Int) (r : D), (if 0 < w.cap then D.tup [.int (i : Int), .int m] else .tup [.int (-1), .int 0]) = r → (if s.la = (i : Int) then s.mn + 1 else 1) = m →
        (dFrzN 4 (dRet (dTup (dCons (dBin rAddD (dBin rAddD (dSl (dVar 7) dNoPart (dPart (dVar 2))) (dTup (dCons (dVar 3) dNil))) (dSl (dVar 7) (dPart (dBin rAddD (dVar 2) (dC (.int 1)))) dNoPart)) (dCons (dUn rTupleD (dVar 4)) (dCons (dVar 6) dNil)))))) { nx := fun _ M' => Q .non M', rt := Q }
          [some (.lst (ws.map wrD)), some (stD s), some (.int (i : Int)), some (.int to), some (.ref p), some (.int m), some r, some (.tup (s.pl.map D.int)), some (.tup (s.wt.map D.int)), some (.tup [.int s.la, .int s.mn]), none, none] (mupd M p (.lst ((s.wt.mapIdx (wtOf ws s i)).map D.int))) := fun m r hr hm => by
      walk_at "w"
      rw [mupd_same]
      walk_at "w"
      rw [mdel_mupd hpn, cut_to]
      refine ⟨by have := small_len (k := i) D.int (xs := s.pl) (by omega); show _ + 1 ≤ _; rw [sizeLine_eq]; omega, ?_⟩
      walk_at "w"
      rw [cut_from1]
      refine ⟨by rw [sizeLine_eq, List.length_append, List.length_take, List.length_drop, List.length_map]; show min _ _ + 1 + _ ≤ _; omega, ?_⟩
      rw [e1]
      have : stD (aft ws w s i to) = .tup [.tup ((s.pl.take i ++ [to] ++ s.pl.drop (i + 1)).map D.int), .tup ((s.wt.mapIdx (wtOf ws s i)).map D.int), r] := by
        unfold aft stD runOf
        rw [← hr, hm]
        by_cases hc : 0 < w.cap
        · rw [if_pos hc, if_pos hc]
        · rw [if_neg hc, if_neg hc]
      rw [this] at q
      exact q
    have nxt : ∀ m : Int, (if s.la = (i : Int) then s.mn + 1 else 1) = m →
        (dSeq (dSet 6 (dIf (dTest (dBin rGtI (dBin rIxD (dBin rIxD (dVar 0) (dVar 2)) (dC (.int 3))) (dC (.int 0)))) (dTup (dCons (dVar 2) (dCons (dVar 5) dNil))) (dTup (dCons (dUn rNegI (dC (.int 1))) (dCons (dC (.int 0)) dNil)))))
          (dFrzN 4 (dRet (dTup (dCons (dBin rAddD (dBin rAddD (dSl (dVar 7) dNoPart (dPart (dVar 2))) (dTup (dCons (dVar 3) dNil))) (dSl (dVar 7) (dPart (dBin rAddD (dVar 2) (dC (.int 1)))) dNoPart)) (dCons (dUn rTupleD (dVar 4)) (dCons (dVar 6) dNil))))))) { nx := fun _ M' => Q .non M', rt := Q }
          [some (.lst (ws.map wrD)), some (stD s), some (.int (i : Int)), some (.int to), some (.ref p), some (.int m), none, some (.tup (s.pl.map D.int)), some (.tup (s.wt.map D.int)), some (.tup [.int s.la, .int s.mn]), none, none] (mupd M p (.lst ((s.wt.mapIdx (wtOf ws s i)).map D.int))) := fun m hm => by
      walk_at "w"
      rw [atI_map hw]
      walk_at "w"
      refine brn_by (fun hc => ?_) fun hc => ?_
      · exact fin m _ (if_pos (of_decide_eq_true hc)) hm
      · exact fin m _ (if_neg (of_decide_eq_false hc)) hm
    refine brn_by (fun hd => ?_) fun hd => ?_
    · have hd' : (s.la == (i : Int)) = true := hd
      exact nxt _ (if_pos (eq_of_beq hd'))
    · have hd' : (s.la == (i : Int)) = false := hd
      exact nxt _ (if_neg (fun e => by rw [e] at hd'; simp at hd'))
/-! ### a step keeps what holds of stands -/
theorem aft_ok {ws : List Wr} {w : Wr} {s : St} {i : Nat} (hs : StOk ws s) (hi : i < ws.length) (to : Int) : StOk ws (aft ws w s i to) := by
  have hp := hs.pl
  have hwt := hs.wt
  have hl : (s.pl.take i ++ [to] ++ s.pl.drop (i + 1)).length = ws.length := by
    rw [List.length_append, List.length_append, List.length_take, List.length_drop]
    show min _ _ + 1 + _ = _
    omega
  have hne : ∀ k, k ≠ i → (s.pl.take i ++ [to] ++ s.pl.drop (i + 1))[k]? = s.pl[k]? := fun k hk => by
    rw [List.append_assoc]
    by_cases h : k < i
    · rw [List.getElem?_append_left (by rw [List.length_take]; omega), List.getElem?_take, if_pos h]
    · rw [List.getElem?_append_right (by rw [List.length_take]; omega), List.length_take, Nat.min_eq_left (by omega)]
      obtain ⟨j, hj⟩ : ∃ j, k = i + 1 + j := ⟨k - i - 1, by omega⟩
      subst hj
      rw [show i + 1 + j - i = j + 1 by omega, List.singleton_append, List.getElem?_cons_succ, List.getElem?_drop]
  refine ⟨hl, by show (s.wt.mapIdx _).length = _; rw [List.length_mapIdx]; exact hwt, fun k x hx hc => ?_⟩
  have hx' : (s.wt.mapIdx (wtOf ws s i))[k]? = some x := hx
  rw [List.getElem?_mapIdx] at hx'
  obtain ⟨y, hy, rfl⟩ := Option.map_eq_some_iff.mp hx'
  unfold wtOf
  by_cases hk : k = i
  · rw [if_neg (by rw [decide_eq_true hk]; simp)]
  · have : cntAt ws s.pl k = false := by
      have hc' : cntAt ws (s.pl.take i ++ [to] ++ s.pl.drop (i + 1)) k = false := hc
      unfold cntAt at hc' ⊢
      rw [hne k hk] at hc'
      exact hc'
    rw [if_neg (by rw [this]; simp)]
end L3
set_option Elab.async false
set_option linter.all false
set_option maxRecDepth 100000
set_option maxHeartbeats 1000000
/-! Readings of shared helpers, eighth part: the steps. -/
namespace L3
open PySem PySem.Spec PyProof.Rows L2
local macro_rules | `(tactic| walk_at "w") => `(tactic| conv => whnf)
theorem pairs_length (xs : List D) : (pairs xs).length = xs.length := by simp [pairs]
def stepD (ws : List Wr) (s : St) (i : Nat) (w : Wr) (a : Ar) : D := .tup [.str a.sg, natI i, stD (aft ws w s i a.to)]
def rawAt (ws : List Wr) (s : St) (i : Nat) : List D := match ws[i]?, s.pl[i]? with
  | some w, some p => if mayW ws s i then (arsAt w p).map (stepD ws s i w) else []
  | _, _ => []
def raw (ws : List Wr) (s : St) (n : Nat) : List D := (List.range n).flatMap (rawAt ws s)
theorem raw_succ (ws : List Wr) (s : St) (n : Nat) : raw ws s (n + 1) = raw ws s n ++ rawAt ws s n := by
  unfold raw
  rw [List.range_succ, List.flatMap_append]
  simp
/-- what a step is -/
structure IsStep (ws : List Wr) (s : St) (i : Nat) (w : Wr) (a : Ar) : Prop where
  wr : ws[i]? = some w
  ar : a ∈ w.ar
theorem rawAt_mem {ws : List Wr} {s : St} {i : Nat} {x : D} (h : x ∈ rawAt ws s i) : ∃ w a, IsStep ws s i w a ∧ x = stepD ws s i w a := by
  unfold rawAt at h
  split at h
  · rename_i w p hw hp
    split at h
    · obtain ⟨a, ha, rfl⟩ := List.mem_map.mp h
      exact ⟨w, a, ⟨hw, (List.mem_filter.mp ha).1⟩, rfl⟩
    · cases h
  · cases h
theorem raw_mem {ws : List Wr} {s : St} {n : Nat} {x : D} (h : x ∈ raw ws s n) : ∃ i w a, IsStep ws s i w a ∧ x = stepD ws s i w a := by
  obtain ⟨i, _, hi⟩ := List.mem_flatMap.mp h
  obtain ⟨w, a, h1, h2⟩ := rawAt_mem hi
  exact ⟨i, w, a, h1, h2⟩
theorem rawAt_len {ws : List Wr} (hok : CrewOk ws) (s : St) (i : Nat) : (rawAt ws s i).length ≤ 9 := by
  unfold rawAt
  split
  · rename_i w p hw hp
    split
    · rw [List.length_map]
      exact Nat.le_trans (List.length_filter_le _ _) (hok.ok w (List.mem_of_getElem? hw)).few
    · exact Nat.zero_le _
  · exact Nat.zero_le _
theorem raw_len {ws : List Wr} (hok : CrewOk ws) (s : St) (n : Nat) : (raw ws s n).length ≤ 9 * n := by
  induction n with
  | zero => exact Nat.le_refl _
  | succ n ih =>
    rw [raw_succ, List.length_append]
    have := rawAt_len hok s n
    omega
theorem pys_ints (xs : List Int) : D.pys (xs.map D.int) = xs.map PyData.int := by
  induction xs with
  | nil => rfl
  | cons x xs ih => simp [D.pys, D.py, ih]
theorem st_le (s : St) : D.le 3 (stD s) = true := by
  unfold stD
  have h1 : D.les 1 (s.pl.map D.int) = true := les_of fun d hd => by obtain ⟨x, _, rfl⟩ := List.mem_map.mp hd; rfl
  have h2 : D.les 1 (s.wt.map D.int) = true := les_of fun d hd => by obtain ⟨x, _, rfl⟩ := List.mem_map.mp hd; rfl
  simp only [D.le, D.les, h1, h2, Bool.and_true]
theorem step_le (ws : List Wr) (s : St) (i : Nat) (w : Wr) (a : Ar) : D.le 4 (stepD ws s i w a) = true := by
  unfold stepD natI
  simp only [D.le, D.les, st_le, Bool.and_true]
theorem st_alike (s t : St) : PySem.W.alike (stD s).py (stD t).py = true := by
  simp only [stD, D.py, D.pys, pys_ints, PySem.W.alike, PySem.W.alikeAll, PySem.W.alike_ints, Bool.and_true]
theorem step_alike (ws : List Wr) (s : St) (i : Nat) (w : Wr) (a : Ar) (j : Nat) (v : Wr) (b : Ar) : PySem.W.alike (stepD ws s i w a).py (stepD ws s j v b).py = true := by
  simp only [stepD, natI, D.py, D.pys, PySem.W.alike, PySem.W.alikeAll, st_alike, Bool.and_true]
theorem raw_srt (ws : List Wr) (s : St) (n : Nat) : D.les 50 (raw ws s n) = true ∧ SrtOk (raw ws s n) := by
  refine ⟨les_of fun d hd => ?_, fun d hd d' hd' => ?_, .inl fun d hd => ?_⟩
  · obtain ⟨i, w, a, _, rfl⟩ := raw_mem hd
    exact le_mono (by omega) (step_le ws s i w a)
  · obtain ⟨x, hx, rfl⟩ := List.mem_map.mp hd
    obtain ⟨y, hy, rfl⟩ := List.mem_map.mp hd'
    obtain ⟨i, w, a, _, rfl⟩ := raw_mem hx
    obtain ⟨j, v, b, _, rfl⟩ := raw_mem hy
    exact step_alike ws s i w a j v b
  · obtain ⟨x, hx, rfl⟩ := List.mem_map.mp hd
    obtain ⟨i, w, a, _, rfl⟩ := raw_mem hx
    exact ⟨_, _, rfl⟩
def nameAt (ws : List Wr) (k : Nat) : Str := match ws[k]? with
  | some w => w.name
  | none => Str.empty
def nmD (ws : List Wr) (d : D) : D := match d with
  | .tup [x, .int k, z] => .tup [x, .str (nameAt ws k.toNat), z]
  | _ => .non
/-- the steps, by sign, by the writers' order -/
def stepsD (ws : List Wr) (s : St) : List D := (sortD (raw ws s ws.length)).map (nmD ws)
theorem steps_mem {ws : List Wr} {s : St} {x : D} (h : x ∈ stepsD ws s) : ∃ i w a, IsStep ws s i w a ∧ x = .tup [.str a.sg, .str w.name, stD (aft ws w s i a.to)] := by
  obtain ⟨y, hy, rfl⟩ := List.mem_map.mp h
  obtain ⟨i, w, a, hs, rfl⟩ := raw_mem ((sortD_perm _).mem_iff.mp hy)
  refine ⟨i, w, a, hs, ?_⟩
  show D.tup [.str a.sg, .str (nameAt ws (i : Int).toNat), stD (aft ws w s i a.to)] = _
  rw [Int.toNat_natCast]
  unfold nameAt
  rw [hs.wr]
theorem steps_len {ws : List Wr} (hok : CrewOk ws) (s : St) : (stepsD ws s).length ≤ 27 := by
  unfold stepsD
  rw [List.length_map, (sortD_perm _).length_eq]
  have := raw_len hok s ws.length
  have := hok.few
  omega
theorem steps_le (ws : List Wr) (s : St) : D.le 6 (.lst (stepsD ws s)) = true := by
  simp only [D.le]
  refine les_of fun d hd => ?_
  obtain ⟨i, w, a, _, rfl⟩ := steps_mem hd
  simp only [D.le, D.les, le_mono (show 3 ≤ 4 by omega) (st_le _), Bool.and_true]
/-! ### the program's -/
def sp_Company_steps : SpD := fun ds M Q _ => ∃ ws s, ds = [coD ws, stD s] ∧ CrewOk ws ∧ s.pl.length = ws.length ∧ s.wt.length = ws.length ∧ ∀ p, M p = none → Q (.ref p) (mupd M p (.lst (stepsD ws s)))
def t_Company_steps_1 : DS := (dFrzN 2 (dRet (dLcM (iLst (dUn rSortD (dVar 2))) (.tup [(.name 5), (.name 3), (.name 7)]) dYes (dTup (dCons (dVar 5) (dCons (dBin rIxD (dBin rIxD (dFld CCompany 0 (dVar 0)) (dVar 3)) (dC (.int 0))) (dCons (dVar 7) dNil)))) [5, 3, 7])))
def t_Company_steps : DS := (dSeq (dSet 2 (dLstM dNil))
    (dSeq (dFor (iEnumA (dCons (dFld CCompany 0 (dVar 0)) dNil)) (.tup [(.name 3), (.name 4)]) (dIfS (dTru (dMeth CCompany sp_Company_may_write (dVar 0) (dCons (dVar 1) (dCons (dVar 3) dNil)))) (dFor (iItemsD (dCall sp_arrows_at (dCons (dVar 4) (dCons (dBin rIxD (dBin rIxD (dVar 1) (dC (.int 0))) (dVar 3)) dNil)))) (.tup [(.name 5), (.name 6)]) (dDrop (dAppend (dVar 2) (dTup (dCons (dVar 5) (dCons (dVar 3) (dCons (dMeth CCompany sp_Company_behind (dVar 0) (dCons (dVar 1) (dCons (dVar 3) (dCons (dVar 6) dNil)))) dNil))))))) dNext))
    t_Company_steps_1))
theorem items_at (as : List Ar) : List.zipWith (fun k d => D.tup [dKey k, d]) (as.map fun a => Sum.inr a.sg) ((as.map Ar.to).map D.int) = as.map atD := by
  induction as with
  | nil => rfl
  | cons a as ih => simp only [List.map_cons, List.zipWith_cons_cons, ih]; rfl
theorem r_Company_steps_1 (ws : List Wr) (s : St) (M : Mp) (Q : DK) (nx : DEnv → Mp → Prop) (e1 e3 e4 e5 e6 e7 : Option D) (p : Addr) (hp : M p = none) (q : ∀ p, M p = none → Q (.ref p) (mupd M p (.lst (stepsD ws s)))) :
    t_Company_steps_1 { nx := nx, rt := Q } [some (coD ws), e1, some (.ref p), e3, e4, e5, e6, e7] (mupd M p (.lst (raw ws s ws.length))) := by
  walk_at "w"
  rw [mupd_same]
  walk_at "w"
  rw [mdel_mupd hp]
  refine ⟨raw_srt ws s _, ?_⟩
  walk_at "w"
  refine lc_map (nmD ws) (fun x hx K1 K2 h1 => ?_) ?_
  · obtain ⟨i, w, a, hs, rfl⟩ := raw_mem ((sortD_perm _).mem_iff.mp hx)
    have h1' : K1 (.tup [.str a.sg, .str (nameAt ws (i : Int).toNat), stD (aft ws w s i a.to)]) M := h1
    rw [Int.toNat_natCast] at h1'
    unfold nameAt at h1'
    rw [hs.wr] at h1'
    walk_at "w"
    refine ⟨rfl, ?_⟩
    walk_at "w"
    rw [atI_map hs.wr]
    exact h1'
  · exact q
theorem r_Company_steps (ds : List D) (M : Mp) (Q : DK) (E : DX) (hl : ds.length = 2) (h : sp_Company_steps ds M Q E) : t_Company_steps { nx := fun _ M' => Q .non M', rt := Q } (startD ["self", "stand", "found", "spot", "writer", "sign", "to", "later"] ds) M := by
  obtain ⟨ws, s, rfl, hok, hp, hwt, q⟩ := h
  have hfew := hok.few
  walk_at "w"
  intro pa hpa
  walk_at "w"
  refine ⟨rfl, ?_⟩
  walk_at "w"
  refine for_inv (fun i env M' => M' = mupd M pa (.lst (raw ws s i)) ∧ ∃ e3 e4 e5 e6 e7, env = [some (coD ws), some (stD s), some (.ref pa), e3, e4, e5, e6, e7]) ⟨rfl, _, _, _, _, _, rfl⟩ (fun i x env M' K hx ⟨eM, e3, e4, e5, e6, e7, e1⟩ hK => ?_) fun env M' ⟨eM, e3, e4, e5, e6, e7, e1⟩ => ?_
  · subst eM e1
    obtain ⟨g, hg, rfl⟩ := pairs_at hx
    rw [List.getElem?_map] at hg
    obtain ⟨w, hw, rfl⟩ := Option.map_eq_some_iff.mp hg
    have hil : i < ws.length := (List.getElem?_eq_some_iff.mp hw).1
    have hip : s.pl[i]? = some (s.pl[i]'(by omega)) := List.getElem?_eq_getElem (by omega)
    have hwk := hok.ok w (List.mem_of_getElem? hw)
    have hra : rawAt ws s i = if mayW ws s i then (arsAt w (s.pl[i]'(by omega))).map (stepD ws s i w) else [] := by
      unfold rawAt; rw [hw, hip]
    have hlen := raw_len hok s i
    walk_at "w"
    refine ⟨rfl, ws, s, i, w, rfl, hok, hw, hp, hwt, ?_⟩
    walk_at "w"
    refine brn_by (fun hc => ?_) fun hc => ?_
    · rw [show mayW ws s i = true from hc, if_pos rfl] at hra
      walk_at "w"
      rw [atI_map hip]
      walk_at "w"
      refine ⟨w, _, rfl, hwk.up, ?_⟩
      walk_at "w"
      rw [show (fun (ks : List L2.Key) (ds : List D) => List.zipWith (fun k d => D.tup [dKey k, d]) ks ds) ((arsAt w (s.pl[i]'(by omega))).map fun a => Sum.inr a.sg) ((arTo w (s.pl[i]'(by omega))).map D.int) = (arsAt w (s.pl[i]'(by omega))).map atD from items_at _]
      have hal : (arsAt w (s.pl[i]'(by omega))).length ≤ 9 := Nat.le_trans (List.length_filter_le _ _) hwk.few
      refine for_inv (fun j env M' => M' = mupd M pa (.lst (raw ws s i ++ ((arsAt w (s.pl[i]'(by omega))).take j).map (stepD ws s i w))) ∧ ∃ e5 e6 e7, env = [some (coD ws), some (stD s), some (.ref pa), some (.int (i : Int)), some (wrD w), e5, e6, e7]) ⟨by simp, _, _, _, rfl⟩ (fun j y env M' K2 hy ⟨eM, e5, e6, e7, e1⟩ hK2 => ?_) fun env M' ⟨eM, e5, e6, e7, e1⟩ => ?_
      · subst eM e1
        rw [List.getElem?_map] at hy
        obtain ⟨a, ha, rfl⟩ := Option.map_eq_some_iff.mp hy
        walk_at "w"
        refine ⟨?_, ?_⟩
        · walk_at "w"
          rw [mupd_same]
          trivial
        walk_at "w"
        refine ⟨rfl, ws, s, i, w, a.to, rfl, hok, hw, hp, hwt, ?_⟩
        walk_at "w"
        rw [mupd_same]
        refine ⟨?_, ?_⟩
        · rw [sizeLine_eq, List.length_append, List.length_map, List.length_take]; omega
        refine hK2 _ _ ⟨?_, _, _, _, rfl⟩
        rw [mupd_mupd, List.take_add_one, ha, List.map_append, ← List.append_assoc]; rfl
      · subst eM e1
        rw [List.length_map, List.take_length]
        refine hK _ _ ⟨?_, _, _, _, _, _, rfl⟩
        rw [raw_succ, hra]
    · rw [show mayW ws s i = false from hc, if_neg Bool.false_ne_true] at hra
      refine hK _ _ ⟨?_, _, _, _, _, _, rfl⟩
      rw [raw_succ, hra, List.append_nil]
  · subst eM e1
    rw [pairs_length, List.length_map]
    exact r_Company_steps_1 ws s M Q _ _ _ _ _ _ _ pa hpa q
/-! ### the law's own -/
def sp_law_steps : SpD := fun ds M Q _ => ∃ ws s, ds = [.lst (ws.map wrD), stD s] ∧ CrewOk ws ∧ StOk ws s ∧ Q (.lst (stepsD ws s)) M
def t_law_steps_1 : DS := (dRet (dLc (iLst (dUn rSortD (dVar 2))) (.tup [(.name 5), (.name 3), (.name 6)]) dYes (dTup (dCons (dVar 5) (dCons (dBin rIxD (dBin rIxD (dVar 0) (dVar 3)) (dC (.int 0))) (dCons (dVar 6) dNil)))) [5, 3, 6]))
def t_law_steps : DS := (dSeq (dSet 2 (dLst dNil))
    (dSeq (dFor (iRange1 (dCons (dUn rLenD (dVar 0)) dNil)) (.name 3) (dIfS (dTru (dCall sp_law_can (dCons (dVar 0) (dCons (dVar 1) (dCons (dVar 3) dNil))))) (dSeq (dSet 4 (dCall sp_law_arrows (dCons (dBin rIxD (dVar 0) (dVar 3)) (dCons (dBin rIxD (dBin rIxD (dVar 1) (dC (.int 0))) (dVar 3)) dNil))))
    (dSet 2 (dBin rAddD (dVar 2) (dLc (iLst (dVar 4)) (.tup [(.name 5), (.name 7)]) dYes (dTup (dCons (dVar 5) (dCons (dVar 3) (dCons (dCall sp_law_after (dCons (dVar 0) (dCons (dVar 1) (dCons (dVar 3) (dCons (dVar 7) dNil))))) dNil)))) [5, 7])))) dNext))
    t_law_steps_1))
theorem r_law_steps_1 (ws : List Wr) (s : St) (M : Mp) (Q : DK) (nx : DEnv → Mp → Prop) (e1 e3 e4 e5 e6 e7 : Option D) (q : Q (.lst (stepsD ws s)) M) :
    t_law_steps_1 { nx := nx, rt := Q } [some (.lst (ws.map wrD)), e1, some (.lst (raw ws s ws.length)), e3, e4, e5, e6, e7] M := by
  walk_at "w"
  refine ⟨raw_srt ws s _, ?_⟩
  walk_at "w"
  refine lc_map (nmD ws) (fun x hx K1 K2 h1 => ?_) ?_
  · obtain ⟨i, w, a, hs, rfl⟩ := raw_mem ((sortD_perm _).mem_iff.mp hx)
    have h1' : K1 (.tup [.str a.sg, .str (nameAt ws (i : Int).toNat), stD (aft ws w s i a.to)]) M := h1
    rw [Int.toNat_natCast] at h1'
    unfold nameAt at h1'
    rw [hs.wr] at h1'
    walk_at "w"
    rw [atI_map hs.wr]
    exact h1'
  · exact q
def lawF (ws : List Wr) (s : St) (i : Nat) (w : Wr) (d : D) : D := match d with
  | .tup [x, .int to] => .tup [x, natI i, stD (aft ws w s i to)]
  | _ => .non
theorem r_law_steps (ds : List D) (M : Mp) (Q : DK) (E : DX) (hl : ds.length = 2) (h : sp_law_steps ds M Q E) : t_law_steps { nx := fun _ M' => Q .non M', rt := Q } (startD ["_law_m", "_law_stand", "_law_found", "_law_spot", "_law_some", "_law_sign", "_law_later", "_law_to"] ds) M := by
  obtain ⟨ws, s, rfl, hok, hs, q⟩ := h
  have hfew := hok.few
  have hp := hs.pl
  walk_at "w"
  rw [List.length_map]
  refine ⟨⟨by omega, by omega⟩, ?_⟩
  rw [Int.toNat_natCast, rng0]
  walk_at "w"
  refine for_inv (fun i env M' => M' = M ∧ ∃ e3 e4 e5 e6 e7, env = [some (.lst (ws.map wrD)), some (stD s), some (.lst (raw ws s i)), e3, e4, e5, e6, e7]) ⟨rfl, _, _, _, _, _, rfl⟩ (fun i x env M' K hx ⟨eM, e3, e4, e5, e6, e7, e1⟩ hK => ?_) fun env M' ⟨eM, e3, e4, e5, e6, e7, e1⟩ => ?_
  · subst eM e1
    rw [List.getElem?_map] at hx
    obtain ⟨k, hk, rfl⟩ := Option.map_eq_some_iff.mp hx
    obtain ⟨hkl, rfl⟩ : i < ws.length ∧ k = i := by
      obtain ⟨h1, h2⟩ := List.getElem?_eq_some_iff.mp hk
      rw [List.length_range] at h1
      rw [List.getElem_range] at h2
      exact ⟨h1, h2.symm⟩
    have hw : ws[k]? = some ws[k] := List.getElem?_eq_getElem hkl
    have hip : s.pl[k]? = some (s.pl[k]'(by omega)) := List.getElem?_eq_getElem (by omega)
    have hwk := hok.ok _ (List.getElem_mem hkl)
    have hra : rawAt ws s k = if mayW ws s k then (arsAt ws[k] (s.pl[k]'(by omega))).map (stepD ws s k ws[k]) else [] := by
      unfold rawAt; rw [hw, hip]
    have hlen := raw_len hok s k
    walk_at "w"
    refine ⟨ws, s, k, ws[k], rfl, hok, hw, hp, hs.wt, ?_⟩
    walk_at "w"
    refine brn_by (fun hc => ?_) fun hc => ?_
    · rw [show mayW ws s k = true from hc, if_pos rfl] at hra
      walk_at "w"
      rw [atI_map hw]
      walk_at "w"
      rw [atI_map hip]
      walk_at "w"
      refine ⟨ws[k], _, rfl, ?_⟩
      walk_at "w"
      refine lc_map (lawF ws s k ws[k]) (fun x hx K1 K2 h1 => ?_) ?_
      · obtain ⟨a, ha, rfl⟩ := List.mem_map.mp hx
        walk_at "w"
        refine ⟨ws, s, k, ws[k], a.to, rfl, hok, hw, hs, ?_⟩
        exact h1
      · have e : ((arsAt ws[k] (s.pl[k]'(by omega))).map atD).map (lawF ws s k ws[k]) = rawAt ws s k := by
          rw [hra, List.map_map]; rfl
        rw [e]
        have hr9 := rawAt_len hok s k
        walk_at "w"
        refine ⟨by rw [sizeLine_eq]; omega, ?_⟩
        have e2 := raw_succ ws s k
        refine hK _ _ ⟨rfl, some (natI k), some (.lst ((arsAt ws[k] (s.pl[k]'(by omega))).map atD)), e5, e6, e7, ?_⟩
        rw [e2]
        rfl
    · rw [show mayW ws s k = false from hc, if_neg Bool.false_ne_true] at hra
      refine hK _ _ ⟨rfl, some (natI k), e4, e5, e6, e7, ?_⟩
      rw [raw_succ, hra, List.append_nil]
      rfl
  · subst eM e1
    rw [List.length_map, List.length_range]
    exact r_law_steps_1 ws s _ Q _ _ _ _ _ _ _ q
end L3
set_option Elab.async false
set_option linter.all false
set_option maxRecDepth 100000
set_option maxHeartbeats 1000000
/-! Readings of shared helpers, ninth part: stands carried; another company drawn. -/
namespace L3
open PySem PySem.Spec PyProof.Rows L2
local macro_rules | `(tactic| walk_at "w") => `(tactic| conv => whnf)
/-! ### runs -/
def RunOk (n : Nat) (s : St) : Prop := (s.la = -1 ∧ s.mn = 0) ∨ ∃ i : Nat, i < n ∧ s.la = i
theorem run0 (n m : Nat) : RunOk n (st0 m) := .inl ⟨rfl, rfl⟩
theorem run_aft {ws : List Wr} {w : Wr} {s : St} {i n : Nat} (hi : i < n) (to : Int) : RunOk n (aft ws w s i to) := by
  by_cases hc : 0 < w.cap
  · refine .inr ⟨i, hi, ?_⟩
    show (runOf w s i).1 = _
    unfold runOf
    rw [if_pos hc]
  · refine .inl ⟨?_, ?_⟩
    · show (runOf w s i).1 = _
      unfold runOf
      rw [if_neg hc]
    · show (runOf w s i).2 = _
      unfold runOf
      rw [if_neg hc]
/-! ### the first place of an equal one -/
def spotOf (xs : List D) (d : D) : Int := match xs.findIdx? fun z => eqD z d with
  | some j => (j : Int)
  | none => -1
theorem spot_any {xs : List D} {d : D} (h : (xs.any fun z => eqD z d) = true) : ∃ j, (xs.findIdx? fun z => eqD z d) = some j ∧ j < xs.length := by
  cases e : xs.findIdx? fun z => eqD z d with
  | none =>
    rw [List.findIdx?_eq_none_iff] at e
    obtain ⟨z, hz, hq⟩ := List.any_eq_true.mp h
    rw [e z hz] at hq
    cases hq
  | some j => exact ⟨j, rfl, (List.findIdx?_eq_some_iff_getElem.mp e).1⟩
theorem spot_none {xs : List D} {d : D} (h : (xs.any fun z => eqD z d) = false) : (xs.findIdx? fun z => eqD z d) = none := by
  rw [List.findIdx?_eq_none_iff]
  intro z hz
  have := List.any_eq_false.mp h z hz
  simpa using this
theorem spot_lt (xs : List D) (d : D) : spotOf xs d < xs.length ∧ -1 ≤ spotOf xs d := by
  unfold spotOf
  cases e : xs.findIdx? fun z => eqD z d with
  | none => exact ⟨by show (-1 : Int) < _; omega, by show (-1 : Int) ≤ -1; omega⟩
  | some j =>
    have := (List.findIdx?_eq_some_iff_getElem.mp e).1
    exact ⟨by show (j : Int) < _; omega, by show (-1 : Int) ≤ (j : Int); omega⟩
def spotsOf (one other : List Wr) : List Int := other.map fun w => spotOf (one.map wrD) (wrD w)
/-- what a row of numbers becomes -/
def keepAt (xs : List Int) (k : Int) : Int := if 0 ≤ k then (xs[k.toNat]?).getD 0 else 0
def carry (one other : List Wr) (s : St) : St :=
  let sp := spotsOf one other
  let r : Int × Int := if 0 ≤ s.la then (match (sp.map D.int).findIdx? fun z => eqD z (.int s.la) with
    | some j => ((j : Int), s.mn)
    | none => (-1, 0)) else (-1, 0)
  ⟨sp.map (keepAt s.pl), sp.map (keepAt s.wt), r.1, r.2⟩
theorem carry_run (one other : List Wr) (s : St) : RunOk other.length (carry one other s) := by
  unfold RunOk carry
  simp only
  by_cases h : 0 ≤ s.la
  · rw [if_pos h]
    cases e : ((spotsOf one other).map D.int).findIdx? fun z => eqD z (.int s.la) with
    | none => exact .inl ⟨rfl, rfl⟩
    | some j =>
      have := (List.findIdx?_eq_some_iff_getElem.mp e).1
      rw [List.length_map, spotsOf, List.length_map] at this
      exact .inr ⟨j, this, rfl⟩
  · rw [if_neg h]
    exact .inl ⟨rfl, rfl⟩
theorem carry_len (one other : List Wr) (s : St) : (carry one other s).pl.length = other.length ∧ (carry one other s).wt.length = other.length := by
  unfold carry spotsOf
  simp
theorem wr_le59 (ws : List Wr) : D.les 58 (ws.map wrD) = true := les_of fun d hd => by
  obtain ⟨w, _, rfl⟩ := List.mem_map.mp hd
  unfold wrD
  simp only [D.le, D.les, Bool.and_true, Bool.true_and]
  exact les_of fun d hd => by obtain ⟨a, _, rfl⟩ := List.mem_map.mp hd; rfl
theorem wr_le60 (w : Wr) : D.le 60 (wrD w) = true := by
  unfold wrD
  simp only [D.le, D.les, Bool.and_true, Bool.true_and]
  exact les_of fun d hd => by obtain ⟨a, _, rfl⟩ := List.mem_map.mp hd; rfl
theorem ints_le (xs : List Int) : D.les 58 (xs.map D.int) = true := les_of fun d hd => by obtain ⟨x, _, rfl⟩ := List.mem_map.mp hd; rfl
/-! ### the program's -/
def sp_Company_writers : SpD := fun ds M Q _ => ∃ ws : List Wr, ds = [coD ws] ∧ Q (.lst (ws.map wrD)) M
def t_Company_writers : DS := (dRet (dUn rListD (dFld CCompany 0 (dVar 0))))
theorem r_Company_writers (ds : List D) (M : Mp) (Q : DK) (E : DX) (hl : ds.length = 1) (h : sp_Company_writers ds M Q E) : t_Company_writers { nx := fun _ M' => Q .non M', rt := Q } (startD ["self"] ds) M := by
  obtain ⟨ws, rfl, q⟩ := h
  walk_at "w"
  exact ⟨rfl, q⟩
def sp_carried : SpD := fun ds M Q _ => ∃ one other s, ds = [coD one, coD other, stD s] ∧ s.pl.length = one.length ∧ s.wt.length = one.length ∧ Q (stD (carry one other s)) M
def t_carried : DS := (dSeq (dAsg (dVar 2) (.tup [(.name 6), (.name 7), (.tup [(.name 8), (.name 9)])]))
    (dSeq (dSet 3 (dMeth CCompany sp_Company_writers (dVar 0) dNil))
    (dSeq (dSet 4 (dLc (iLst (dMeth CCompany sp_Company_writers (dVar 1) dNil)) (.name 10) dYes (dIf (dTest (dBin (rInDD id) (dVar 10) (dVar 3))) (dIndex (dVar 3) (dVar 10)) (dUn rNegI (dC (.int 1)))) [10]))
    (dSeq (dSet 5 (dIf (dAnd (dTest (dBin rGeI (dVar 8) (dC (.int 0)))) (dTest (dBin (rInDD id) (dVar 8) (dVar 4)))) (dTup (dCons (dIndex (dVar 4) (dVar 8)) (dCons (dVar 9) dNil))) (dC (.tup [(.int (-1)), (.int 0)]))))
    (dRet (dTup (dCons (dUn rTupleD (dLc (iLst (dVar 4)) (.name 11) dYes (dIf (dTest (dBin rGeI (dVar 11) (dC (.int 0)))) (dBin rIxD (dVar 6) (dVar 11)) (dC (.int 0))) [11])) (dCons (dUn rTupleD (dLc (iLst (dVar 4)) (.name 11) dYes (dIf (dTest (dBin rGeI (dVar 11) (dC (.int 0)))) (dBin rIxD (dVar 7) (dVar 11)) (dC (.int 0))) [11])) (dCons (dVar 5) dNil)))))))))
def keepD (xs : List Int) (d : D) : D := match d with
  | .int k => .int (keepAt xs k)
  | _ => .non
theorem keep_list (xs ks : List Int) : (ks.map D.int).map (keepD xs) = (ks.map (keepAt xs)).map D.int := by
  rw [List.map_map, List.map_map]; rfl
/-- [xs[k] if k >= 0 else 0 for k in ks] -/
theorem r_keep {xs ks : List Int} (hk : ∀ k ∈ ks, k < xs.length ∧ -1 ≤ k) {M : Mp} {Q : List D → Mp → Prop} {t : Tg} {te : DE} {env : DEnv}
    (h : ∀ k ∈ ks, ∀ K1 : DK, brn (decide (0 ≤ k)) (rIxI (.int k) (xs.map D.int) M K1) (K1 (.int 0) M) → t.bind (.int k) env fun env1 => te env1 M K1) (q : Q ((ks.map (keepAt xs)).map D.int) M) :
    dLcL t dYes te env (ks.map D.int) [] M Q := by
  rw [← keep_list] at q
  refine lc_map (keepD xs) (fun x hx K1 K2 h1 => ?_) q
  obtain ⟨k, hkm, rfl⟩ := List.mem_map.mp hx
  obtain ⟨hk1, hk2⟩ := hk k hkm
  refine h k hkm K1 ?_
  have h1' : K1 (.int (keepAt xs k)) M := h1
  refine brn_by (fun hc => ?_) fun hc => ?_
  · have h0 : 0 ≤ k := of_decide_eq_true hc
    obtain ⟨j, rfl⟩ := Int.eq_ofNat_of_zero_le h0
    have hj : xs[j]? = some (xs[j]'(by omega)) := List.getElem?_eq_getElem (by omega)
    unfold keepAt at h1'
    rw [if_pos h0, Int.toNat_natCast, hj] at h1'
    show (match atI (xs.map D.int) (j : Int) with | some x => K1 x M | none => False)
    rw [atI_map hj]
    exact h1'
  · have h0 : ¬ 0 ≤ k := of_decide_eq_false hc
    unfold keepAt at h1'
    rw [if_neg h0] at h1'
    exact h1'
theorem spots_ok (one other : List Wr) : ∀ k ∈ spotsOf one other, k < one.length ∧ -1 ≤ k := fun k hk => by
  obtain ⟨w, _, rfl⟩ := List.mem_map.mp hk
  have := spot_lt (one.map wrD) (wrD w)
  rw [List.length_map] at this
  exact this
def spotD (one : List Wr) (d : D) : D := .int (spotOf (one.map wrD) d)
theorem spot_list (one other : List Wr) : (other.map wrD).map (spotD one) = (spotsOf one other).map D.int := by
  unfold spotsOf
  rw [List.map_map, List.map_map]; rfl
theorem carry_D (one other : List Wr) (s : St) (r : D) (hr : (if 0 ≤ s.la then (match ((spotsOf one other).map D.int).findIdx? fun z => eqD z (.int s.la) with
    | some j => D.tup [.int (j : Int), .int s.mn]
    | none => .tup [.int (-1), .int 0]) else .tup [.int (-1), .int 0]) = r) :
    stD (carry one other s) = .tup [.tup (((spotsOf one other).map (keepAt s.pl)).map D.int), .tup (((spotsOf one other).map (keepAt s.wt)).map D.int), r] := by
  rw [← hr]
  unfold carry stD
  by_cases h : 0 ≤ s.la
  · simp only [if_pos h]
    cases ((spotsOf one other).map D.int).findIdx? fun z => eqD z (.int s.la) <;> rfl
  · simp only [if_neg h]
theorem r_carried (ds : List D) (M : Mp) (Q : DK) (E : DX) (hl : ds.length = 3) (h : sp_carried ds M Q E) : t_carried { nx := fun _ M' => Q .non M', rt := Q } (startD ["one", "other", "stand", "elder", "spots", "run", "places", "waits", "last", "many", "writer", "spot"] ds) M := by
  obtain ⟨one, other, s, rfl, hp, hwt, q⟩ := h
  walk_at "w"
  refine ⟨rfl, one, rfl, ?_⟩
  walk_at "w"
  refine ⟨rfl, other, rfl, ?_⟩
  walk_at "w"
  refine lc_map (spotD one) (fun x hx K1 K2 h1 => ?_) ?_
  · obtain ⟨w, _, rfl⟩ := List.mem_map.mp hx
    have h1' : K1 (.int (spotOf (one.map wrD) (wrD w))) M := h1
    unfold spotOf at h1'
    walk_at "w"
    refine ⟨⟨wr_le60 w, wr_le59 one⟩, ?_⟩
    walk_at "w"
    refine brn_by (fun hc => ?_) fun hc => ?_
    · have hc' : ((one.map wrD).any fun z => eqD z (wrD w)) = true := hc
      obtain ⟨j, hj, _⟩ := spot_any hc'
      rw [hj] at h1'
      walk_at "w"
      refine ⟨trivial, ?_⟩
      walk_at "w"
      refine ⟨⟨wr_le59 one, wr_le60 w⟩, ?_⟩
      rw [hj]
      exact h1'
    · have hc' : ((one.map wrD).any fun z => eqD z (wrD w)) = false := hc
      rw [spot_none hc'] at h1'
      exact h1'
  · rw [spot_list]
    have sok := spots_ok one other
    have fin : ∀ r, (if 0 ≤ s.la then (match ((spotsOf one other).map D.int).findIdx? fun z => eqD z (.int s.la) with
        | some j => D.tup [.int (j : Int), .int s.mn]
        | none => .tup [.int (-1), .int 0]) else .tup [.int (-1), .int 0]) = r →
        (dRet (dTup (dCons (dUn rTupleD (dLc (iLst (dVar 4)) (.name 11) dYes (dIf (dTest (dBin rGeI (dVar 11) (dC (.int 0)))) (dBin rIxD (dVar 6) (dVar 11)) (dC (.int 0))) [11])) (dCons (dUn rTupleD (dLc (iLst (dVar 4)) (.name 11) dYes (dIf (dTest (dBin rGeI (dVar 11) (dC (.int 0)))) (dBin rIxD (dVar 7) (dVar 11)) (dC (.int 0))) [11])) (dCons (dVar 5) dNil))))) { nx := fun _ M' => Q .non M', rt := Q }
          [some (coD one), some (coD other), some (stD s), some (.lst (one.map wrD)), some (.lst ((spotsOf one other).map D.int)), some r, some (.tup (s.pl.map D.int)), some (.tup (s.wt.map D.int)), some (.int s.la), some (.int s.mn), none, none] M := fun r hr => by
      walk_at "w"
      refine r_keep (xs := s.pl) (fun k hk => by have := sok k hk; omega) (fun k hk K1 h => h) ?_
      walk_at "w"
      refine r_keep (xs := s.wt) (fun k hk => by have := sok k hk; omega) (fun k hk K1 h => h) ?_
      rw [carry_D one other s r hr] at q
      exact q
    walk_at "w"
    refine brn_by (fun hc => ?_) fun hc => ?_
    · have h0 : 0 ≤ s.la := of_decide_eq_true hc
      walk_at "w"
      refine ⟨⟨rfl, ints_le _⟩, ?_⟩
      walk_at "w"
      refine brn_by (fun hd => ?_) fun hd => ?_
      · have hd' : (((spotsOf one other).map D.int).any fun z => eqD z (.int s.la)) = true := hd
        obtain ⟨j, hj, _⟩ := spot_any hd'
        walk_at "w"
        refine ⟨trivial, ?_⟩
        walk_at "w"
        refine ⟨⟨ints_le _, rfl⟩, ?_⟩
        rw [hj]
        exact fin _ (by rw [if_pos h0, hj])
      · have hd' : (((spotsOf one other).map D.int).any fun z => eqD z (.int s.la)) = false := hd
        exact fin _ (by rw [if_pos h0, spot_none hd'])
    · exact fin _ (if_neg (of_decide_eq_false hc))
/-! ### the law's own -/
def sp_law_carried : SpD := fun ds M Q _ => ∃ one other s, ds = [.lst (one.map wrD), .lst (other.map wrD), stD s] ∧ s.pl.length = one.length ∧ s.wt.length = one.length ∧ Q (stD (carry one other s)) M
def t_law_carried : DS := (dSeq (dAsg (dVar 2) (.tup [(.name 6), (.name 7), (.name 8)]))
    (dSeq (dSet 3 (dLc (iLst (dVar 1)) (.name 9) dYes (dIf (dTest (dBin (rInDD id) (dVar 9) (dVar 0))) (dIndex (dVar 0) (dVar 9)) (dUn rNegI (dC (.int 1)))) [9]))
    (dSeq (dSet 4 (dIf (dAnd (dTest (dBin rGeI (dBin rIxD (dVar 8) (dC (.int 0))) (dC (.int 0)))) (dTest (dBin (rInDD id) (dBin rIxD (dVar 8) (dC (.int 0))) (dVar 3)))) (dTup (dCons (dIndex (dVar 3) (dBin rIxD (dVar 8) (dC (.int 0)))) (dCons (dBin rIxD (dVar 8) (dC (.int 1))) dNil))) (dTup (dCons (dUn rNegI (dC (.int 1))) (dCons (dC (.int 0)) dNil)))))
    (dSeq (dSet 5 (dUn rTupleD (dLc (iLst (dVar 3)) (.name 10) dYes (dIf (dTest (dBin rGeI (dVar 10) (dC (.int 0)))) (dBin rIxD (dVar 6) (dVar 10)) (dC (.int 0))) [10])))
    (dRet (dTup (dCons (dVar 5) (dCons (dUn rTupleD (dLc (iLst (dVar 3)) (.name 10) dYes (dIf (dTest (dBin rGeI (dVar 10) (dC (.int 0)))) (dBin rIxD (dVar 7) (dVar 10)) (dC (.int 0))) [10])) (dCons (dVar 4) dNil)))))))))
theorem r_law_carried (ds : List D) (M : Mp) (Q : DK) (E : DX) (hl : ds.length = 3) (h : sp_law_carried ds M Q E) : t_law_carried { nx := fun _ M' => Q .non M', rt := Q } (startD ["_law_one", "_law_other", "_law_stand", "_law_spots", "_law_fresh_here", "_law_later", "_law_places", "_law_waits", "_law_run", "_law_writer_here", "_law_spot"] ds) M := by
  obtain ⟨one, other, s, rfl, hp, hwt, q⟩ := h
  walk_at "w"
  refine lc_map (spotD one) (fun x hx K1 K2 h1 => ?_) ?_
  · obtain ⟨w, _, rfl⟩ := List.mem_map.mp hx
    have h1' : K1 (.int (spotOf (one.map wrD) (wrD w))) M := h1
    unfold spotOf at h1'
    walk_at "w"
    refine ⟨⟨wr_le60 w, wr_le59 one⟩, ?_⟩
    walk_at "w"
    refine brn_by (fun hc => ?_) fun hc => ?_
    · have hc' : ((one.map wrD).any fun z => eqD z (wrD w)) = true := hc
      obtain ⟨j, hj, _⟩ := spot_any hc'
      rw [hj] at h1'
      walk_at "w"
      refine ⟨trivial, ?_⟩
      walk_at "w"
      refine ⟨⟨wr_le59 one, wr_le60 w⟩, ?_⟩
      rw [hj]
      exact h1'
    · have hc' : ((one.map wrD).any fun z => eqD z (wrD w)) = false := hc
      rw [spot_none hc'] at h1'
      exact h1'
  · rw [spot_list]
    have sok := spots_ok one other
    have fin : ∀ r, (if 0 ≤ s.la then (match ((spotsOf one other).map D.int).findIdx? fun z => eqD z (.int s.la) with
        | some j => D.tup [.int (j : Int), .int s.mn]
        | none => .tup [.int (-1), .int 0]) else .tup [.int (-1), .int 0]) = r →
        (dSeq (dSet 5 (dUn rTupleD (dLc (iLst (dVar 3)) (.name 10) dYes (dIf (dTest (dBin rGeI (dVar 10) (dC (.int 0)))) (dBin rIxD (dVar 6) (dVar 10)) (dC (.int 0))) [10])))
          (dRet (dTup (dCons (dVar 5) (dCons (dUn rTupleD (dLc (iLst (dVar 3)) (.name 10) dYes (dIf (dTest (dBin rGeI (dVar 10) (dC (.int 0)))) (dBin rIxD (dVar 7) (dVar 10)) (dC (.int 0))) [10])) (dCons (dVar 4) dNil)))))) { nx := fun _ M' => Q .non M', rt := Q }
          [some (.lst (one.map wrD)), some (.lst (other.map wrD)), some (stD s), some (.lst ((spotsOf one other).map D.int)), some r, none, some (.tup (s.pl.map D.int)), some (.tup (s.wt.map D.int)), some (.tup [.int s.la, .int s.mn]), none, none] M := fun r hr => by
      walk_at "w"
      refine r_keep (xs := s.pl) (fun k hk => by have := sok k hk; omega) (fun k hk K1 h => h) ?_
      walk_at "w"
      refine r_keep (xs := s.wt) (fun k hk => by have := sok k hk; omega) (fun k hk K1 h => h) ?_
      rw [carry_D one other s r hr] at q
      exact q
    walk_at "w"
    refine brn_by (fun hc => ?_) fun hc => ?_
    · have h0 : 0 ≤ s.la := of_decide_eq_true hc
      walk_at "w"
      refine ⟨⟨rfl, ints_le _⟩, ?_⟩
      walk_at "w"
      refine brn_by (fun hd => ?_) fun hd => ?_
      · have hd' : (((spotsOf one other).map D.int).any fun z => eqD z (.int s.la)) = true := hd
        obtain ⟨j, hj, _⟩ := spot_any hd'
        walk_at "w"
        refine ⟨trivial, ?_⟩
        walk_at "w"
        refine ⟨⟨ints_le _, rfl⟩, ?_⟩
        rw [hj]
        exact fin _ (by rw [if_pos h0, hj])
      · have hd' : (((spotsOf one other).map D.int).any fun z => eqD z (.int s.la)) = false := hd
        exact fin _ (by rw [if_pos h0, spot_none hd'])
    · exact fin _ (if_neg (of_decide_eq_false hc))
end L3
set_option Elab.async false
set_option linter.all false
set_option maxRecDepth 100000
set_option maxHeartbeats 1000000
/-! L3: dicts whose keys are tuples of any depth. -/
namespace L3
open PySem PySem.Spec PyProof.Rows L2 NS
/-! ### the rows and the kit's list of them -/
abbrev XRow := NestedKey × Addr × Value
def RowX (r : DRow) (x : XRow) : Prop := x.1 = keyN r.2.1 ∧ x.2.1 = r.1 ∧ RelV r.2.2 x.2.2
theorem rows_x {w : World} : ∀ {Ls : List DRow} {es : List DictEntry}, Paired (RowIs w) Ls es → ∃ xs : List XRow, Paired RowX Ls xs ∧ es = xs.map fun x => ⟨x.1.hash w, .ref x.2.1, x.2.2⟩
  | _, _, .nil => ⟨[], .nil, rfl⟩
  | r :: Ls, e :: es, .cons ⟨h1, h2, h3⟩ t => by
    obtain ⟨xs, p, q⟩ := rows_x t
    obtain ⟨a, b, c⟩ := e
    simp only at h1 h2 h3
    subst h1 h2
    exact ⟨(keyN r.2.1, r.1, c) :: xs, .cons ⟨rfl, rfl, h3⟩ p, by rw [List.map_cons, ← q]⟩
theorem x_rows {w : World} : ∀ {Ls : List DRow} {xs : List XRow}, Paired RowX Ls xs → Paired (RowIs w) Ls (xs.map fun x => (⟨x.1.hash w, .ref x.2.1, x.2.2⟩ : DictEntry))
  | _, _, .nil => .nil
  | _, _, .cons ⟨h1, h2, h3⟩ t => .cons ⟨congrArg (NestedKey.hash w) h1, congrArg Value.ref h2, h3⟩ (x_rows t)
theorem x_keys : ∀ {Ls : List DRow} {xs : List XRow}, Paired RowX Ls xs → xs.map (·.1) = Ls.map fun r => keyN r.2.1
  | _, _, .nil => rfl
  | _, _, .cons ⟨h1, _, _⟩ t => by rw [List.map_cons, List.map_cons, h1, x_keys t]
theorem x_mem : ∀ {Ls : List DRow} {xs : List XRow}, Paired RowX Ls xs → ∀ x ∈ xs, ∃ r ∈ Ls, RowX r x
  | _, _, .nil, _, h => nomatch h
  | _, _, .cons (a := r) h t, x, hx => by
    rcases List.mem_cons.mp hx with rfl | hx
    · exact ⟨r, List.mem_cons_self, h⟩
    · obtain ⟨q, hq, z⟩ := x_mem t x hx
      exact ⟨q, List.mem_cons_of_mem _ hq, z⟩
def sameK (a b : D) : Bool := decide (keyN a = keyN b)
/-- a row put -/
def putRow (Ls : List DRow) (p : Addr) (y : D) (v : V) : List DRow := if (Ls.any fun r => sameK r.2.1 y) = true then Ls.map fun r => if sameK r.2.1 y = true then (r.1, r.2.1, v) else r else Ls ++ [(p, y, v)]
theorem x_find {y : D} : ∀ {Ls : List DRow} {xs : List XRow}, Paired RowX Ls xs → (atKey xs (keyN y)).isSome = Ls.any fun r => sameK r.2.1 y
  | _, _, .nil => rfl
  | _, _, .cons (a := r) (b := x) (l₂ := xs) ⟨h1, _, _⟩ t => by
    have ih := x_find (y := y) t
    unfold atKey sameK at *
    rw [List.find?_cons, List.any_cons, h1]
    by_cases c : keyN r.2.1 = keyN y
    · simp [c]
    · simpa [c] using ih
theorem x_put {p : Addr} {y : D} {v : V} {u : Value} (hv : RelV v u) {Ls : List DRow} {xs : List XRow} (P : Paired RowX Ls xs) : Paired RowX (putRow Ls p y v) (storedH xs (keyN y) p u) := by
  unfold putRow storedH
  rw [x_find P]
  by_cases c : (Ls.any fun r => sameK r.2.1 y) = true
  · rw [if_pos c, if_pos c]
    clear c
    induction P with
    | nil => exact .nil
    | @cons r x l1 l2 h t ih =>
      obtain ⟨h1, h2, h3⟩ := h
      refine .cons ?_ ih
      show RowX (if sameK r.2.1 y = true then (r.1, r.2.1, v) else r) (putAt (keyN y) u x)
      unfold putAt sameK
      by_cases c : keyN r.2.1 = keyN y
      · rw [if_pos (by simpa using c), if_pos (h1.trans c)]; exact ⟨h1, h2, hv⟩
      · rw [if_neg (by simpa using c), if_neg (by rw [h1]; exact c)]; exact ⟨h1, h2, h3⟩
  · rw [if_neg c, if_neg c]
    exact P.snoc ⟨rfl, rfl, hv⟩
theorem putRow_keys {Ls : List DRow} {p : Addr} {y : D} {v : V} : (putRow Ls p y v).map (·.2.1) = if (Ls.any fun r => sameK r.2.1 y) = true then Ls.map (·.2.1) else Ls.map (·.2.1) ++ [y] := by
  unfold putRow
  split
  · rw [List.map_map]; refine List.map_congr_left fun r _ => ?_; show (if _ then _ else _ : DRow).2.1 = _; split <;> rfl
  · simp
theorem putRow_nodup {Ls : List DRow} {p : Addr} {y : D} {v : V} (h : (Ls.map fun r => keyN r.2.1).Nodup) : ((putRow Ls p y v).map fun r => keyN r.2.1).Nodup := by
  have e : ((putRow Ls p y v).map fun r => keyN r.2.1) = ((putRow Ls p y v).map (·.2.1)).map keyN := by rw [List.map_map]; rfl
  rw [e, putRow_keys]
  have e2 : (Ls.map (·.2.1)).map keyN = Ls.map fun r => keyN r.2.1 := by rw [List.map_map]; rfl
  split
  · rw [e2]; exact h
  · rename_i hn
    rw [List.map_append, e2, List.nodup_append]
    refine ⟨h, by simp, fun a ha b hb z => hn ?_⟩
    obtain ⟨r, hr, rfl⟩ := List.mem_map.mp ha
    simp only [List.map_cons, List.map_nil, List.mem_singleton] at hb
    exact List.any_eq_true.mpr ⟨r, hr, by unfold sameK; rw [z, hb]; simp⟩
theorem putRow_len {Ls : List DRow} {p : Addr} {y : D} {v : V} : (putRow Ls p y v).length ≤ Ls.length + 1 := by
  unfold putRow; split <;> simp
theorem putRow_mem {Ls : List DRow} {p : Addr} {y : D} {v : V} : ∀ r ∈ putRow Ls p y v, (∃ q ∈ Ls, q.1 = r.1 ∧ q.2.1 = r.2.1) ∨ (r.1 = p ∧ r.2.1 = y) := by
  intro r hr
  unfold putRow at hr
  split at hr
  · obtain ⟨q, hq, e⟩ := List.mem_map.mp hr
    refine .inl ⟨q, hq, ?_⟩
    split at e <;> subst e <;> exact ⟨rfl, rfl⟩
  · rcases List.mem_append.mp hr with h | h
    · exact .inl ⟨r, h, rfl, rfl⟩
    · rw [List.mem_singleton.mp h]; exact .inr ⟨rfl, rfl⟩
/-- the dict as the kit tells it -/
theorem dk_kit {P : Program} {w : World} {h : Heap} {a : Addr} {Ls : List DRow} (D : DkAt w a Ls h) (keys : ∀ r ∈ Ls, Kat h (keyN r.2.1) r.1) : ∃ xs : List XRow, Paired RowX Ls xs ∧ h.DictOfH (nestedKind P w) a xs := by
  obtain ⟨⟨_, _, _, nd⟩, o, es, ep, ho, hc, hd, rows⟩ := D
  obtain ⟨xs, px, ex⟩ := rows_x rows
  refine ⟨xs, px, o, es, ep, ho, hc, hd, ex, fun x hx => ?_, by rw [x_keys px]; exact nd⟩
  obtain ⟨r, hr, e1, e2, _⟩ := x_mem px x hx
  have k := keys r hr
  exact ⟨by rw [e1, e2]; exact k.is, by rw [e1]; exact k.dp⟩
theorem kit_dk {P : Program} {w : World} {h : Heap} {a : Addr} {Ls : List DRow} {xs : List XRow} (D : h.DictOfH (nestedKind P w) a xs) (px : Paired RowX Ls xs) (hs : (a == sysModules) = false) (len : Ls.length ≤ sizeLine) (hk : ∀ r ∈ Ls, isKey r.2.1 = true) : DkAt w a Ls h := by
  obtain ⟨o, es, ep, ho, hc, hd, ex, _, nd⟩ := D
  refine ⟨⟨hs, len, hk, by rw [← x_keys px]; exact nd⟩, o, es, ep, ho, hc, hd, ?_⟩
  have e : es.toList = xs.map fun x => (⟨x.1.hash w, .ref x.2.1, x.2.2⟩ : DictEntry) := ex
  rw [e]; exact x_rows px
theorem dk_new {P : Program} {w : World} {H : Hp} {h : Heap} {a : Addr} {Ls : List DRow} (D : DkAt w a Ls h) : ObjOk P w H h a (DkO w a Ls) := by
  obtain ⟨_, o, _, _, ho, _⟩ := id D
  exact ⟨D, ⟨o, ho⟩, fun h1 h2 ⟨z, o, es, ep, ho, q⟩ k => ⟨z, o, es, ep, k o ho, q⟩⟩
section
variable {X : Cx} {pins : List (Addr × Obj)} {σ : L2.St} {H : Hp} {s : Shared} {F : Hp}
theorem keys_at (I : Inv X pins σ H s) (sm : Same F H) {Ls : List DRow} (hk : ∀ r ∈ Ls, Rep X.K F r.2.1 (.ref r.1) ∧ isKey r.2.1 = true) : ∀ r ∈ Ls, Kat s.heap (keyN r.2.1) r.1 := fun r hr => by
  obtain ⟨n1, _, n2, _⟩ := nk_at I sm (hk r hr).1 (u := .ref r.1) rfl (isKey_nk (hk r hr).2)
  exact ⟨n1, n2⟩
end
/-! ### {} -/
section
variable {X : Cx} {e : Expr} {te to ti : DE} {pos tpos p : Pos} {o i : Expr}
theorem pe_relabel {t : TE} (h : PE X e t) : PE X e (fun σ H Q => t σ H fun v H1 => ∃ d u u', v = .ref d ∧ H1 d = some u ∧ Mut (some u) ∧ (∀ (s : Heap) H', ObjOk X.prog X.w H1 s d u → ObjOk X.prog X.w H' s d u' ∧ ∃ o, s.get? d = some o) ∧ Q v (upd H1 d u')) := ⟨fun pins s σ H Q I q =>
  thn (h.run pins s σ H _ I q) fun u s1 ⟨v, H1, I1, r, d, u1, u', ev, hd, mu, ok, q1⟩ => by
    obtain ⟨new, ex⟩ := ok s1.heap (upd H1 d u') (I1.hok d u1 hd)
    exact ⟨v, _, I1.write (t' := s1.toks) (by rw [hd]; exact mu) (.inl rfl) (fun b u _ z => z) ex new, r, q1⟩⟩
def dDk0 (w : World) : DE := fun _ M Q => ∀ p, M p = none → Q (.ref p) (mupd M p (.dkd w [] []))
theorem pd_dk0 : PDE X (.Dict [] [] pos) (dDk0 X.w) := pe_imp (pe_relabel pe_dnewK) fun σ H Q ⟨R, F, env, M, Qd, a, e, h, k⟩ p hp => ⟨p, _, DkO X.w p [], rfl, upd_same, trivial, fun s H' ok => by
    obtain ⟨z, hs, vs, rel, dd⟩ := ok
    cases rel
    obtain ⟨es, ep, ⟨o, ho, hc, hd⟩, hz, _⟩ := dd.raw
    refine ⟨dk_new ⟨⟨hs, Nat.zero_le _, (fun r hr => nomatch hr), List.nodup_nil⟩, o, es, ep, ho, hc, hd, ?_⟩, o, ho⟩
    have : es.toList = [] := by
      apply List.eq_nil_of_length_eq_zero; simpa using hz
    rw [this]; exact .nil, by
  rw [upd_upd]
  exact k F _ _ (.ref p) _ (Same.refl F) (a.born hp (o := .dkd X.w [] []) ⟨[], rfl, rfl, rfl, rfl⟩) rfl (h p (a.freeM hp))⟩
/-! ### d[k] = v -/
def rSetDk (K : PySem.W.Frag) (w : World) : V → V → V → Hp → (Hp → Prop) → Prop := fun o i v H Q => ∃ a Ls p y F, o = .ref a ∧ i = .ref p ∧ H a = some (DkO w a Ls) ∧ Same F H ∧ Rep K F y (.ref p) ∧ isKey y = true ∧ (∀ r ∈ Ls, Rep K F r.2.1 (.ref r.1)) ∧ Ls.length < sizeLine ∧ Q (upd H a (DkO w a (putRow Ls p y v)))
theorem set_dk (hu : X.A.units + 65 < cLine) : PSet X (rSetDk X.K X.w) := by
  intro pins s σ H o i v ov iv u Q I ro ri rv ⟨a, Ls, p, y, F, eo, ei, ha, sm, ry, ky, rk, few, q⟩
  subst eo ei
  cases (show ov = Value.ref a from ro)
  cases (show iv = Value.ref p from ri)
  have D := (I.hok a _ ha).1
  have D0 : DkAt X.w a Ls s.heap := D
  obtain ⟨⟨hs, _, hk, _⟩, _⟩ := id D0
  obtain ⟨xs, px, kd⟩ := dk_kit (P := X.prog) D0 (keys_at I sm fun r hr => ⟨rk r hr, hk r hr⟩)
  obtain ⟨n1, _, n2, _⟩ := nk_at I sm ry (u := .ref p) rfl (isKey_nk ky)
  refine wpAny_setItem_heap (knd := nestedKind X.prog X.w) (k := keyN y) (hsz := by rw [← px.length]; exact Nat.le_of_lt few) (show X.A.in1.units + 8 < cLine from by show X.A.units + 1 + 8 < cLine; omega) ⟨n1, n2⟩ kd fun h' kd' sb => ?_
  have new : DkAt X.w a (putRow Ls p y v) h' := kit_dk kd' (x_put rv px) hs (by have := putRow_len (Ls := Ls) (p := p) (y := y) (v := v); omega) fun r hr => by
    rcases putRow_mem r hr with ⟨q, hq, _, e⟩ | ⟨_, e⟩
    · rw [← e]; exact hk q hq
    · rw [e]; exact ky
  have ex : ∃ u, h'.get? a = some u := let ⟨_, o, _, _, ho, _⟩ := new; ⟨o, ho⟩
  exact ⟨_, I.write (x := a) (e := a) (by rw [ha]; trivial) (.inl rfl) (fun b u hb hu => (sb.2 b hb).trans hu) ex (dk_new new), q⟩
def addD (ks : List D) (j : D) : List D := if (ks.any fun k => sameK k j) = true then ks else ks ++ [j]
def setD (ks ds : List D) (j e : D) : List D := if (ks.any fun k => sameK k j) = true then List.zipWith (fun k d => if sameK k j = true then e else d) ks ds else ds ++ [e]
theorem rows_put {K : PySem.W.Frag} {F : Hp} {Ls : List DRow} {ks ds : List D} {p : Addr} {y d : D} {v : V} (hk : ks = Ls.map (·.2.1)) (r1 : Reps K F ks (Ls.map fun r => .ref r.1)) (r2 : Reps K F ds (Ls.map (·.2.2))) (ry : Rep K F y (.ref p)) (rd : Rep K F d v) :
    addD ks y = (putRow Ls p y v).map (·.2.1) ∧ Reps K F (addD ks y) ((putRow Ls p y v).map fun r => .ref r.1) ∧ Reps K F (setD ks ds y d) ((putRow Ls p y v).map (·.2.2)) := by
  subst hk
  have any_eq : ((Ls.map (·.2.1)).any fun k => sameK k y) = Ls.any fun r => sameK r.2.1 y := by rw [List.any_map]; rfl
  refine ⟨by unfold addD; rw [any_eq, putRow_keys], ?_, ?_⟩
  · unfold addD putRow
    rw [any_eq]
    split
    · have : (List.map (fun r => if sameK r.2.1 y = true then (r.1, r.2.1, v) else r) Ls).map (fun r => V.ref r.1) = Ls.map fun r => .ref r.1 := by
        rw [List.map_map]; refine List.map_congr_left fun r _ => ?_; show V.ref (if _ then _ else _ : DRow).1 = _; split <;> rfl
      rw [this]; exact r1
    · rw [List.map_append]; exact r1.append (Reps.one ry)
  · unfold setD putRow
    rw [any_eq]
    split
    · clear any_eq r1
      rename_i c
      clear c
      induction Ls generalizing ds with
      | nil => cases ds with
        | nil => exact rfl
        | cons _ _ => obtain ⟨_, _, z, _⟩ := r2; cases z
      | cons r Ls ih =>
        cases ds with
        | nil => cases r2
        | cons d' ds =>
          obtain ⟨x, rr, z, h1, h2⟩ := r2
          rw [List.map_cons, List.cons.injEq] at z
          obtain ⟨rfl, rfl⟩ := z
          refine ⟨_, _, rfl, ?_, ih h2⟩
          show Rep K F (if sameK r.2.1 y = true then d else d') (if sameK r.2.1 y = true then (r.1, r.2.1, v) else r : DRow).2.2
          by_cases c : sameK r.2.1 y = true
          · rw [if_pos c, if_pos c]; exact rd
          · rw [if_neg c, if_neg c]; exact h1
    · rw [List.map_append]; exact r2.append (Reps.one rd)
def mDk (w : World) (M : Mp) (o i v : D) (k : Mp → Prop) : Prop := match o with
  | .ref q => match M q with
    | some (.dkd w' ks ds) => (w' = w ∧ isKey i = true ∧ ks.length < sizeLine) ∧ k (mupd M q (.dkd w' (addD ks i) (setD ks ds i v)))
    | _ => False
  | _ => False
def dSetDk (w : World) (te to ti : DE) : DS := fun D env M => te env M fun v M1 => to env M1 fun o M2 => ti env M2 fun i M3 => mDk w M3 o i v fun M4 => D.nx env M4
theorem reps_all {K : PySem.W.Frag} {F : Hp} : ∀ {Ls : List DRow}, Reps K F (Ls.map (·.2.1)) (Ls.map fun r => .ref r.1) → ∀ r ∈ Ls, Rep K F r.2.1 (.ref r.1)
  | [], _, r, hr => nomatch hr
  | q :: Ls, ⟨x, rr, z, h1, h2⟩, r, hr => by
    rw [List.map_cons, List.cons.injEq] at z
    obtain ⟨rfl, rfl⟩ := z
    rcases List.mem_cons.mp hr with rfl | hr
    · exact h1
    · exact reps_all h2 r hr
theorem pds_setDk {kk : Nat} (hr : Room kk X.A) (he : PDE X e te) (ho : PDE X o to) (hi : PDE X i ti)
    (ha : ∀ v, assign (.Subscript o i tpos) X.env v = (do
      let ov ← holding [v] (eval o X.env)
      let iv ← holding [v, ov] (eval i X.env)
      standAt tpos
      holding [v, ov, iv] (setItem ov iv v)
      release [v, ov, iv] []) := by intro _; rfl)
    (hs : swapsWithSole [.Subscript o i tpos] e pos.line X.env = pure false := by rfl) (hw : swappedStores [.Subscript o i tpos] e X.env = pure none := by rfl)
    (h1 : (assignEach [.Subscript o i tpos] X.env).map (·.2) = [assign (.Subscript o i tpos) X.env] := by rfl) : PDS X (.Assign [.Subscript o i tpos] e pos) (dSetDk X.w te to ti) :=
  ps_imp (ps_asg he (pg_sub ho hi (set_dk (by have := hr.un; omega)) ha) hs hw h1) fun D σ H ⟨R, F, env, M, Dd, a, e, h, k⟩ => ⟨R, F, env, M, _, a, e, h, fun F1 H1 M1 d v s1 a1 r1 q1 =>
    ⟨R, F1, env, M1, _, a1, e.mono s1, q1, fun F2 H2 M2 d2 v2 s2 a2 r2 q2 => ⟨R, F2, env, M2, _, a2, (e.mono s1).mono s2, q2, fun F3 H3 M3 d3 v3 s3 a3 r3 q3 => by
      unfold mDk at q3
      split at q3
      · rename_i q
        cases (show v2 = V.ref q from r2)
        split at q3
        · rename_i w' ks ds hm
          obtain ⟨⟨rfl, ky, few⟩, q3⟩ := q3
          obtain ⟨_, u, hu, Ls, rfl, hk, rk, rx⟩ := a3.mu _ _ hm
          obtain ⟨pp, rfl⟩ := key_ref r3 ky
          obtain ⟨z1, z2, z3⟩ := rows_put (p := pp) hk rk rx r3 (r1.mono (s2.trans s3))
          refine ⟨q, Ls, pp, d3, F3, rfl, rfl, hu, a3.fz, r3, ky, reps_all (by rw [← hk]; exact rk), by rw [hk, List.length_map] at few; exact few, ?_⟩
          exact k.nx F3 _ _ env σ ((s1.trans s2).trans s3) (a3.wrote hm (o := .dkd X.w (addD ks d3) (setD ks ds d3 d)) ⟨_, rfl, z1, z2, z3⟩) (((e.mono s1).mono s2).mono s3) q3
        · exact q3.elim
      · exact q3.elim⟩⟩⟩
/-! ### a dict as it stands -/
def DkRd (w : World) (H : Hp) (a : Addr) (Ls : List DRow) : Prop := H a = some (DkO w a Ls) ∨ ∃ o, H a = some (.frz o (DkO w a Ls))
theorem DkRd.at {pins : List (Addr × Obj)} {σ : L2.St} {H : Hp} {s : Shared} {a : Addr} {Ls : List DRow} (I : Inv X pins σ H s) (h : DkRd X.w H a Ls) : DkAt X.w a Ls s.heap := by
  rcases h with h | ⟨o, h⟩
  · exact (I.hok a _ h).1
  · exact (I.hok a _ h).2.1
def mDkd (w : World) (M : Mp) (d : D) (k : List D → List D → Prop) : Prop := match d with
  | .dkd w' ks ds => w' = w ∧ k ks ds
  | .ref q => match M q with
    | some (.dkd w' ks ds) => w' = w ∧ k ks ds
    | _ => False
  | _ => False
theorem mDkd_at {K : PySem.W.Frag} {R F : Hp} {M : Mp} {H : Hp} {d : D} {v : V} {w : World} {k : List D → List D → Prop} (a : At K R F M H) (r : Rep K F d v) (h : mDkd w M d k) :
    ∃ p Ls ds, v = .ref p ∧ DkRd w H p Ls ∧ Reps K F (Ls.map (·.2.1)) (Ls.map fun r => .ref r.1) ∧ Reps K F ds (Ls.map (·.2.2)) ∧ k (Ls.map (·.2.1)) ds := by
  unfold mDkd at h
  split at h
  · obtain ⟨rfl, h⟩ := h
    obtain ⟨p, o, Ls, rfl, hq, rfl, r1, r2⟩ := r
    exact ⟨p, Ls, _, rfl, .inr ⟨o, a.fz _ _ hq⟩, r1, r2, h⟩
  · rename_i q
    cases (show v = V.ref q from r)
    split at h
    · rename_i hm
      obtain ⟨rfl, h⟩ := h
      obtain ⟨_, u, hu, Ls, rfl, rfl, r1, r2⟩ := a.mu _ _ hm
      exact ⟨q, Ls, _, rfl, .inl hu, r1, r2, h⟩
    · exact h.elim
  · exact h.elim
theorem dk_src {P : Program} {w : World} {d : Addr} {es : Array DictEntry} {ep : Nat} (lo : (d == sysModules) = false) : PySem.W.KdlSrc P w "dict" d d es.size (fun i v => ∃ hi : i < es.size, v = es[i].key) (fun h => h.DictRaw d es ep) where
  type := fun _ hm => hm.typeIs
  there := fun _ ⟨_, ho, _⟩ => ⟨Heap.lt_size ho, Heap.lt_size ho⟩
  keep := fun _ _ hm hk => hm.at fun o e => hk d (.inl rfl) o e
  notList := by decide
  notTuple := by decide
  hint := fun _ _ _ _ hm hq => PySem.W.kdl_hint_dict hm.typeIs hq
  iter := fun _ _ hh hm => ⟨_, _, (fun _ _ hq => wpAny_pyIter_dict_raw lo hm hq), Walks.rawKeys hh _ d (let ⟨_, ho, _⟩ := hm; Nat.ne_of_lt (Heap.lt_size ho)) es ep, ⟨⟨_, Heap.get?_push_size _ rfl, rfl, rfl⟩, hm.at fun o e => Heap.get?_push_of_some _ e⟩⟩
theorem rows_at {w : World} : ∀ {Ls : List DRow} {es : List DictEntry}, Paired (RowIs w) Ls es → es.map (·.key) = Ls.map fun r => Value.ref r.1
  | _, _, .nil => rfl
  | _, _, .cons ⟨_, h, _⟩ t => by rw [List.map_cons, List.map_cons, h, rows_at t]
/-! ### sorted(d) -/
def rSortK (K : PySem.W.Frag) (w : World) : List V → Hp → VK → Prop := fun vs H Q => ∃ a F Ls, vs = [.ref a] ∧ DkRd w H a Ls ∧ Same F H ∧ (∀ r ∈ Ls, Rep K F r.2.1 (.ref r.1)) ∧ SrtOk (Ls.map (·.2.1)) ∧
  ∀ (Lf : List (Addr × D)) p, Lf.Perm (Ls.map fun r => (r.1, r.2.1)) → (Lf.map (·.2)).Pairwise (fun d e => leD d e = true) → H p = none → Q (.ref p) (upd H p (.lst (Lf.map fun r => V.ref r.1)))
theorem cr_sortedK (hc : X.calm = true) (hu : X.A.units + 65 < cLine) : CallR X (.builtin "sorted") (rSortK X.K X.w) := by
  intro pins s σ H vs us Q I r ⟨a, F, Ls, ev, ha, sm, hr, ok, q⟩
  subst ev
  rw [Vals.ref1 r]
  obtain ⟨⟨lo, len, hk, _⟩, o, es, ep, ho, hex, hd, rows⟩ := DkRd.at I ha
  have raw : s.heap.DictRaw a es ep := ⟨o, ho, hex, hd⟩
  have size : es.size = Ls.length := by rw [← Array.length_toList, ← rows.length]
  refine Calls.call_function_entry PyProof.Rows.kind_sorted PyProof.Rows.plain_sorted PyProof.Rows.entry_sorted (PyProof.Rows.args_sorted1 _) (show wpAny _ _ (Builtin.«sorted» _) _ _ _ from ?_)
  unfold Builtin.«sorted»
  refine wpAny_bind (m := checkCount "sorted" 1 1 _) (wpAny_pure (wpAny_bind (PySem.W.kdu_collect (A := X.A.in1) (dk_src lo) (I.ok.hd hc) raw (by rw [size]; exact len) fun h1 tk acc k1 items => ?_)))
  have eacc : acc.toList = (Ls.map fun r => (r.1, r.2.1)).map fun r : Addr × D => Value.ref r.1 := by
    rw [List.map_map]
    show acc.toList = Ls.map fun r => Value.ref r.1
    rw [← rows_at rows]
    apply List.ext_getElem?
    intro j
    rw [Array.getElem?_toList]
    by_cases hj : j < es.size
    · obtain ⟨v, hv⟩ : ∃ v, acc[j]? = some v := ⟨_, Array.getElem?_eq_getElem (by rw [items.1]; exact hj)⟩
      obtain ⟨_, e⟩ := items.2 j v hv
      rw [hv, e, List.getElem?_map, Array.getElem?_toList, Array.getElem?_eq_getElem hj]; rfl
    · rw [Array.getElem?_eq_none (by rw [items.1]; omega), List.getElem?_eq_none (by rw [List.length_map, Array.length_toList]; omega)]
  rw [eacc]
  generalize eL : (Ls.map fun r => (r.1, r.2.1)) = L1 at q ⊢
  have ok1 : SrtOk (L1.map (·.2)) := by
    have : L1.map (·.2) = Ls.map (·.2.1) := by rw [← eL, List.map_map]; rfl
    rw [this]; exact ok
  have len1 : L1.length ≤ sizeLine := by rw [← eL, List.length_map]; exact len
  have reads : ∀ r ∈ L1, Reads s.heap (.ref r.1) r.2.py [] ∧ r.2.py.depth ≤ 9 := fun z hz' => by
    rw [← eL] at hz'
    obtain ⟨r, hr', rfl⟩ := List.mem_map.mp hz'
    obtain ⟨_, n2, _, n4⟩ := nk_at I sm (hr r hr') (u := .ref r.1) rfl (isKey_nk (hk r hr'))
    exact ⟨n2, n4⟩
  refine wpAny_bind (wpAny_newList ?_ (by rw [List.length_map]; exact len1))
  have hoL : (h1.push (seqObj "list" (L1.map fun r => Value.ref r.1).toArray 0)).get? h1.objs.size = some (seqObj "list" (L1.map fun r => Value.ref r.1).toArray 0) := Heap.get?_push_size _ rfl
  refine wpAny_bind (wpAny_holding (PySem.W.list_sort_data (s := { s with heap := h1.push (seqObj "list" (L1.map fun r => Value.ref r.1).toArray 0), toks := tk }) (bs := L1) (enc := fun r => r.2.py) (R := fun v r => v = Value.ref r.1) hoL (each_refs L1)
    (each_of L1 fun r hr1 => ⟨[], PyProof.Rows.Reads.keeps (fun b u e => Heap.get?_push_of_some _ (k1 b u e)) (reads r hr1).1, by simp⟩) ?_ ?_ len1 (fun r hr1 => ?_) fun out _ eo => ?_))
  · intro d hd1 d' hd2
    obtain ⟨r1, m1, rfl⟩ := List.mem_map.mp hd1
    obtain ⟨r2, m2, rfl⟩ := List.mem_map.mp hd2
    exact ok1.1 _ (List.mem_map.mpr ⟨r1.2, List.mem_map.mpr ⟨r1, m1, rfl⟩, rfl⟩) _ (List.mem_map.mpr ⟨r2.2, List.mem_map.mpr ⟨r2, m2, rfl⟩, rfl⟩)
  · refine ok1.2.imp (fun h d hd1 => ?_) fun h d hd1 => ?_ <;>
    · obtain ⟨r1, m1, rfl⟩ := List.mem_map.mp hd1
      exact h _ (List.mem_map.mpr ⟨r1.2, List.mem_map.mpr ⟨r1, m1, rfl⟩, rfl⟩)
  · have := (reads r hr1).2
    show X.A.units + 1 + 1 + r.2.py.depth < cLine
    omega
  · generalize hLf : L1.mergeSort (PySem.W.dataLe false fun r => r.2.py) = Lf at eo
    have pf : Lf.Perm L1 := by rw [← hLf]; exact List.mergeSort_perm _ _
    have srt : (Lf.map (·.2)).Pairwise fun d e => leD d e = true := by
      rw [← hLf, List.pairwise_map]
      exact PySem.W.sort_pairwise (PySem.W.sortLe_total _ false _) L1
    have eout := refs_each eo
    subst eout
    obtain ⟨ce, hce⟩ := PyProof.Rows.sortedHeap_at (vs := L1.map fun r => Value.ref r.1) (out := (Lf.map fun r => Value.ref r.1).toArray) hoL
    have I1 : Inv X pins σ H { s with heap := h1, toks := tk } := I.kept k1
    have hz : h1.objs.size ≤ h1.objs.size := Nat.le_refl _
    have hn : H h1.objs.size = none := I1.hok.fresh hz
    refine wpAny_pure ⟨_, rfl, .ref h1.objs.size, upd H h1.objs.size (.lst (Lf.map fun r => V.ref r.1)), ?_, rfl, q Lf _ pf srt hn⟩
    have hlen : (Lf.map fun r => V.ref r.1).length ≤ sizeLine := by rw [List.length_map, pf.length_eq]; exact len1
    have hv : ∀ l : List (Addr × D), Vals (l.map fun r => V.ref r.1) (l.map fun r => Value.ref r.1) := fun l => by
      induction l with
      | nil => exact .nil
      | cons r l ih => exact .cons rfl ih
    generalize hhp : sortedHeap _ h1.objs.size _ _ = hp at hce ⊢
    have K1 : ∀ b u, h1.get? b = some u → hp.get? b = some u := fun b u e1 => by
      have lt := Heap.lt_size e1
      rw [← hhp, PyProof.Rows.sortedHeap_old (Nat.ne_of_lt lt) (by rw [PyProof.Rows.size_push']; exact Nat.lt_succ_of_lt lt)]
      exact Heap.get?_push_of_some _ e1
    exact I1.laid (t' := tk) K1 hz ⟨hlen, _, ce, hv Lf, by simpa using hce⟩
def rSortDk (w : World) : R1D := fun d M Q => mDkd w M d fun ks _ => SrtOk ks ∧ ∀ ys : List D, ys.Perm ks → ys.Pairwise (fun d e => leD d e = true) → Q (.lst ys) M
theorem calld_sortDk {k : Nat} (hr : Room k X.A) (hc : X.calm = true := by rfl) : CallD X (.builtin "sorted") (rSortDk X.w) := ⟨_, cr_sortedK hc (by have := hr.un; omega), fun R F M H d x Qd Q a r q kd => by
  obtain ⟨p, Ls, ds, rfl, rd, r1, r2, ok, q⟩ := mDkd_at a r q
  refine ⟨p, F, Ls, rfl, rd, a.fz, reps_all r1, ok, fun Lf p' pf srt hp => ?_⟩
  have all := reps_all r1
  refine lst_new a (reps_of fun z hz => ?_) kd (q _ (by have := pf.map (·.2); rw [List.map_map] at this; exact this) srt) hp
  obtain ⟨r0, hr0, rfl⟩ := List.mem_map.mp (pf.mem_iff.mp hz)
  exact all r0 hr0⟩
end
end L3
set_option Elab.async false
set_option linter.all false
set_option maxRecDepth 100000
set_option maxHeartbeats 1000000
/-! Readings of shared helpers, tenth part: lots of stands led by a sign. -/
namespace L3
open PySem PySem.Spec PyProof.Rows L2
local macro_rules | `(tactic| walk_at "w") => `(tactic| conv => whnf)
theorem _root_.L2.Room.set {k : Nat} {A : Around} (hr : L2.Room k A) : A.units + 65 < cLine := by have := hr.un; omega
/-! ### the order on keys -/
theorem lex_app {O : KeyOrd} (x : O.α) : ∀ t : List O.α, lexLt O (t ++ []) (t ++ [x]) = true
  | [] => rfl
  | a :: t => by
    show (O.blt a a || (!O.blt a a && lexLt O (t ++ []) (t ++ [x]))) = true
    rw [lex_app x t, O.irrefl]; rfl
theorem leD_anti {d e : D} (hd : D.nk 8 d = true) (he : D.nk 8 e = true) (al : PySem.W.alike d.py e.py = true) (h1 : leD d e = true) (h2 : leD e d = true) : d = e := by
  have l1 : lexLt itemOrd (PySem.W.keyToks e.py) (PySem.W.keyToks d.py) = false := by simpa [leD, PySem.W.dataLe, PySem.W.sortLe] using h1
  have l2 : lexLt itemOrd (PySem.W.keyToks d.py) (PySem.W.keyToks e.py) = false := by simpa [leD, PySem.W.dataLe, PySem.W.sortLe] using h2
  have eq := lex_total _ _ l2 l1
  obtain ⟨_, z2⟩ := PySem.W.toks_eqv d.py e.py al
  cases c : PyData.eqv d.py e.py with
  | true => exact nk_eqv hd he c
  | false =>
    have := z2 c [] [.inl 0]
    rw [l2, eq, lex_app] at this
    cases this
/-- things of which the order has one answer -/
structure Ranked (xs : List D) : Prop where
  nk : ∀ d ∈ xs, D.nk 8 d = true
  al : ∀ d ∈ xs, ∀ e ∈ xs, PySem.W.alike d.py e.py = true
theorem rank_eq {xs ys : List D} (h : Ranked xs) (p : ys.Perm xs) (pw : ys.Pairwise fun d e => leD d e = true) : ys = sortD xs := by
  have p2 : ys.Perm (sortD xs) := p.trans (sortD_perm xs).symm
  have mem : ∀ d ∈ sortD xs, d ∈ xs := fun d hd => (sortD_perm xs).mem_iff.mp hd
  exact perm_eq (R := fun d e => leD d e = true ∧ d ∈ xs ∧ e ∈ xs) (fun d e ⟨q1, m1, m2⟩ ⟨q2, _⟩ => leD_anti (h.nk d m1) (h.nk e m2) (h.al d m1 e m2) q1 q2) p2
    (pw.imp_of_mem fun ha hb q => ⟨q, p.mem_iff.mp ha, p.mem_iff.mp hb⟩) ((sortD_pw xs).imp_of_mem fun ha hb q => ⟨q, mem _ ha, mem _ hb⟩)
theorem Ranked.srt {xs : List D} (h : Ranked xs) (ht : ∀ d ∈ xs, isKey d = true ∧ d ≠ .tup []) : SrtOk xs := by
  refine ⟨fun d hd e he => ?_, .inl fun d hd => ?_⟩
  · obtain ⟨x, hx, rfl⟩ := List.mem_map.mp hd
    obtain ⟨y, hy, rfl⟩ := List.mem_map.mp he
    exact h.al x hx y hy
  · obtain ⟨x, hx, rfl⟩ := List.mem_map.mp hd
    obtain ⟨k, n⟩ := ht x hx
    cases x with
    | tup ds => cases ds with
      | nil => exact absurd rfl n
      | cons d ds => exact ⟨d.py, D.pys ds, by simp [D.py, D.pys]⟩
    | _ => cases k
/-! ### gathering -/
noncomputable def gath (acc xs : List D) : List D := xs.foldl insD acc
theorem gath_append {acc xs ys : List D} : gath acc (xs ++ ys) = gath (gath acc xs) ys := by unfold gath; exact List.foldl_append ..
theorem gath_one {acc : List D} {y : D} : gath acc [y] = insD acc y := rfl
theorem gath_mem {z : D} : ∀ {xs acc : List D}, z ∈ gath acc xs ↔ z ∈ acc ∨ z ∈ xs
  | [], acc => by simp [gath]
  | x :: xs, acc => by
    show z ∈ gath (insD acc x) xs ↔ _
    rw [gath_mem, insD_mem, List.mem_cons, or_assoc]
theorem gath_nodup : ∀ {xs acc : List D}, acc.Nodup → (gath acc xs).Nodup
  | [], _, h => h
  | x :: xs, acc, h => gath_nodup (xs := xs) (insD_nodup h)
theorem addD_ins {ks : List D} {y : D} (hk : ∀ d ∈ ks, isKey d = true) (hy : isKey y = true) : addD ks y = insD ks y := by
  have e : (ks.any fun k => sameK k y) = true ↔ y ∈ ks := by
    rw [List.any_eq_true]
    constructor
    · rintro ⟨d, hd, z⟩
      have : d = y := keyN_inj (isKey_nk (hk d hd)) (isKey_nk hy) (by simpa [sameK] using z)
      exact this ▸ hd
    · intro h; exact ⟨y, h, by simp [sameK]⟩
  unfold addD
  by_cases c : y ∈ ks
  · rw [if_pos (e.mpr c), insD_old c]
  · rw [if_neg fun h => c (e.mp h), insD_new c]
theorem nodup_len {α : Type} : ∀ (l D : List α), l.Nodup → (∀ x ∈ l, x ∈ D) → l.length ≤ D.length
  | [], _, _, _ => Nat.zero_le _
  | x :: l, D, hn, hs => by
    obtain ⟨h1, h2⟩ := List.nodup_cons.mp hn
    obtain ⟨s, t, e⟩ := List.append_of_mem (hs x List.mem_cons_self)
    subst e
    have := nodup_len l (s ++ t) h2 fun y hy => by
      have := hs y (List.mem_cons_of_mem _ hy)
      simp only [List.mem_append, List.mem_cons] at this ⊢
      rcases this with h | h | h
      · exact .inl h
      · exact absurd (h ▸ hy) h1
      · exact .inr h
    simp only [List.length_append, List.length_cons] at this ⊢
    omega
/-! ### stands as data -/
theorem isKey_st (s : St) : isKey (stD s) = true := by
  have h : ∀ xs : List Int, D.nks 7 (xs.map D.int) = true := fun xs => nks_of fun d hd => by obtain ⟨x, _, rfl⟩ := List.mem_map.mp hd; rfl
  show D.nk 8 (stD s) = true
  simp only [stD, D.nk, D.nks, Bool.and_true, Bool.and_eq_true]
  have h6 : ∀ xs : List Int, D.nks 6 (xs.map D.int) = true := fun xs => nks_of fun d hd => by obtain ⟨x, _, rfl⟩ := List.mem_map.mp hd; rfl
  exact ⟨h6 _, h6 _⟩
def toI : D → Int
  | .int i => i
  | _ => 0
def deSt : D → St
  | .tup [.tup p, .tup w, .tup [a, b]] => ⟨p.map toI, w.map toI, toI a, toI b⟩
  | _ => ⟨[], [], 0, 0⟩
theorem toI_ints (xs : List Int) : (xs.map D.int).map toI = xs := by
  rw [List.map_map]; exact List.map_id' xs
theorem deSt_st (s : St) : deSt (stD s) = s := by
  show (⟨(s.pl.map D.int).map toI, (s.wt.map D.int).map toI, s.la, s.mn⟩ : St) = s
  rw [toI_ints, toI_ints]
theorem st_inj {s t : St} (h : stD s = stD t) : s = t := by rw [← deSt_st s, h, deSt_st]
theorem sts_back {xs : List D} (h : ∀ d ∈ xs, ∃ s, d = stD s) : (xs.map deSt).map stD = xs := by
  rw [List.map_map]
  conv => rhs; rw [← List.map_id xs]
  refine List.map_congr_left fun d hd => ?_
  obtain ⟨s, rfl⟩ := h d hd
  show stD (deSt (stD s)) = stD s
  rw [deSt_st]
theorem sts_ranked {xs : List D} (h : ∀ d ∈ xs, ∃ s, d = stD s) : Ranked xs where
  nk := fun d hd => by obtain ⟨s, rfl⟩ := h d hd; exact isKey_st s
  al := fun d hd e he => by obtain ⟨s, rfl⟩ := h d hd; obtain ⟨t, rfl⟩ := h e he; exact st_alike s t
theorem sts_srt {xs : List D} (h : ∀ d ∈ xs, ∃ s, d = stD s) : SrtOk xs := (sts_ranked h).srt fun d hd => by
  obtain ⟨s, rfl⟩ := h d hd
  exact ⟨isKey_st s, by unfold stD; simp⟩
/-! ### the stands that there may be -/
def ins (xs : List Int) (lo hi : Int) : Prop := ∀ x ∈ xs, lo ≤ x ∧ x ≤ hi
structure Good (ws : List Wr) (s : St) : Prop where
  ok : StOk ws s
  pl : ins s.pl 0 2
  wt : ins s.wt 0 3
  run : ∀ (i : Nat) (w : Wr), ws[i]? = some w → s.la = (i : Int) → 0 ≤ s.mn ∧ s.mn ≤ w.cap
  la : RunOk ws.length s
theorem good0 (ws : List Wr) : Good ws (st0 ws.length) where
  ok := st0_ok ws
  pl := fun x hx => by rw [(List.mem_replicate.mp hx).2]; decide
  wt := fun x hx => by rw [(List.mem_replicate.mp hx).2]; decide
  run := fun i w _ h => by have : (-1 : Int) = (i : Int) := h; omega
  la := run0 _ _
def vecs (xs : List Int) : Nat → List (List Int)
  | 0 => [[]]
  | n + 1 => (vecs xs n).flatMap fun v => xs.map fun x => x :: v
theorem vecs_mem {xs : List Int} : ∀ {n : Nat} {v : List Int}, v.length = n → (∀ x ∈ v, x ∈ xs) → v ∈ vecs xs n
  | 0, v, h, _ => by rw [List.eq_nil_of_length_eq_zero h]; exact List.mem_singleton.mpr rfl
  | n + 1, [], h, _ => by simp at h
  | n + 1, x :: v, h, m => List.mem_flatMap.mpr ⟨v, vecs_mem (by simpa using h) (fun y hy => m y (List.mem_cons_of_mem _ hy)), List.mem_map.mpr ⟨x, m x List.mem_cons_self, rfl⟩⟩
theorem flat_len {α β : Type} (f : α → List β) (k : Nat) : ∀ xs : List α, (∀ x ∈ xs, (f x).length ≤ k) → (xs.flatMap f).length ≤ xs.length * k
  | [], _ => by simp
  | x :: xs, h => by
    rw [List.flatMap_cons, List.length_append, List.length_cons, Nat.add_mul]
    have := h x List.mem_cons_self
    have := flat_len f k xs fun y hy => h y (List.mem_cons_of_mem _ hy)
    omega
theorem vecs_len (xs : List Int) : ∀ n, (vecs xs n).length ≤ xs.length ^ n
  | 0 => by simp [vecs]
  | n + 1 => by
    have h1 := flat_len (fun v => xs.map fun x => x :: v) xs.length (vecs xs n) fun v _ => by simp
    rw [Nat.pow_succ]
    exact Nat.le_trans h1 (Nat.mul_le_mul_right _ (vecs_len xs n))
def runsOf (w : Wr) (i : Nat) : List (Int × Int) := if 0 < w.cap then [((i : Int), 1), ((i : Int), 2), ((i : Int), 3)] else [(-1, 0)]
/-- the stands behind a step of the writer at i -/
def behindAll (ws : List Wr) (i : Nat) : List D := match ws[i]? with
  | some w => (vecs [0, 1, 2] ws.length).flatMap fun p => (vecs [0, 1, 2, 3] (ws.length - 1)).flatMap fun v => (runsOf w i).map fun r => stD ⟨p, v.take i ++ 0 :: v.drop i, r.1, r.2⟩
  | none => []
def world (ws : List Wr) : List D := (List.range ws.length).flatMap (behindAll ws)
theorem world_len {ws : List Wr} (h : ws.length ≤ 3) : (world ws).length ≤ 3888 := by
  have h1 : ∀ i, (behindAll ws i).length ≤ 27 * (16 * 3) := fun i => by
    unfold behindAll
    split
    · rename_i w _
      refine Nat.le_trans (flat_len _ (16 * 3) _ fun p _ => Nat.le_trans (flat_len _ 3 _ fun v _ => ?_) ?_) ?_
      · rw [List.length_map]; unfold runsOf; split <;> simp
      · refine Nat.mul_le_mul_right _ (Nat.le_trans (vecs_len _ _) ?_)
        show 4 ^ (ws.length - 1) ≤ 4 ^ 2
        exact Nat.pow_le_pow_right (by decide) (by omega)
      · refine Nat.mul_le_mul_right _ (Nat.le_trans (vecs_len _ _) ?_)
        show 3 ^ ws.length ≤ 3 ^ 3
        exact Nat.pow_le_pow_right (by decide) h
    · exact Nat.zero_le _
  have h2 := flat_len (behindAll ws) (27 * (16 * 3)) (List.range ws.length) fun i _ => h1 i
  rw [List.length_range] at h2
  unfold world
  have : ws.length * (27 * (16 * 3)) ≤ 3 * (27 * (16 * 3)) := Nat.mul_le_mul_right _ h
  omega
theorem few_in {ws : List Wr} (h : ws.length ≤ 3) {xs : List D} (hn : xs.Nodup) (hw : ∀ d ∈ xs, d ∈ world ws) : xs.length ≤ 3888 := Nat.le_trans (nodup_len _ _ hn hw) (world_len h)
/-! ### steps stay among them -/
structure IsStep2 (ws : List Wr) (s : St) (i : Nat) (w : Wr) (a : Ar) : Prop extends IsStep ws s i w a where
  may : mayW ws s i = true
theorem steps_mem2 {ws : List Wr} {s : St} {x : D} (h : x ∈ stepsD ws s) : ∃ i w a, IsStep2 ws s i w a ∧ x = .tup [.str a.sg, .str w.name, stD (aft ws w s i a.to)] := by
  obtain ⟨y, hy, rfl⟩ := List.mem_map.mp h
  obtain ⟨i, _, hi⟩ := List.mem_flatMap.mp ((sortD_perm _).mem_iff.mp hy)
  unfold rawAt at hi
  split at hi
  · rename_i w p hw hp
    split at hi
    · rename_i hm
      obtain ⟨a, ha, rfl⟩ := List.mem_map.mp hi
      refine ⟨i, w, a, ⟨⟨hw, (List.mem_filter.mp ha).1⟩, hm⟩, ?_⟩
      show D.tup [.str a.sg, .str (nameAt ws (i : Int).toNat), stD (aft ws w s i a.to)] = _
      rw [Int.toNat_natCast]
      unfold nameAt
      rw [hw]
    · cases hi
  · cases hi
theorem in3 {x : Int} (h : 0 ≤ x ∧ x ≤ 2) : x ∈ [(0 : Int), 1, 2] := by
  have : x = 0 ∨ x = 1 ∨ x = 2 := by omega
  rcases this with rfl | rfl | rfl <;> decide
theorem in4 {x : Int} (h : 0 ≤ x ∧ x ≤ 3) : x ∈ [(0 : Int), 1, 2, 3] := by
  have : x = 0 ∨ x = 1 ∨ x = 2 ∨ x = 3 := by omega
  rcases this with rfl | rfl | rfl | rfl <;> decide
theorem good_step {ws : List Wr} (hok : CrewOk ws) {s : St} (g : Good ws s) {i : Nat} {w : Wr} {a : Ar} (h : IsStep2 ws s i w a) : Good ws (aft ws w s i a.to) ∧ stD (aft ws w s i a.to) ∈ world ws := by
  have hw := h.wr
  have hi : i < ws.length := (List.getElem?_eq_some_iff.mp hw).1
  have wok := hok.ok w (List.mem_of_getElem? hw)
  have aok := wok.ar a h.ar
  have may := h.may
  rw [mayW_at hw, Bool.and_eq_true] at may
  obtain ⟨m1, m2⟩ := may
  have ok2 := aft_ok g.ok hi (w := w) a.to
  have pl2 : ins (aft ws w s i a.to).pl 0 2 := fun x hx => by
    rcases List.mem_append.mp (show x ∈ s.pl.take i ++ [a.to] ++ s.pl.drop (i + 1) from hx) with hx | hx
    · rcases List.mem_append.mp hx with hx | hx
      · exact g.pl x (List.mem_of_mem_take hx)
      · rw [List.mem_singleton.mp hx]; exact ⟨aok.to0, aok.to1⟩
    · exact g.pl x (List.mem_of_mem_drop hx)
  have wt_at : ∀ k x, (aft ws w s i a.to).wt[k]? = some x → (0 ≤ x ∧ x ≤ 3) ∧ (k = i → x = 0) := fun k x hx => by
    have hx' : (s.wt.mapIdx (wtOf ws s i))[k]? = some x := hx
    rw [List.getElem?_mapIdx] at hx'
    obtain ⟨y, hy, rfl⟩ := Option.map_eq_some_iff.mp hx'
    have hyw := g.wt y (List.mem_of_getElem? hy)
    unfold wtOf
    by_cases c : (!decide (k = i) && cntAt ws s.pl k) = true
    · rw [if_pos c]
      simp only [Bool.and_eq_true, Bool.not_eq_true', decide_eq_false_iff_not] at c
      have kl : k < ws.length := by have := (List.getElem?_eq_some_iff.mp hy).1; rw [g.ok.wt] at this; exact this
      have ko : k ∈ oth ws s i := List.mem_filter.mpr ⟨List.mem_range.mpr kl, by simp [c.1, c.2]⟩
      have z := List.all_eq_true.mp m2 k ko
      unfold wtOk at z
      rw [hy, List.getElem?_eq_getElem kl] at z
      have pk := (hok.ok ws[k] (List.getElem_mem kl)).pat1
      have z2 : y < ws[k].pat := of_decide_eq_true z
      exact ⟨⟨by omega, by omega⟩, fun e => absurd e c.1⟩
    · rw [if_neg c]; exact ⟨by decide, fun _ => rfl⟩
  have runs : ((aft ws w s i a.to).la, (aft ws w s i a.to).mn) ∈ runsOf w i ∧ ∀ (j : Nat) (u : Wr), ws[j]? = some u → (aft ws w s i a.to).la = (j : Int) → 0 ≤ (aft ws w s i a.to).mn ∧ (aft ws w s i a.to).mn ≤ u.cap := by
    show ((runOf w s i).1, (runOf w s i).2) ∈ runsOf w i ∧ ∀ (j : Nat) (u : Wr), ws[j]? = some u → (runOf w s i).1 = (j : Int) → 0 ≤ (runOf w s i).2 ∧ (runOf w s i).2 ≤ u.cap
    unfold runOf runsOf
    by_cases c : 0 < w.cap
    · rw [if_pos c, if_pos c]
      have c1 := wok.cap1
      have bound : 1 ≤ (if s.la = (i : Int) then s.mn + 1 else 1) ∧ (if s.la = (i : Int) then s.mn + 1 else 1) ≤ w.cap := by
        by_cases e : s.la = (i : Int)
        · rw [if_pos e]
          obtain ⟨r1, r2⟩ := g.run i w hw e
          have ne : s.mn ≠ w.cap := fun z => by
            unfold capped at m1
            rw [e, z] at m1
            simp [c] at m1
          omega
        · rw [if_neg e]; omega
      refine ⟨?_, fun j u hu e => ?_⟩
      · dsimp only
        generalize (if s.la = (i : Int) then s.mn + 1 else 1) = m at bound
        have : m = 1 ∨ m = 2 ∨ m = 3 := by omega
        rcases this with rfl | rfl | rfl <;> simp
      · have ej : i = j := by have : (i : Int) = (j : Int) := e; omega
        subst ej
        rw [hw] at hu; cases hu
        exact ⟨by have := bound.1; show (0 : Int) ≤ (if _ then _ else _); omega, bound.2⟩
    · rw [if_neg c, if_neg c]
      refine ⟨by simp, fun j u _ e => ?_⟩
      have : (-1 : Int) = (j : Int) := e
      omega
  refine ⟨⟨ok2, pl2, fun x hx => ?_, runs.2, run_aft hi a.to⟩, ?_⟩
  · obtain ⟨k, hk⟩ := List.mem_iff_getElem?.mp hx
    exact (wt_at k x hk).1
  · generalize aft ws w s i a.to = t at ok2 pl2 wt_at runs
    obtain ⟨p, v, la, mn⟩ := t
    have lp : p.length = ws.length := ok2.pl
    have lv : v.length = ws.length := ok2.wt
    have wt_at : ∀ k x, v[k]? = some x → (0 ≤ x ∧ x ≤ 3) ∧ (k = i → x = 0) := wt_at
    have v0 : v = v.take i ++ 0 :: v.drop (i + 1) := by
      have e := List.getElem?_eq_getElem (show i < v.length by omega)
      have z := (wt_at i _ e).2 rfl
      conv => lhs; rw [← List.take_append_drop i v, List.drop_eq_getElem_cons (show i < v.length by omega), z]
    refine List.mem_flatMap.mpr ⟨i, List.mem_range.mpr hi, ?_⟩
    unfold behindAll
    rw [hw]
    refine List.mem_flatMap.mpr ⟨p, vecs_mem lp fun x hx => in3 (pl2 x hx), List.mem_flatMap.mpr ⟨v.take i ++ v.drop (i + 1), vecs_mem (by rw [List.length_append, List.length_take, List.length_drop]; omega) (fun x hx => ?_), List.mem_map.mpr ⟨(la, mn), runs.1, ?_⟩⟩⟩
    · have : x ∈ v := by
        rcases List.mem_append.mp hx with h | h
        · exact List.mem_of_mem_take h
        · exact List.mem_of_mem_drop h
      obtain ⟨k, hk⟩ := List.mem_iff_getElem?.mp this
      exact in4 (wt_at k x hk).1
    · have lt : (v.take i).length = i := by rw [List.length_take]; omega
      dsimp only
      rw [List.take_left' lt, List.drop_left' lt, ← v0]
/-! ### led by a sign -/
def latersOf (sg : Str) (x : D) : Option D := match x with
  | .tup [.str z, _, l] => if z = sg then some l else none
  | _ => none
def laters (sg : Str) (xs : List D) : List D := xs.filterMap (latersOf sg)
def nexts (ws : List Wr) (sg : Str) (lot : List St) : List D := lot.flatMap fun s => laters sg (stepsD ws s)
def Lot (ws : List Wr) (lot : List St) : Prop := ∀ s ∈ lot, Good ws s
theorem laters_mem {ws : List Wr} {s : St} {sg : Str} {z : D} {n : Nat} (h : z ∈ laters sg ((stepsD ws s).take n)) : ∃ i w a, IsStep2 ws s i w a ∧ z = stD (aft ws w s i a.to) := by
  obtain ⟨x, hx, e⟩ := List.mem_filterMap.mp h
  obtain ⟨i, w, a, hs, rfl⟩ := steps_mem2 (List.mem_of_mem_take hx)
  refine ⟨i, w, a, hs, ?_⟩
  unfold latersOf at e
  dsimp only at e
  split at e
  · cases e; rfl
  · cases e
theorem nexts_mem {ws : List Wr} {sg : Str} {lot : List St} {z : D} (h : z ∈ nexts ws sg lot) : ∃ s ∈ lot, ∃ i w a, IsStep2 ws s i w a ∧ z = stD (aft ws w s i a.to) := by
  obtain ⟨s, hs, hz⟩ := List.mem_flatMap.mp h
  have : z ∈ laters sg ((stepsD ws s).take (stepsD ws s).length) := by rw [List.take_length]; exact hz
  obtain ⟨i, w, a, h1, h2⟩ := laters_mem this
  exact ⟨s, hs, i, w, a, h1, h2⟩
noncomputable def ledD (ws : List Wr) (sg : Str) (lot : List St) : List D := sortD (gath [] (nexts ws sg lot))
noncomputable def led (ws : List Wr) (sg : Str) (lot : List St) : List St := (ledD ws sg lot).map deSt
/-- what is gathered on the way -/
structure OnWay (ws : List Wr) (acc : List D) : Prop where
  nd : acc.Nodup
  st : ∀ d ∈ acc, (∃ s, d = stD s ∧ Good ws s) ∧ d ∈ world ws
theorem OnWay.few {ws : List Wr} (hok : CrewOk ws) {acc : List D} (h : OnWay ws acc) : acc.length ≤ 3888 := few_in hok.few h.nd fun d hd => (h.st d hd).2
theorem OnWay.sts {ws : List Wr} {acc : List D} (h : OnWay ws acc) : ∀ d ∈ acc, ∃ s, d = stD s := fun d hd => let ⟨⟨s, e, _⟩, _⟩ := h.st d hd; ⟨s, e⟩
theorem OnWay.add {ws : List Wr} (hok : CrewOk ws) {acc : List D} (h : OnWay ws acc) {s : St} (g : Good ws s) {i : Nat} {w : Wr} {a : Ar} (hs : IsStep2 ws s i w a) : OnWay ws (insD acc (stD (aft ws w s i a.to))) where
  nd := insD_nodup h.nd
  st := fun d hd => by
    rcases insD_mem.mp hd with hd | rfl
    · exact h.st d hd
    · obtain ⟨z1, z2⟩ := good_step hok g hs
      exact ⟨⟨_, rfl, z1⟩, z2⟩
theorem OnWay.nil (ws : List Wr) : OnWay ws [] := ⟨List.nodup_nil, fun d hd => nomatch hd⟩
theorem nexts_way {ws : List Wr} (hok : CrewOk ws) {sg : Str} {lot : List St} (hl : Lot ws lot) : OnWay ws (gath [] (nexts ws sg lot)) where
  nd := gath_nodup List.nodup_nil
  st := fun d hd => by
    rcases gath_mem.mp hd with h | h
    · cases h
    · obtain ⟨s, hs, i, w, a, st, rfl⟩ := nexts_mem h
      obtain ⟨z1, z2⟩ := good_step hok (hl s hs) st
      exact ⟨⟨_, rfl, z1⟩, z2⟩
theorem led_st {ws : List Wr} (hok : CrewOk ws) {sg : Str} {lot : List St} (hl : Lot ws lot) : (led ws sg lot).map stD = ledD ws sg lot :=
  sts_back fun d hd => (nexts_way hok hl).sts d ((sortD_perm _).mem_iff.mp hd)
theorem led_lot {ws : List Wr} (hok : CrewOk ws) {sg : Str} {lot : List St} (hl : Lot ws lot) : Lot ws (led ws sg lot) := fun s hs => by
  obtain ⟨d, hd, rfl⟩ := List.mem_map.mp hs
  obtain ⟨⟨t, rfl, g⟩, _⟩ := (nexts_way (sg := sg) hok hl).st d ((sortD_perm _).mem_iff.mp hd)
  rw [deSt_st]; exact g
theorem led_one {ws : List Wr} (hok : CrewOk ws) {sg : Str} {lot : List St} (hl : Lot ws lot) {ys : List D} (p : ys.Perm (gath [] (nexts ws sg lot))) (pw : ys.Pairwise fun d e => leD d e = true) : ys = (led ws sg lot).map stD := by
  rw [led_st hok hl]
  exact rank_eq (sts_ranked (nexts_way hok hl).sts) p pw
/-! ### comprehensions of several clauses -/
theorem cl_go {t : Tg} {tt : DT} {b : DC} {env : DEnv} {xs : List D} {k : List D → Mp → Prop} (Pv : Nat → List D → Mp → Prop)
    (hs : ∀ i x acc M (K : List D → Mp → Prop), xs[i]? = some x → Pv i acc M → (∀ acc' M', Pv (i + 1) acc' M' → K acc' M') → t.bind x env fun env1 => tt env1 M fun c M1 => brn c (b env1 acc M1 K) (K acc M1))
    (hd : ∀ acc M, Pv xs.length acc M → k acc M) : ∀ (r : List D) (i : Nat) (acc : List D) (M : Mp), xs.drop i = r → i ≤ xs.length → Pv i acc M → dClL0 t tt b env r acc M k
  | [], i, acc, M, e, hi, p => by
    have : i = xs.length := by have := List.drop_eq_nil_iff.mp e; omega
    subst this
    exact hd acc M p
  | x :: r, i, acc, M, e, hi, p => by
    have hlt : i < xs.length := by
      rcases Nat.lt_or_ge i xs.length with c | c
      · exact c
      · rw [List.drop_eq_nil_of_le c] at e; cases e
    rw [List.drop_eq_getElem_cons hlt, List.cons.injEq] at e
    obtain ⟨rfl, e⟩ := e
    exact hs i _ acc M _ (List.getElem?_eq_getElem hlt) p fun acc' M' p' => cl_go Pv hs hd r (i + 1) acc' M' e hlt p'
theorem cl_inv {t : Tg} {tt : DT} {b : DC} {env : DEnv} {xs acc : List D} {M : Mp} {k : List D → Mp → Prop} (Pv : Nat → List D → Mp → Prop) (h0 : Pv 0 acc M)
    (hs : ∀ i x acc M (K : List D → Mp → Prop), xs[i]? = some x → Pv i acc M → (∀ acc' M', Pv (i + 1) acc' M' → K acc' M') → t.bind x env fun env1 => tt env1 M fun c M1 => brn c (b env1 acc M1 K) (K acc M1))
    (hd : ∀ acc M, Pv xs.length acc M → k acc M) : dClL t tt b env xs acc M k := by
  rw [dClL_eq]; exact cl_go Pv hs hd xs 0 acc M rfl (Nat.zero_le _) h0
theorem laters_take {sg : Str} {xs : List D} {j : Nat} {x : D} (h : xs[j]? = some x) : laters sg (xs.take (j + 1)) = laters sg (xs.take j) ++ (latersOf sg x).toList := by
  unfold laters
  rw [List.take_add_one, h, List.filterMap_append]
  cases e : latersOf sg x <;> simp [e]
theorem nexts_take {ws : List Wr} {sg : Str} {lot : List St} {j : Nat} {s : St} (h : lot[j]? = some s) : nexts ws sg (lot.take (j + 1)) = nexts ws sg (lot.take j) ++ laters sg (stepsD ws s) := by
  unfold nexts
  rw [List.take_add_one, h, List.flatMap_append]; simp
end L3
set_option Elab.async false
set_option linter.all false
set_option maxRecDepth 100000
set_option maxHeartbeats 1000000
/-! L3: own lists cleared; sorted({..}) as an own list. -/
namespace L3
open PySem PySem.Spec PyProof.Rows L2
section
variable {X : Cx} {o : Expr} {to : DE} {apos pos : Pos}
def rClear : V → List V → Hp → VK → Prop := fun x vs H Q => ∃ l xs, x = .ref l ∧ vs = [] ∧ H l = some (.lst xs) ∧ Q .non (upd H l (.lst []))
theorem mt_clear : MtM X "list.clear" rClear := by
  intro pins s σ H x vs v us Q I rx rv h
  obtain ⟨l, xs, rfl, rfl, hH, q⟩ := h
  cases rx
  have hus := rv.zero
  subst hus
  obtain ⟨z, its, n, r, hl, e⟩ := I.lstM hH
  refine call_meets F.slot_list_clear ⟨_, e, rfl⟩ F.entry_list_clear (F.args_list_clear_1 _) (AutoSeq1.list_clear_list_0 l its.toArray n (by rw [List.size_toArray]; omega)) ⟨e, ?_⟩
  exact ⟨.non, _, I.lset (its' := []) hH e rfl .nil (Nat.zero_le _), rfl, q⟩
def dClear (to : DE) : DE := fun env M Q => to env M fun o M1 => mLst M1 o fun q _ => Q .non (mupd M1 q (.lst []))
theorem pd_clear (ho : PDE X o to) (hbase : attributeBase o "clear" X.env (eval o X.env) = eval o X.env := by rfl) (hline : (apos.endLine == pos.line) = true := by rfl) : PDE X (.Call (.Attribute o "clear" apos) [] [] pos) (dClear to) :=
  pe_imp (pe_bm0 PySem.F.plainAttrs_list PySem.F.slot_list_clear PySem.F.type_list_clear mt_clear ho hbase hline) fun σ H Q ⟨R, F, env, M, Qd, a, e, h, k⟩ =>
    ⟨R, F, env, M, _, a, e, h, fun F1 H1 M1 d v s1 a1 r1 q1 => ⟨mLst_ty a1 r1 q1, by
      obtain ⟨q, ds, xs, rfl, hm, hh, rx, q2⟩ := mLst_at a1 r1 q1
      exact ⟨q, xs, rfl, rfl, hh, k F1 _ _ .non .non s1 (a1.wrote hm (o := .lst []) ⟨[], rfl, rfl⟩) rfl q2⟩⟩⟩
end
/-! ### sorted({..}) as an own list -/
section
variable {X : Cx} {e : Expr} {c : Comprehension} {gs : List Comprehension} {part : Part} {t : Tg} {tt : DT} {b : DC} {vb : List Nat} {scope : Scope} {own : List (Str × Nat)} {w : DI} {elt : Expr} {te : DE} {pos p pos2 : Pos}
def dSortSetM (w : DI) (t : Tg) (tt : DT) (b : DC) (vs : List Nat) : DE := fun env M Q => w env M fun items M1 => dClL t tt b (wipeD env vs) items [] M1 fun acc M2 => SrtOk acc ∧ ∀ ys : List D, ys.Perm acc → ys.Pairwise (fun d e => leD d e = true) → ∀ p, M2 p = none → Q (.ref p) (mupd M2 p (.lst ys))
theorem pd_sortcompM {k : Nat} (hr : Room k X.A) (hm1 : X.mg "sorted" = none) (T : TurnIs (.SetComp elt (c :: gs) scope pos) 0 c part) (hN : X.N.Nodup) (hi : PDI X c.target c.iter w) (ok : BlkOk X.N X.env.scope scope own)
    (hg : BlkAll X scope fun Y => PDG Y c.target t) (ht : BlkAll X scope fun Y => PDTs Y c.ifs tt) (hb : BlkAll X scope fun Y => ∀ A, PB Y A part (upB Y.K (raS Y.K Y.w A) b A) vb) (hv : ∀ v ∈ t.slots, v ∈ own.map (·.2) := by decide) (sub : ∀ v ∈ vb, v ∈ own.map (·.2) := by decide)
    (hna : c.is_async = 0 := by rfl) (hc : X.calm = true := by rfl) (hs : ∀ x, foldedSetIterable c.iter X.env x = pure x := by intro _; rfl) (hg1 : Gl X "sorted" := by rfl)
    (ha : starEach [.SetComp elt (c :: gs) scope pos] X.env = (false, eval (.SetComp elt (c :: gs) scope pos) X.env) :: starEach [] X.env := by rfl) (hpl : (backTo pos2 (starEach [] X.env)).any (·.1) = false := by rfl) :
    PDE X (.Call (.Name "sorted" p) [.SetComp elt (c :: gs) scope pos] [] pos2) (dSortSetM w t tt b (own.map (·.2))) := by
  have hu : X.A.units + 65 < cLine := by have := hr.un; omega
  refine pe_imp (pe_callB (cr_sortedN hc hu) hg1 hm1 (by decide +kernel) (pa_cons (pe_setcomp T hN hi ok hg ht hb sub hna hc hs) pa_nil ha) (by decide) (by decide) ha hpl) fun σ H Q ⟨R, F, env, M, Qd, a, e, h, k⟩ => ⟨R, F, env, M, _, a, e, h, fun F1 H1 M1 items J s1 a1 gv q1 => ?_⟩
  intro A hA
  refine cl_served (ra := raS X.K X.w A) raS_mono hv (a1.freeR hA) (a1.lend hA _) ⟨[], rfl, .nil, by decide, fun r hr => nomatch hr⟩ (e.mono s1) gv q1 fun F2 H2 M2 acc u s2 a2 ⟨Ld, eu, pm, few, hk⟩ q2 => ?_
  subst eu
  have hH : H2 A = some (SetNO X.w A Ld) := (a2.fr A _ upd_same).2.2
  refine ⟨A, F2, Ld, rfl, hH, a2.fz, hk, ⟨fun x hx y hy => ?_, ?_⟩, fun Lf p pf srt hp => ?_⟩
  · obtain ⟨x', hx', rfl⟩ := List.mem_map.mp hx
    obtain ⟨y', hy', rfl⟩ := List.mem_map.mp hy
    exact q2.1.1 _ (List.mem_map.mpr ⟨x', pm.mem_iff.mp hx', rfl⟩) _ (List.mem_map.mpr ⟨y', pm.mem_iff.mp hy', rfl⟩)
  · refine q2.1.2.imp (fun h x hx => ?_) fun h x hx => ?_ <;>
    · obtain ⟨x', hx', rfl⟩ := List.mem_map.mp hx
      exact h _ (List.mem_map.mpr ⟨x', pm.mem_iff.mp hx', rfl⟩)
  · exact lst_born (a2.unlend (a1.freeR hA)) (reps_of fun r hr => (hk r (pf.mem_iff.mp hr)).1) (k.mono (s1.trans s2)) (q2.2 _ ((pf.map (·.2)).trans pm) srt) hp
end
section
variable {X : Cx} {elt t0 i0 t1 i1 : Expr} {f0 f1 : List Expr} {scope : Scope} {pos p pos2 : Pos} {own : List (Str × Nat)} {w0 w1 : DI} {g0 g1 : Tg} {tt0 tt1 : DT} {te : DE} {vs1 : List Nat}
theorem pd_sortsetM2 {k : Nat} (hr : Room k X.A) (hm1 : X.mg "sorted" = none) (hN : X.N.Nodup) (hi0 : PDI X t0 i0 w0) (ok : BlkOk X.N X.env.scope scope own) (hg0 : BlkAll X scope fun Y => PDG Y t0 g0) (ht0 : BlkAll X scope fun Y => PDTs Y f0 tt0)
    (hi1 : BlkAll X scope fun Y => PDI Y t1 i1 w1) (hg1 : BlkAll X scope fun Y => PDG Y t1 g1) (ht1 : BlkAll X scope fun Y => PDTs Y f1 tt1)
    (he : BlkAll X scope fun Y => PDE Y elt te) (hv : ∀ v ∈ g0.slots, v ∈ own.map (·.2) := by decide) (hv1 : ∀ v ∈ g1.slots, v ∈ vs1 := by decide) (sub : ∀ v ∈ vs1, v ∈ own.map (·.2) := by decide) (hc : X.calm = true := by rfl) (hs : ∀ x, foldedSetIterable i0 X.env x = pure x := by intro _; rfl) (hs1 : ∀ e x, foldedSetIterable i1 e x = pure x := by intro _ _; rfl) (hgl : Gl X "sorted" := by rfl)
    (ha : starEach [.SetComp elt [⟨t0, i0, f0, 0⟩, ⟨t1, i1, f1, 0⟩] scope pos] X.env = (false, eval (.SetComp elt [⟨t0, i0, f0, 0⟩, ⟨t1, i1, f1, 0⟩] scope pos) X.env) :: starEach [] X.env := by rfl) (hpl : (backTo pos2 (starEach [] X.env)).any (·.1) = false := by rfl) :
    PDE X (.Call (.Name "sorted" p) [.SetComp elt [⟨t0, i0, f0, 0⟩, ⟨t1, i1, f1, 0⟩] scope pos] [] pos2) (dSortSetM w0 g0 tt0 (dIn w1 g1 tt1 (dElS te) vs1) (own.map (·.2))) :=
  pd_sortcompM hr hm1 turn_s20 hN hi0 ok hg0 ht0 (fun s H C cl fp A => pdb_in raS_mono turn_s2 (hi1 s H C cl fp) (hg1 s H C cl fp) (ht1 s H C cl fp) (pdb_set (he s H C cl fp) (by have := hr.un; show X.A.units + 65 < cLine; omega)) hv1 (fun _ h => nomatch h) hc rfl (hs1 _)) hv sub rfl hc hs hgl ha hpl
end
end L3
set_option Elab.async false
set_option linter.all false
set_option maxRecDepth 100000
set_option maxHeartbeats 1000000
/-! Readings of shared helpers, eleventh part: lots led, strips left. -/
namespace L3
open PySem PySem.Spec PyProof.Rows L2
local macro_rules | `(tactic| walk_at "w") => `(tactic| conv => whnf)
def sp_Company_led : SpD := fun ds M Q _ => ∃ ws lot sg, ds = [coD ws, .lst (lot.map stD), .str sg] ∧ CrewOk ws ∧ Lot ws lot ∧ Q (.lst ((led ws sg lot).map stD)) M
def t_Company_led : DS := (dRet (dSortSet (iLst (dVar 1)) (.name 3) dYes (dIn (iLst (dFrz (dMeth CCompany sp_Company_steps (dVar 0) (dCons (dVar 3) dNil)))) (.tup [(.name 4), (.name 5), (.name 6)]) (dTest (dBin (rEqDD id) (dVar 4) (dVar 2))) (dElS (dVar 6)) [4, 5, 6]) [3, 4, 5, 6]))
theorem beq_str {a b : Str} : (a == b) = decide (a = b) := by
  by_cases c : a = b
  · subst c; simp
  · simp [c]
theorem r_Company_led (ds : List D) (M : Mp) (Q : DK) (E : DX) (hl : ds.length = 3) (h : sp_Company_led ds M Q E) : t_Company_led { nx := fun _ M' => Q .non M', rt := Q } (startD ["self", "lot", "sign", "stand", "seen", "name", "later"] ds) M := by
  obtain ⟨ws, lot, sg, rfl, hok, hlot, q⟩ := h
  walk_at "w"
  refine cl_inv (fun i acc M' => M' = M ∧ acc = gath [] (nexts ws sg (lot.take i)) ∧ OnWay ws acc) ⟨rfl, rfl, OnWay.nil ws⟩ (fun i x acc M' K hx ⟨eM, ea, way⟩ hK => ?_) fun acc M' ⟨eM, ea, way⟩ => ?_
  · subst eM
    rw [List.getElem?_map] at hx
    obtain ⟨s, hs, rfl⟩ := Option.map_eq_some_iff.mp hx
    have good := hlot s (List.mem_of_getElem? hs)
    walk_at "w"
    refine ⟨rfl, ws, s, rfl, hok, good.ok.pl, good.ok.wt, fun p hp => ?_⟩
    walk_at "w"
    rw [mupd_same]
    walk_at "w"
    rw [mdel_mupd hp]
    refine cl_inv (fun j acc2 M2 => M2 = M' ∧ acc2 = gath acc (laters sg ((stepsD ws s).take j)) ∧ OnWay ws acc2) ⟨rfl, rfl, way⟩ (fun j y acc2 M2 K2 hy ⟨eM2, ea2, way2⟩ hK2 => ?_) fun acc2 M2 ⟨eM2, ea2, way2⟩ => ?_
    · subst eM2
      obtain ⟨k, w, a, st, rfl⟩ := steps_mem2 (List.mem_of_getElem? hy)
      have lt := laters_take (sg := sg) hy
      walk_at "w"
      refine ⟨⟨rfl, rfl⟩, ?_⟩
      walk_at "w"
      refine brn_by (fun hc => ?_) fun hc => ?_
      · have e : a.sg = sg := by
          have : (a.sg == sg) = true := hc
          simpa [beq_str] using this
        have el : latersOf sg (.tup [.str a.sg, .str w.name, stD (aft ws w s k a.to)]) = some (stD (aft ws w s k a.to)) := by show (if a.sg = sg then _ else _) = _; rw [if_pos e]
        rw [el] at lt
        have way3 := way2.add hok good st
        walk_at "w"
        refine ⟨⟨isKey_st _, by have := way2.few hok; omega⟩, ?_⟩
        refine hK2 _ _ ⟨rfl, ?_, way3⟩
        rw [lt, gath_append, ← ea2]; rfl
      · have e : ¬ a.sg = sg := by
          have : (a.sg == sg) = false := hc
          simpa [beq_str] using this
        have el : latersOf sg (.tup [.str a.sg, .str w.name, stD (aft ws w s k a.to)]) = none := by show (if a.sg = sg then _ else _) = _; rw [if_neg e]
        rw [el] at lt
        refine hK2 _ _ ⟨rfl, ?_, way2⟩
        rw [lt, ea2]; simp
    · subst eM2
      rw [List.take_length] at ea2
      refine hK _ _ ⟨rfl, ?_, way2⟩
      rw [nexts_take hs, gath_append, ← ea, ea2]
  · subst eM
    rw [List.length_map, List.take_length] at ea
    refine ⟨sts_srt way.sts, fun ys pm pw => ?_⟩
    subst ea
    have z := led_one hok hlot pm pw
    rw [z]; exact q
/-! ### the law's own -/
def sp_law_led : SpD := fun ds M Q _ => ∃ ws lot sg, ds = [.lst (ws.map wrD), .lst (lot.map stD), .str sg] ∧ CrewOk ws ∧ Lot ws lot ∧ Q (.lst ((led ws sg lot).map stD)) M
def t_law_led_1 (wd : World) : DS := (dFrzN 3 (dRet (dUn (rSortDk wd) (dVar 3))))
def t_law_led (wd : World) : DS := (dSeq (dSet 3 (dDk0 wd))
    (dSeq (dFor (iLst (dVar 1)) (.name 4) (dFor (iLst (dCall sp_law_steps (dCons (dVar 0) (dCons (dVar 4) dNil)))) (.tup [(.name 5), (.name 6), (.name 7)]) (dIfS (dTest (dBin (rEqDD id) (dVar 5) (dVar 2))) (dSetDk wd (dC (.bl true)) (dVar 3) (dVar 7)) dNext)))
    (t_law_led_1 wd)))
theorem OnWay.keys {ws : List Wr} {acc : List D} (h : OnWay ws acc) : ∀ d ∈ acc, isKey d = true := fun d hd => by
  obtain ⟨s, rfl⟩ := h.sts d hd; exact isKey_st s
theorem r_law_led (wd : World) (ds : List D) (M : Mp) (Q : DK) (E : DX) (hl : ds.length = 3) (h : sp_law_led ds M Q E) : t_law_led wd { nx := fun _ M' => Q .non M', rt := Q } (startD ["_law_m", "_law_lot", "_law_sign", "_law_found", "_law_stand", "_law_mark", "_law_name", "_law_later"] ds) M := by
  obtain ⟨ws, lot, sg, rfl, hok, hlot, q⟩ := h
  walk_at "w"
  intro p hp
  walk_at "w"
  refine for_inv (fun i env M' => ∃ acc vs, M' = mupd M p (.dkd wd acc vs) ∧ acc = gath [] (nexts ws sg (lot.take i)) ∧ OnWay ws acc ∧ ∃ e4 e5 e6 e7, env = [some (.lst (ws.map wrD)), some (.lst (lot.map stD)), some (.str sg), some (.ref p), e4, e5, e6, e7]) ⟨[], [], rfl, rfl, OnWay.nil ws, _, _, _, _, rfl⟩
    (fun i x env M' K hx ⟨acc, vs, eM, ea, way, e4, e5, e6, e7, ee⟩ hK => ?_) fun env M' ⟨acc, vs, eM, ea, way, e4, e5, e6, e7, ee⟩ => ?_
  · subst eM ee
    rw [List.getElem?_map] at hx
    obtain ⟨s, hs, rfl⟩ := Option.map_eq_some_iff.mp hx
    have good := hlot s (List.mem_of_getElem? hs)
    walk_at "w"
    refine ⟨ws, s, rfl, hok, good.ok, ?_⟩
    walk_at "w"
    refine for_inv (fun j env M' => ∃ acc2 vs2, M' = mupd M p (.dkd wd acc2 vs2) ∧ acc2 = gath acc (laters sg ((stepsD ws s).take j)) ∧ OnWay ws acc2 ∧ ∃ e5 e6 e7, env = [some (.lst (ws.map wrD)), some (.lst (lot.map stD)), some (.str sg), some (.ref p), some (stD s), e5, e6, e7]) ⟨acc, vs, rfl, rfl, way, _, _, _, rfl⟩
      (fun j y env M' K2 hy ⟨acc2, vs2, eM2, ea2, way2, e5, e6, e7, ee⟩ hK2 => ?_) fun env M' ⟨acc2, vs2, eM2, ea2, way2, e5, e6, e7, ee⟩ => ?_
    · subst eM2 ee
      obtain ⟨k, w, a, st, rfl⟩ := steps_mem2 (List.mem_of_getElem? hy)
      have lt := laters_take (sg := sg) hy
      walk_at "w"
      refine ⟨⟨rfl, rfl⟩, ?_⟩
      walk_at "w"
      refine brn_by (fun hc => ?_) fun hc => ?_
      · have e : a.sg = sg := by
          have : (a.sg == sg) = true := hc
          simpa [beq_str] using this
        have el : latersOf sg (.tup [.str a.sg, .str w.name, stD (aft ws w s k a.to)]) = some (stD (aft ws w s k a.to)) := by show (if a.sg = sg then _ else _) = _; rw [if_pos e]
        rw [el] at lt
        have way3 := way2.add hok good st
        walk_at "w"
        rw [mupd_same]
        refine ⟨⟨rfl, isKey_st _, by have := way2.few hok; rw [sizeLine_eq]; omega⟩, ?_⟩
        refine hK2 _ _ ⟨_, _, mupd_mupd, ?_, by rw [addD_ins way2.keys (isKey_st _)]; exact way3, _, _, _, rfl⟩
        rw [addD_ins way2.keys (isKey_st _), lt, gath_append, ← ea2]; rfl
      · have e : ¬ a.sg = sg := by
          have : (a.sg == sg) = false := hc
          simpa [beq_str] using this
        have el : latersOf sg (.tup [.str a.sg, .str w.name, stD (aft ws w s k a.to)]) = none := by show (if a.sg = sg then _ else _) = _; rw [if_neg e]
        rw [el] at lt
        refine hK2 _ _ ⟨acc2, vs2, rfl, ?_, way2, _, _, _, rfl⟩
        rw [lt, ea2]; simp
    · subst eM2 ee
      rw [List.take_length] at ea2
      refine hK _ _ ⟨acc2, vs2, rfl, ?_, way2, _, _, _, _, rfl⟩
      rw [nexts_take hs, gath_append, ← ea, ea2]
  · subst eM ee
    rw [List.length_map, List.take_length] at ea
    walk_at "w"
    rw [mupd_same]
    walk_at "w"
    rw [mdel_mupd hp]
    refine ⟨rfl, sts_srt way.sts, fun ys pm pw => ?_⟩
    subst ea
    have z := led_one hok hlot pm pw
    rw [z]; exact q
/-! ### strips -/
noncomputable def lotOf (ws : List Wr) (sgs : List Str) : List St := sgs.foldl (fun lot sg => led ws sg lot) [st0 ws.length]
theorem lotOf_ok {ws : List Wr} (hok : CrewOk ws) (sgs : List Str) : Lot ws (lotOf ws sgs) := by
  have : ∀ (sgs : List Str) (lot : List St), Lot ws lot → Lot ws (sgs.foldl (fun lot sg => led ws sg lot) lot) := by
    intro sgs
    induction sgs with
    | nil => exact fun _ h => h
    | cons sg sgs ih => exact fun lot h => ih _ (led_lot hok h)
  exact this sgs _ fun s hs => by rw [List.mem_singleton.mp hs]; exact good0 ws
theorem lotOf_take {ws : List Wr} {sgs : List Str} {i : Nat} {sg : Str} (h : sgs[i]? = some sg) : lotOf ws (sgs.take (i + 1)) = led ws sg (lotOf ws (sgs.take i)) := by
  unfold lotOf
  rw [List.take_add_one, h, List.foldl_append]; rfl
theorem lot_le (lot : List St) : D.le 60 (.lst (lot.map stD)) = true := by
  simp only [D.le]
  exact les_of fun d hd => by obtain ⟨s, _, rfl⟩ := List.mem_map.mp hd; exact le_mono (by omega) (st_le s)
noncomputable def leftB (ws : List Wr) (sgs : List Str) : Bool := !(lotOf ws sgs).isEmpty
def sp_Company_leaves : SpD := fun ds M Q _ => ∃ ws d sgs, ds = [coD ws, d] ∧ IsRow d (sgs.map D.str) ∧ CrewOk ws ∧ Q (.bl (leftB ws sgs)) M
def t_Company_leaves_1 : DS := (dRet (dBin (rEqDD not) (dVar 2) (dLst dNil)))
def t_Company_leaves : DS := (dSeq (dSet 2 (dLst (dCons (dMeth CCompany sp_Company_begin (dVar 0) dNil) dNil)))
    (dSeq (dFor (iSeq (dVar 1)) (.name 3) (dSet 2 (dMeth CCompany sp_Company_led (dVar 0) (dCons (dVar 2) (dCons (dVar 3) dNil)))))
    t_Company_leaves_1))
theorem r_Company_leaves (ds : List D) (M : Mp) (Q : DK) (E : DX) (hl : ds.length = 2) (h : sp_Company_leaves ds M Q E) : t_Company_leaves { nx := fun _ M' => Q .non M', rt := Q } (startD ["self", "strip", "lot", "sign"] ds) M := by
  obtain ⟨ws, d, sgs, rfl, hd, hok, q⟩ := h
  have key : dFor (iSeq (dVar 1)) (.name 3) (dSet 2 (dMeth CCompany sp_Company_led (dVar 0) (dCons (dVar 2) (dCons (dVar 3) dNil)))) { nx := fun e m => t_Company_leaves_1 { nx := fun _ M' => Q .non M', rt := Q } e m, rt := Q } [some (coD ws), some d, some (.lst ([st0 ws.length].map stD)), none] M := by
    have go : ∀ items : List D, items = sgs.map D.str → dForL (.name 3) (dSet 2 (dMeth CCompany sp_Company_led (dVar 0) (dCons (dVar 2) (dCons (dVar 3) dNil)))) items { nx := fun e m => t_Company_leaves_1 { nx := fun _ M' => Q .non M', rt := Q } e m, rt := Q } [some (coD ws), some d, some (.lst ([st0 ws.length].map stD)), none] M := by
      intro items ei
      subst ei
      refine for_inv (fun i env M' => M' = M ∧ ∃ e3, env = [some (coD ws), some d, some (.lst ((lotOf ws (sgs.take i)).map stD)), e3]) ⟨rfl, _, rfl⟩ (fun i x env M' K hx ⟨eM, e3, ee⟩ hK => ?_) fun env M' ⟨eM, e3, ee⟩ => ?_
      · subst eM ee
        rw [List.getElem?_map] at hx
        obtain ⟨sg, hs, rfl⟩ := Option.map_eq_some_iff.mp hx
        walk_at "w"
        refine ⟨rfl, ws, _, sg, rfl, hok, lotOf_ok hok _, ?_⟩
        refine hK _ _ ⟨rfl, some (.str sg), ?_⟩
        rw [lotOf_take hs]; rfl
      · subst eM ee
        rw [List.length_map, List.take_length]
        walk_at "w"
        refine ⟨⟨lot_le _, rfl⟩, ?_⟩
        have e : eqD (.lst ((lotOf ws sgs).map stD)) (.lst []) = (lotOf ws sgs).isEmpty := by rw [eqD_nil]; cases lotOf ws sgs <;> rfl
        show Q (.bl (!eqD (.lst ((lotOf ws sgs).map stD)) (.lst []))) M'
        rw [e]; exact q
    rcases hd with rfl | rfl
    · exact go _ rfl
    · exact go _ rfl
  walk_at "w"
  refine ⟨rfl, ws, rfl, hok.few, ?_⟩
  exact key
end L3
set_option Elab.async false
set_option linter.all false
set_option maxRecDepth 100000
set_option maxHeartbeats 1000000
namespace L3
open PySem PySem.Spec PyProof.Rows L2
local macro_rules | `(tactic| walk_at "w") => `(tactic| conv => whnf)
/-! ### a stand carried to the same company is itself -/
theorem wr_nk (w : Wr) : D.nk 8 (wrD w) = true := by
  unfold wrD
  simp only [D.nk, D.nks, Bool.and_true, Bool.true_and]
  exact nks_of fun d hd => by obtain ⟨a, _, rfl⟩ := List.mem_map.mp hd; rfl
theorem wr_eq {v w : Wr} (h : eqD (wrD v) (wrD w) = true) : v.name = w.name := by
  have := nk_eqv (wr_nk v) (wr_nk w) h
  unfold wrD at this
  simp only [D.tup.injEq, List.cons.injEq, D.str.injEq] at this
  exact this.1
theorem spot_self {ws : List Wr} (h : CrewOk ws) {k : Nat} (hk : k < ws.length) : spotOf (ws.map wrD) (wrD ws[k]) = k := by
  unfold spotOf
  have : ((ws.map wrD).findIdx? fun z => eqD z (wrD ws[k])) = some k := by
    rw [List.findIdx?_eq_some_iff_getElem]
    refine ⟨by rw [List.length_map]; exact hk, ?_, fun j hj => ?_⟩
    · rw [List.getElem_map]; exact nk_self (wr_nk _)
    · rw [List.getElem_map]
      intro e
      have e := wr_eq e
      have := List.nodup_iff_pairwise_ne.mp h.nd
      rw [List.pairwise_iff_getElem] at this
      refine this j k (by rw [List.length_map]; omega) (by rw [List.length_map]; exact hk) hj ?_
      rw [List.getElem_map, List.getElem_map]
      exact e
  rw [this]
theorem spots_self {ws : List Wr} (h : CrewOk ws) : spotsOf ws ws = (List.range ws.length).map fun (k : Nat) => (k : Int) := by
  apply List.ext_getElem?
  intro k
  unfold spotsOf
  rw [List.getElem?_map, List.getElem?_map]
  by_cases hk : k < ws.length
  · rw [List.getElem?_eq_getElem hk, List.getElem?_range hk]
    exact congrArg some (spot_self h hk)
  · rw [List.getElem?_eq_none (by omega), List.getElem?_eq_none (by rw [List.length_range]; omega)]; rfl
theorem keep_self {xs : List Int} {n : Nat} (h : xs.length = n) : ((List.range n).map fun (k : Nat) => (k : Int)).map (keepAt xs) = xs := by
  apply List.ext_getElem?
  intro k
  rw [List.getElem?_map, List.getElem?_map]
  by_cases hk : k < n
  · rw [List.getElem?_range hk]
    show some (keepAt xs (k : Int)) = _
    unfold keepAt
    rw [if_pos (by omega), Int.toNat_natCast, List.getElem?_eq_getElem (by omega)]; rfl
  · rw [List.getElem?_eq_none (by rw [List.length_range]; omega), List.getElem?_eq_none (by omega)]; rfl
theorem carry_self {ws : List Wr} {s : St} (h : CrewOk ws) (hp : s.pl.length = ws.length) (hwt : s.wt.length = ws.length) (hr : RunOk ws.length s) : carry ws ws s = s := by
  unfold carry
  simp only [spots_self h, keep_self hp, keep_self hwt]
  rcases hr with ⟨h1, h2⟩ | ⟨i, hi, h1⟩
  · rw [if_neg (by omega)]
    cases s
    simp only at h1 h2
    subst h1 h2
    rfl
  · have e : ((((List.range ws.length).map fun (k : Nat) => (k : Int)).map D.int).findIdx? fun z => eqD z (.int s.la)) = some i := by
      rw [List.findIdx?_eq_some_iff_getElem]
      refine ⟨by simpa using hi, ?_, fun j hj => ?_⟩
      · simp only [List.getElem_map, List.getElem_range]
        rw [h1, eqD_nat]
        simp
      · simp only [List.getElem_map, List.getElem_range]
        rw [h1, eqD_nat]
        simp
        omega
    rw [if_pos (by omega), e]
    cases s
    simp only at h1
    subst h1
    rfl
/-! ### a fresh name -/
def freshs : List Str := ["q", "qq", "qqq", "qqqq", "qqqqq", "qqqqqq"]
theorem freshs_ok : ∀ x ∈ freshs, isName x = true := by decide +kernel
theorem freshs_nd : freshs.Nodup := by decide +kernel
def sp_law_fresh : SpD := fun ds M Q _ => ∃ ns : List Str, ds = [.lst (ns.map D.str)] ∧ ns.length ≤ 5 ∧ ∀ x, isName x = true → x ∉ ns → Q (.str x) M
def t_law_fresh : DS := (dRet (dBin rIxD (dLc (iLst (dLst (dCons (dC (.str "q")) (dCons (dC (.str "qq")) (dCons (dC (.str "qqq")) (dCons (dC (.str "qqqq")) (dCons (dC (.str "qqqqq")) (dCons (dC (.str "qqqqqq")) dNil)))))))) (.name 1) (dTest (dBin (rInDD not) (dVar 1) (dVar 0))) (dVar 1) [1]) (dC (.int 0))))
theorem r_law_fresh (ds : List D) (M : Mp) (Q : DK) (E : DX) (hl : ds.length = 1) (h : sp_law_fresh ds M Q E) : t_law_fresh { nx := fun _ M' => Q .non M', rt := Q } (startD ["_law_names_here", "_law_name"] ds) M := by
  obtain ⟨ns, rfl, hn, q⟩ := h
  have hle : D.les 58 (ns.map D.str) = true := les_flat fun d hd => by obtain ⟨x, _, rfl⟩ := List.mem_map.mp hd; rfl
  have hany : ∀ y : Str, ((ns.map D.str).any fun z => eqD z (.str y)) = decide (y ∈ ns) := fun y => by
    rw [Bool.eq_iff_iff, decide_eq_true_eq, List.any_eq_true]
    constructor
    · rintro ⟨z, hz, e⟩
      obtain ⟨x, hx, rfl⟩ := List.mem_map.mp hz
      rw [eqD_str] at e
      exact eq_of_beq e ▸ hx
    · intro hy
      exact ⟨.str y, List.mem_map.mpr ⟨y, hy, rfl⟩, by rw [eqD_str]; simp⟩
  walk_at "w"
  show dLcL _ _ _ _ (freshs.map D.str) _ _ _
  refine lc_filter (fun x => match x with
    | .str y => !decide (y ∈ ns)
    | _ => false) id (fun x hx K1 K2 h1 h2 => ?_) ?_
  · obtain ⟨y, _, rfl⟩ := List.mem_map.mp hx
    walk_at "w"
    refine ⟨⟨rfl, hle⟩, ?_⟩
    walk_at "w"
    refine brn_by (fun hc => ?_) fun hc => ?_
    · have hc' : (!((ns.map D.str).any fun z => eqD z (.str y))) = true := hc
      rw [hany] at hc'
      exact h1 hc'
    · have hc' : (!((ns.map D.str).any fun z => eqD z (.str y))) = false := hc
      rw [hany] at hc'
      exact h2 hc'
  · have e : ((freshs.map D.str).filter fun x => match x with
        | .str y => !decide (y ∈ ns)
        | _ => false).map id = (freshs.filter fun y => !decide (y ∈ ns)).map D.str := by
      rw [List.map_id, List.filter_map]; rfl
    rw [e]
    have hne : (freshs.filter fun y => !decide (y ∈ ns)) ≠ [] := by
      intro e
      rw [List.filter_eq_nil_iff] at e
      have := sub_len freshs_nd fun x hx => by
        have := e x hx
        simpa using this
      have h6 : freshs.length = 6 := rfl
      omega
    cases hf : freshs.filter fun y => !decide (y ∈ ns) with
    | nil => exact absurd hf hne
    | cons x xs =>
      have hx : x ∈ freshs.filter fun y => !decide (y ∈ ns) := by rw [hf]; exact List.mem_cons_self
      obtain ⟨h1, h2⟩ := List.mem_filter.mp hx
      walk_at "w"
      rw [List.map_cons, atI_0]
      exact q x (freshs_ok x h1) (by simpa using h2)
/-! ### another crew -/
def sp_law_other_crew : SpD := fun ds M Q _ => ∃ p b, ∃ ws : List Wr, ds = [.ref p, .lst (ws.map wrD)] ∧ M p = some (.lst (Bag.l b)) ∧ b.Ok ∧ CrewOk ws ∧ ∀ vs b', Bag.Ok b' → CrewOk vs → Q (.lst (vs.map wrD)) (mupd M p (.lst b'.l))
def t_law_other_crew_1 : DS := (dFrzN 2 (dRet (dVar 2)))
def t_law_other_crew_2 : DS := (dSeq (dIfS (dAnd (dTest (dBin rLtI (dUn rLenD (dVar 2)) (dC (.int 3)))) (dTest (dBin (rEqDD id) (dCall sp_law_pull (dCons (dVar 0) (dCons (dC (.int 2)) dNil))) (dC (.int 0))))) (dSeq (dSet 6 (dCall sp_law_fresh (dCons (dLc (iLst (dVar 1)) (.name 3) dYes (dBin rIxD (dVar 3) (dC (.int 0))) [3]) dNil)))
    (dDrop (dInsert (dVar 2) (dCall sp_law_pull (dCons (dVar 0) (dCons (dBin rAddD (dUn rLenD (dVar 2)) (dC (.int 1))) dNil))) (dTup (dCons (dVar 6) (dCons (dTup (dCons (dTup (dCons (dC (.int 0)) (dCons (dC (.str "a")) (dCons (dC (.int 0)) dNil)))) dNil)) (dCons (dC (.int 1)) (dCons (dC (.int 2)) dNil)))))))) dNext)
    t_law_other_crew_1)
def t_law_other_crew_3 : DS := (dSeq (dIfS (dTest (dBin (rEqDD id) (dCall sp_law_pull (dCons (dVar 0) (dCons (dC (.int 2)) dNil))) (dC (.int 0)))) (dFrzN 2 (dSet 2 (dSlM (dVar 2) (dPart (dC (.int 1))) dNoPart))) dNext)
    t_law_other_crew_2)
def t_law_other_crew : DS := (dSeq (dSet 2 (dLstM dNil))
    (dSeq (dFor (iLst (dVar 1)) (.name 3) (dSeq (dSet 4 (dCall sp_law_pull (dCons (dVar 0) (dCons (dC (.int 5)) dNil))))
    (dSeq (dSet 5 (dBin rIxD (dLst (dCons (dVar 3) (dCons (dVar 3) (dCons (dBin rAddD (dSl (dVar 3) dNoPart (dPart (dC (.int 2)))) (dTup (dCons (dBin rSubI (dC (.int 3)) (dBin rIxD (dVar 3) (dC (.int 2)))) (dCons (dBin rIxD (dVar 3) (dC (.int 3))) dNil)))) (dCons (dBin rAddD (dSl (dVar 3) dNoPart (dPart (dC (.int 3)))) (dTup (dCons (dBin rModI (dBin rAddD (dBin rIxD (dVar 3) (dC (.int 3))) (dC (.int 1))) (dC (.int 4))) dNil))) dNil))))) (dBin rModI (dVar 4) (dC (.int 4)))))
    (dDrop (dInsert (dVar 2) (dCall sp_law_pull (dCons (dVar 0) (dCons (dBin rAddD (dUn rLenD (dVar 2)) (dC (.int 1))) dNil))) (dVar 5))))))
    t_law_other_crew_3))
/-- what is made so far of the first i writers -/
structure MadeOf (ws vs : List Wr) (i : Nat) : Prop where
  ok : ∀ w ∈ vs, WrOk w
  nd : (vs.map (·.name)).Nodup
  sub : ∀ x ∈ vs.map (·.name), x ∈ (ws.take i).map (·.name)
  len : vs.length ≤ i
theorem ins_map (vs : List Wr) (j : Nat) (w : Wr) : (vs.map wrD).take j ++ [wrD w] ++ (vs.map wrD).drop j = (vs.take j ++ [w] ++ vs.drop j).map wrD := by
  rw [List.map_append, List.map_append, List.map_take, List.map_drop]; rfl
theorem ins_mem {α : Type} {vs : List α} {j : Nat} {w x : α} : x ∈ vs.take j ++ [w] ++ vs.drop j ↔ x = w ∨ x ∈ vs := by
  have : vs.take j ++ [w] ++ vs.drop j = vs.take j ++ w :: vs.drop j := by simp
  rw [this, List.mem_append, List.mem_cons]
  constructor
  · rintro (h | h | h)
    · exact .inr (List.mem_of_mem_take h)
    · exact .inl h
    · exact .inr (List.mem_of_mem_drop h)
  · rintro (h | h)
    · exact .inr (.inl h)
    · rw [← List.take_append_drop j vs] at h
      rcases List.mem_append.mp h with h | h
      · exact .inl h
      · exact .inr (.inr h)
theorem ins_perm' {α : Type} (vs : List α) (j : Nat) (w : α) : (vs.take j ++ [w] ++ vs.drop j).Perm (w :: vs) := by
  have : vs.take j ++ [w] ++ vs.drop j = vs.take j ++ w :: vs.drop j := by simp
  rw [this]
  refine List.perm_middle.trans ?_
  rw [List.take_append_drop]
theorem crew_ins {vs : List Wr} {w : Wr} (j : Nat) (h1 : ∀ v ∈ vs, WrOk v) (h2 : (vs.map (·.name)).Nodup) (hw : WrOk w) (hn : w.name ∉ vs.map (·.name)) : (∀ v ∈ vs.take j ++ [w] ++ vs.drop j, WrOk v) ∧ ((vs.take j ++ [w] ++ vs.drop j).map (·.name)).Nodup := by
  refine ⟨fun v hv => ?_, ?_⟩
  · rcases ins_mem.mp hv with rfl | hv
    · exact hw
    · exact h1 v hv
  · rw [((ins_perm' vs j w).map (·.name)).nodup_iff, List.map_cons, List.nodup_cons]
    exact ⟨hn, h2⟩
theorem r_law_other_crew_2 (p : Addr) (b : Bag) (hb : b.Ok) (ws vs : List Wr) (hws : ws.length ≤ 3) (h1 : ∀ v ∈ vs, WrOk v) (h2 : (vs.map (·.name)).Nodup) (h3 : vs.length ≤ 3) (hsub : ∀ x ∈ vs.map (·.name), x ∈ ws.map (·.name)) (M : Mp) (qa : Addr) (hqa : M qa = none) (hpq : qa ≠ p) (Q : DK) (nx : DEnv → Mp → Prop) (e3 e4 e5 e6 : Option D)
    (q : ∀ vs b', Bag.Ok b' → CrewOk vs → Q (.lst (vs.map wrD)) (mupd M p (.lst b'.l))) :
    t_law_other_crew_2 { nx := nx, rt := Q } [some (.ref p), some (.lst (ws.map wrD)), some (.ref qa), e3, e4, e5, e6] (mupd (mupd M p (.lst b.l)) qa (.lst (vs.map wrD))) := by
  have fin : ∀ (vs : List Wr) (b : Bag), b.Ok → CrewOk vs → ∀ e6, t_law_other_crew_1 { nx := nx, rt := Q } [some (.ref p), some (.lst (ws.map wrD)), some (.ref qa), e3, e4, e5, e6] (mupd (mupd M p (.lst b.l)) qa (.lst (vs.map wrD))) := fun vs b hb hv e6 => by
    walk_at "w"
    rw [mupd_same]
    walk_at "w"
    rw [mdel_mupd (by rw [mupd_ne hpq]; exact hqa)]
    exact q vs b hb hv
  walk_at "w"
  rw [resD_new]
  walk_at "w"
  refine brn_by (fun hc => ?_) fun hc => ?_
  · have hlt : vs.length < 3 := by
      have := of_decide_eq_true hc
      rw [List.length_map] at this
      omega
    walk_at "w"
    refine ⟨p, b, 2, rfl, by rw [mupd_ne (Ne.symm hpq), mupd_same], hb, by decide, by decide, fun r b1 hb1 r0 r1 => ?_⟩
    rw [mupd_comm hpq, mupd_mupd]
    walk_at "w"
    refine ⟨⟨rfl, rfl⟩, ?_⟩
    walk_at "w"
    refine brn_by (fun hd => ?_) fun hd => ?_
    · walk_at "w"
      refine lc_map (fun x => match x with
        | .tup (z :: _) => z
        | _ => .non) (fun x hx K1 K2 h1 => ?_) ?_
      · obtain ⟨w, _, rfl⟩ := List.mem_map.mp hx
        exact h1
      · have e : (ws.map wrD).map (fun x => match x with
            | .tup (z :: _) => z
            | _ => D.non) = (ws.map (·.name)).map D.str := by rw [List.map_map, List.map_map]; rfl
        rw [e]
        refine ⟨ws.map (·.name), rfl, by rw [List.length_map]; omega, fun nm hnm hno => ?_⟩
        walk_at "w"
        refine ⟨?_, ?_⟩
        · walk_at "w"
          rw [mupd_same]
          trivial
        walk_at "w"
        rw [resD_new]
        walk_at "w"
        refine ⟨p, b1, ((vs.map wrD).length : Int) + 1, rfl, by rw [mupd_ne (Ne.symm hpq), mupd_same], hb1, by omega, by rw [List.length_map]; omega, fun j b2 hb2 j0 j1 => ?_⟩
        rw [mupd_comm hpq, mupd_mupd]
        walk_at "w"
        rw [mupd_same]
        refine ⟨⟨by rw [List.length_map, sizeLine_eq]; omega, j0, by rw [List.length_map] at j1; omega⟩, ?_⟩
        rw [mupd_mupd]
        have hw : WrOk ⟨nm, [⟨0, "a", 0⟩], 1, 2⟩ := ⟨hnm, by show 1 ≤ 9; decide, fun a ha => by
          rw [List.mem_singleton.mp ha]
          exact ⟨by decide, by decide, ⟨97, rfl, rfl⟩, by decide, by decide⟩, by simp, by show (0 : Int) ≤ 1; decide, by show (1 : Int) ≤ 3; decide, by show (0 : Int) ≤ 2; decide, by show (2 : Int) ≤ 3; decide⟩
        obtain ⟨g1, g2⟩ := crew_ins j.toNat h1 h2 hw (fun h => hno (hsub _ h))
        have e3 : ((vs.map wrD).take j.toNat ++ [D.tup [.str nm, .tup [.tup [.int 0, .str "a", .int 0]], .int 1, .int 2]] ++ (vs.map wrD).drop j.toNat) = (vs.take j.toNat ++ [(⟨nm, [⟨0, "a", 0⟩], 1, 2⟩ : Wr)] ++ vs.drop j.toNat).map wrD := ins_map vs j.toNat ⟨nm, [⟨0, "a", 0⟩], 1, 2⟩
        rw [e3]
        refine fin _ b2 hb2 ⟨g1, g2, ?_⟩ _
        rw [(ins_perm' vs _ _).length_eq, List.length_cons]; omega
    · exact fin vs b1 hb1 ⟨h1, h2, h3⟩ _
  · exact fin vs b hb ⟨h1, h2, h3⟩ _
def modPat (w : Wr) : Wr := { w with pat := 3 - w.pat }
def modCap (w : Wr) : Wr := { w with cap := (w.cap + 1) % 4 }
theorem r_law_other_crew (ds : List D) (M : Mp) (Q : DK) (E : DX) (hl : ds.length = 2) (h : sp_law_other_crew ds M Q E) : t_law_other_crew { nx := fun _ M' => Q .non M', rt := Q } (startD ["_law_bag_here", "_law_m", "_law_found", "_law_writer_here", "_law_pick", "_law_fresh_here", "_law_name"] ds) M := by
  obtain ⟨p, b, ws, rfl, hM, hb, hok, q⟩ := h
  have hfew := hok.few
  walk_at "w"
  intro qa hqa
  have hpq : qa ≠ p := fun e => by rw [e, hM] at hqa; cases hqa
  walk_at "w"
  refine for_inv (fun i env M' => ∃ b' e3 e4 e5, ∃ vs : List Wr, env = [some (.ref p), some (.lst (ws.map wrD)), some (.ref qa), e3, e4, e5, none] ∧ Bag.Ok b' ∧ M' = mupd (mupd M p (.lst b'.l)) qa (.lst (vs.map wrD)) ∧ MadeOf ws vs i)
    ⟨b, none, none, none, [], rfl, hb, by rw [mupd_id hM]; rfl, ⟨by simp, by simp, by simp, Nat.le_refl _⟩⟩ (fun i x env M' K hx ⟨b1, e3, e4, e5, vs, e1, hb1, eM, mo⟩ hK => ?_) fun env M' ⟨b1, e3, e4, e5, vs, e1, hb1, eM, mo⟩ => ?_
  · subst e1 eM
    rw [List.getElem?_map] at hx
    obtain ⟨w, hw, rfl⟩ := Option.map_eq_some_iff.mp hx
    have hil : i < ws.length := (List.getElem?_eq_some_iff.mp hw).1
    have hwk := hok.ok w (List.mem_of_getElem? hw)
    have hvl := mo.len
    walk_at "w"
    refine ⟨p, b1, 5, rfl, by rw [mupd_ne (Ne.symm hpq), mupd_same], hb1, by decide, by decide, fun r b2 hb2 r0 r1 => ?_⟩
    rw [mupd_comm hpq, mupd_mupd]
    walk_at "w"
    refine ⟨by show 2 + 2 ≤ sizeLine; decide, ?_⟩
    walk_at "w"
    refine ⟨by show (0 : Int) < 4; decide, ?_⟩
    walk_at "w"
    refine ⟨by show 3 + 1 ≤ sizeLine; decide, ?_⟩
    walk_at "w"
    refine ⟨by show (0 : Int) < 4; decide, ?_⟩
    have hm0 := Int.emod_nonneg r (show (4 : Int) ≠ 0 by decide)
    have hm1 := Int.emod_lt_of_pos r (show (0 : Int) < 4 by decide)
    have fin : ∀ v : Wr, WrOk v → v.name = w.name → dDrop (dInsert (dVar 2) (dCall sp_law_pull (dCons (dVar 0) (dCons (dBin rAddD (dUn rLenD (dVar 2)) (dC (.int 1))) dNil))) (dVar 5))
        { nx := K, rt := Q, ct := K, bk := fun e m => t_law_other_crew_3 { nx := fun x M' => Q .non M', rt := Q } e m }
        [some (.ref p), some (.lst (ws.map wrD)), some (.ref qa), some (wrD w), some (.int r), some (wrD v), none] (mupd (mupd M p (.lst b2.l)) qa (.lst (vs.map wrD))) := fun v hv hn => by
      walk_at "w"
      refine ⟨?_, ?_⟩
      · walk_at "w"
        rw [mupd_same]
        trivial
      walk_at "w"
      rw [resD_new]
      walk_at "w"
      refine ⟨p, b2, ((vs.map wrD).length : Int) + 1, rfl, by rw [mupd_ne (Ne.symm hpq), mupd_same], hb2, by omega, by rw [List.length_map]; omega, fun j b3 hb3 j0 j1 => ?_⟩
      rw [mupd_comm hpq, mupd_mupd]
      walk_at "w"
      rw [mupd_same]
      refine ⟨⟨by rw [List.length_map, sizeLine_eq]; omega, j0, by rw [List.length_map] at j1; omega⟩, ?_⟩
      rw [mupd_mupd, ins_map]
      have hno : v.name ∉ vs.map (·.name) := fun h => by
        have h := mo.sub _ h
        rw [hn] at h
        obtain ⟨u, hu, e⟩ := List.mem_map.mp h
        obtain ⟨k, hk⟩ := List.getElem?_of_mem hu
        have hki : k < i := by have := (List.getElem?_eq_some_iff.mp hk).1; rw [List.length_take] at this; omega
        rw [List.getElem?_take, if_pos hki] at hk
        have := List.nodup_iff_pairwise_ne.mp hok.nd
        rw [List.pairwise_iff_getElem] at this
        obtain ⟨hk1, hk2⟩ := List.getElem?_eq_some_iff.mp hk
        obtain ⟨hw1, hw2⟩ := List.getElem?_eq_some_iff.mp hw
        refine this k i (by rw [List.length_map]; omega) (by rw [List.length_map]; omega) hki ?_
        rw [List.getElem_map, List.getElem_map, hk2, hw2]
        exact e
      obtain ⟨g1, g2⟩ := crew_ins j.toNat mo.ok mo.nd hv hno
      refine hK _ _ ⟨b3, _, _, _, _, rfl, hb3, rfl, ⟨g1, g2, fun x hx => ?_, ?_⟩⟩
      · obtain ⟨u, hu, rfl⟩ := List.mem_map.mp hx
        rw [List.take_add_one, hw, List.map_append]
        rcases ins_mem.mp hu with rfl | hu
        · rw [hn]
          exact List.mem_append_right _ (by simp)
        · exact List.mem_append_left _ (mo.sub _ (List.mem_map.mpr ⟨u, hu, rfl⟩))
      · rw [(ins_perm' vs _ _).length_eq, List.length_cons]; omega
    have hp0 := hwk.pat0
    have hp1 := hwk.pat1
    have hc0 := hwk.cap0
    have hc1 := hwk.cap1
    have hk1 : WrOk (modPat w) := ⟨hwk.name, hwk.few, hwk.ar, hwk.up, by show 0 ≤ 3 - w.pat; omega, by show 3 - w.pat ≤ 3; omega, hc0, hc1⟩
    have hk2 : WrOk (modCap w) := ⟨hwk.name, hwk.few, hwk.ar, hwk.up, hp0, hp1, by show 0 ≤ (w.cap + 1) % 4; omega, by show (w.cap + 1) % 4 ≤ 3; omega⟩
    walk_at "w"
    rcases (show r % 4 = 0 ∨ r % 4 = 1 ∨ r % 4 = 2 ∨ r % 4 = 3 by omega) with h | h | h | h
    · rw [h]
      exact fin w hwk rfl
    · rw [h]
      exact fin w hwk rfl
    · rw [h]
      exact fin (modPat w) hk1 rfl
    · rw [h]
      exact fin (modCap w) hk2 rfl
  · subst e1 eM
    rw [List.length_map] at mo
    have hsub : ∀ x ∈ vs.map (·.name), x ∈ ws.map (·.name) := fun x hx => by
      have := mo.sub x hx
      rwa [List.take_length] at this
    have hvl := mo.len
    walk_at "w"
    refine ⟨p, b1, 2, rfl, by rw [mupd_ne (Ne.symm hpq), mupd_same], hb1, by decide, by decide, fun r b2 hb2 r0 r1 => ?_⟩
    rw [mupd_comm hpq, mupd_mupd]
    walk_at "w"
    refine ⟨⟨rfl, rfl⟩, ?_⟩
    walk_at "w"
    refine brn_by (fun hc => ?_) fun hc => ?_
    · walk_at "w"
      rw [mupd_same]
      walk_at "w"
      intro q2 hq2
      rw [mdel_mupd (by rw [mupd_ne hpq]; exact hqa)] at hq2 ⊢
      have hpq2 : q2 ≠ p := fun e => by rw [e, mupd_same] at hq2; cases hq2
      rw [mupd_ne hpq2] at hq2
      have ec : cut (vs.map wrD) (some 1) none = (vs.drop 1).map wrD := by
        rw [show (1 : Int) = ((1 : Nat) : Int) from rfl, cut_from, List.map_drop]
      rw [ec]
      have hs : (vs.drop 1).Sublist vs := List.drop_sublist _ _
      exact r_law_other_crew_2 p b2 hb2 ws (vs.drop 1) hfew (fun v hv => mo.ok v (List.mem_of_mem_drop hv)) (mo.nd.sublist (hs.map _)) (by rw [List.length_drop]; omega) (fun x hx => hsub x ((hs.map _).subset hx)) M q2 hq2 hpq2 Q _ _ _ _ _ q
    · exact r_law_other_crew_2 p b2 hb2 ws vs hfew mo.ok mo.nd (by omega) hsub M qa hqa hpq Q _ _ _ _ _ q
/-! ### the law -/
end L3
set_option Elab.async false
set_option linter.all false
set_option maxRecDepth 100000
set_option maxHeartbeats 1000000
/-! L3: stands carried on through the crews of a sign. -/
namespace L3
open PySem PySem.Spec PyProof.Rows L2
local macro_rules | `(tactic| walk_at "w") => `(tactic| conv => whnf)
theorem map_inj {α β : Type} {f : α → β} (hf : ∀ a b, f a = f b → a = b) : ∀ {xs ys : List α}, xs.map f = ys.map f → xs = ys
  | [], [], _ => rfl
  | [], _ :: _, h => by simp at h
  | _ :: _, [], h => by simp at h
  | x :: xs, y :: ys, h => by
    simp only [List.map_cons, List.cons.injEq] at h
    rw [hf _ _ h.1, map_inj hf h.2]
theorem ar_inj {a b : Ar} (h : arD a = arD b) : a = b := by
  cases a; cases b
  simp only [arD, D.tup.injEq, List.cons.injEq, D.int.injEq, D.str.injEq] at h
  obtain ⟨rfl, rfl, rfl, _⟩ := h
  rfl
theorem wr_inj {v w : Wr} (h : wrD v = wrD w) : v = w := by
  cases v; cases w
  simp only [wrD, D.tup.injEq, List.cons.injEq, D.int.injEq, D.str.injEq] at h
  obtain ⟨rfl, h2, rfl, rfl, _⟩ := h
  rw [map_inj (fun a b => ar_inj) h2]
theorem spot_get {one : List Wr} {w : Wr} {j : Nat} (h : spotOf (one.map wrD) (wrD w) = (j : Int)) : one[j]? = some w := by
  unfold spotOf at h
  cases e : (one.map wrD).findIdx? (fun z => eqD z (wrD w)) with
  | none => rw [e] at h; simp only at h; omega
  | some k =>
    rw [e] at h
    simp only at h
    have hk : k = j := by omega
    subst hk
    obtain ⟨hl, hp, _⟩ := List.findIdx?_eq_some_iff_getElem.mp e
    rw [List.length_map] at hl
    rw [List.getElem_map] at hp
    rw [List.getElem?_eq_getElem hl, wr_inj (nk_eqv (wr_nk _) (wr_nk _) hp)]
theorem keep_in {xs : List Int} {k lo hi : Int} (h : ins xs lo hi) (h0 : lo ≤ 0 ∧ 0 ≤ hi) : lo ≤ keepAt xs k ∧ keepAt xs k ≤ hi := by
  unfold keepAt
  split
  · cases e : xs[k.toNat]? with
    | none => exact h0
    | some x => exact h x (List.mem_of_getElem? e)
  · exact h0
theorem keep_nat (xs : List Int) (j : Nat) : keepAt xs (j : Int) = (xs[j]?).getD 0 := by
  unfold keepAt
  rw [if_pos (by omega), Int.toNat_natCast]
theorem good_carry {one other : List Wr} {s : St} (g : Good one s) : Good other (carry one other s) where
  ok := by
    refine ⟨(carry_len one other s).1, (carry_len one other s).2, fun k x hx hc => ?_⟩
    have hx' : ((spotsOf one other).map (keepAt s.wt))[k]? = some x := hx
    rw [List.getElem?_map] at hx'
    obtain ⟨sp, hsp, rfl⟩ := Option.map_eq_some_iff.mp hx'
    have hsp' := hsp
    unfold spotsOf at hsp'
    rw [List.getElem?_map] at hsp'
    obtain ⟨w, hw, es⟩ := Option.map_eq_some_iff.mp hsp'
    by_cases h0 : 0 ≤ sp
    · obtain ⟨j, rfl⟩ := Int.eq_ofNat_of_zero_le h0
      have hj := spot_get es
      have lj : j < one.length := (List.getElem?_eq_some_iff.mp hj).1
      have pj : s.pl[j]? = some (s.pl[j]'(by rw [g.ok.pl]; exact lj)) := List.getElem?_eq_getElem _
      have wj : s.wt[j]? = some (s.wt[j]'(by rw [g.ok.wt]; exact lj)) := List.getElem?_eq_getElem _
      have hp : (carry one other s).pl[k]? = some (keepAt s.pl (j : Int)) := by
        show ((spotsOf one other).map (keepAt s.pl))[k]? = _
        rw [List.getElem?_map, hsp]; rfl
      rw [keep_nat, pj] at hp
      unfold cntAt at hc
      rw [hw, hp] at hc
      simp only [Option.getD_some] at hc
      rw [keep_nat, wj]
      refine g.ok.no j _ wj ?_
      unfold cntAt
      rw [hj, pj]
      exact hc
    · unfold keepAt; rw [if_neg h0]
  pl := fun x hx => by
    obtain ⟨k, _, rfl⟩ := List.mem_map.mp (show x ∈ (spotsOf one other).map (keepAt s.pl) from hx)
    exact keep_in g.pl (by omega)
  wt := fun x hx => by
    obtain ⟨k, _, rfl⟩ := List.mem_map.mp (show x ∈ (spotsOf one other).map (keepAt s.wt) from hx)
    exact keep_in g.wt (by omega)
  run := fun i w hw hl => by
    unfold carry at hl ⊢
    simp only at hl ⊢
    by_cases h : 0 ≤ s.la
    · rw [if_pos h] at hl ⊢
      cases e : ((spotsOf one other).map D.int).findIdx? (fun z => eqD z (.int s.la)) with
      | none => rw [e] at hl; simp only at hl; omega
      | some j =>
        rw [e] at hl
        simp only at hl ⊢
        have hj : j = i := by omega
        subst hj
        obtain ⟨hlt, hp, _⟩ := List.findIdx?_eq_some_iff_getElem.mp e
        rw [List.getElem_map] at hp
        have e2 := nk_eqv (n := 8) rfl rfl hp
        have e3 : (spotsOf one other)[j]? = some s.la := by rw [List.getElem?_eq_getElem (by simpa using hlt)]; exact congrArg some (D.int.inj e2)
        unfold spotsOf at e3
        rw [List.getElem?_map, hw] at e3
        have e4 : spotOf (one.map wrD) (wrD w) = s.la := Option.some.inj e3
        obtain ⟨n, hn⟩ := Int.eq_ofNat_of_zero_le h
        rw [hn] at e4
        exact g.run n w (spot_get e4) hn
    · rw [if_neg h] at hl
      simp only at hl
      omega
  la := carry_run one other s
/-! ### through all the crews of a sign -/
def turn : List (List Wr) → St → St
  | a :: b :: cs, s => turn (b :: cs) (carry a b s)
  | _, s => s
def lastOf (cs : List (List Wr)) : List Wr := (cs.getLast?).getD []
theorem good_turn : ∀ {cs : List (List Wr)} {a : List Wr} {s : St}, Good a s → Good (lastOf (a :: cs)) (turn (a :: cs) s)
  | [], _, _, g => g
  | b :: cs, a, s, g => by
    have := good_turn (cs := cs) (a := b) (good_carry (other := b) g)
    have e : lastOf (a :: b :: cs) = lastOf (b :: cs) := by unfold lastOf; rw [List.getLast?_cons_cons]
    rw [e]; exact this
theorem turn_drop {cs : List (List Wr)} {i : Nat} {a b : List Wr} (h1 : cs[i]? = some a) (h2 : cs[i + 1]? = some b) (s : St) : turn (cs.drop i) s = turn (cs.drop (i + 1)) (carry a b s) := by
  have l1 := (List.getElem?_eq_some_iff.mp h1)
  have l2 := (List.getElem?_eq_some_iff.mp h2)
  obtain ⟨p1, q1⟩ := l1
  obtain ⟨p2, q2⟩ := l2
  rw [List.drop_eq_getElem_cons p1, List.drop_eq_getElem_cons p2, q1, q2]
  rfl
theorem cut_last' {α : Type} (xs : List α) : cut xs none (some (-1)) = xs.dropLast := by
  unfold cut
  rw [List.dropLast_eq_take]
  show (xs.drop 0).take (((-1 : Int) + (xs.length : Int)).toNat - 0) = _
  rw [List.drop_zero]
  congr 1
  omega
theorem cut_tail' {α : Type} (xs : List α) : cut xs (some 1) none = xs.drop 1 := cut_from xs 1
def prs (f : List Wr → D) (cs : List (List Wr)) : List D := List.zipWith (fun x y => .tup [x, y]) (cut (cs.map f) none (some (-1))) (cut (cs.map f) (some 1) none)
theorem prs_at {f : List Wr → D} {cs : List (List Wr)} {i : Nat} {x : D} (h : (prs f cs)[i]? = some x) : ∃ a b, cs[i]? = some a ∧ cs[i + 1]? = some b ∧ x = .tup [f a, f b] := by
  obtain ⟨y, z, hy, hz, rfl⟩ := zip_at h
  rw [cut_last', List.dropLast_eq_take, List.getElem?_take] at hy
  rw [cut_tail', List.getElem?_drop, Nat.add_comm, List.getElem?_map] at hz
  obtain ⟨b, hb, rfl⟩ := Option.map_eq_some_iff.mp hz
  split at hy
  · rw [List.getElem?_map] at hy
    obtain ⟨a, ha, rfl⟩ := Option.map_eq_some_iff.mp hy
    exact ⟨a, b, ha, hb, rfl⟩
  · cases hy
theorem prs_len {f : List Wr → D} {cs : List (List Wr)} : (prs f cs).length = cs.length - 1 := by
  unfold prs
  rw [cut_last', cut_tail', List.length_zipWith, List.length_dropLast, List.length_drop, List.length_map, Nat.min_self]
theorem turn_end {cs : List (List Wr)} (s : St) : turn (cs.drop (cs.length - 1)) s = s := by
  rcases List.eq_nil_or_concat cs with rfl | ⟨l, x, rfl⟩
  · rfl
  · rw [List.concat_eq_append, List.length_append, List.length_singleton, Nat.add_sub_cancel, List.drop_left]; rfl
theorem for_turn {f : List Wr → D} {cs : List (List Wr)} {s : St} {tb : DS} {E : DEnds} {M : Mp} (env : D → Option D → Option D → DEnv) {e1 e2 : Option D} {t : Tg} (hc : ∀ c, cs.head? = some c → Good c s)
    (hs : ∀ (a b : List Wr) (s : St) (e1 e2 : Option D) (K : DEnv → Mp → Prop), Good a s → (∀ e1 e2, K (env (stD (carry a b s)) e1 e2) M) → t.bind (.tup [f a, f b]) (env (stD s) e1 e2) fun env1 => tb { E with nx := K, ct := K, bk := E.nx } env1 M)
    (hd : ∀ e1 e2, E.nx (env (stD (turn cs s)) e1 e2) M) : dForL t tb (prs f cs) E (env (stD s) e1 e2) M := by
  refine for_inv (fun i en M' => M' = M ∧ ∃ z e1 e2, en = env (stD z) e1 e2 ∧ turn (cs.drop i) z = turn cs s ∧ ∀ c, cs[i]? = some c → Good c z) ⟨rfl, s, e1, e2, rfl, rfl, fun c h => hc c (by rw [List.head?_eq_getElem?]; exact h)⟩ (fun i x en M' K hx ⟨eM, z, e1, e2, ee, ht, hg⟩ hK => ?_) fun en M' ⟨eM, z, e1, e2, ee, ht, hg⟩ => ?_
  · subst eM ee
    obtain ⟨a, b, ha, hb, rfl⟩ := prs_at hx
    refine hs a b z e1 e2 K (hg a ha) fun e1 e2 => hK _ _ ⟨rfl, carry a b z, e1, e2, rfl, ?_, fun c h => ?_⟩
    · rw [← turn_drop ha hb]; exact ht
    · rw [hb] at h; cases h; exact good_carry (hg a ha)
  · subst eM ee
    rw [prs_len, turn_end] at ht
    rw [ht]; exact hd e1 e2
def sp_law_turned : SpD := fun ds M Q _ => ∃ cs s, ds = [.lst (cs.map fun ws => .lst (ws.map wrD)), stD s] ∧ (∀ c, cs.head? = some c → Good c s) ∧ Q (stD (turn cs s)) M
def t_law_turned_1 : DS := (dRet (dVar 1))
def t_law_turned : DS := (dSeq (dFor (iZipD (dCons (dSl (dVar 0) dNoPart (dPart (dUn rNegI (dC (.int 1))))) (dCons (dSl (dVar 0) (dPart (dC (.int 1))) dNoPart) dNil))) (.tup [(.name 2), (.name 3)]) (dSet 1 (dCall sp_law_carried (dCons (dVar 2) (dCons (dVar 3) (dCons (dVar 1) dNil))))))
    t_law_turned_1)
theorem r_law_turned (ds : List D) (M : Mp) (Q : DK) (E : DX) (hl : ds.length = 2) (h : sp_law_turned ds M Q E) : t_law_turned { nx := fun _ M' => Q .non M', rt := Q } (startD ["_law_crews", "_law_stand", "_law_one", "_law_other"] ds) M := by
  obtain ⟨cs, s, rfl, hg, q⟩ := h
  walk_at "w"
  refine for_turn (f := fun ws => .lst (ws.map wrD)) (fun d e1 e2 => [some (.lst (cs.map fun ws => .lst (ws.map wrD))), some d, e1, e2]) hg (fun a b s e1 e2 K ga hK => ?_) fun e1 e2 => ?_
  · walk_at "w"
    exact ⟨a, b, s, rfl, ga.ok.pl, ga.ok.wt, hK _ _⟩
  · walk_at "w"
    exact q
end L3
set_option Elab.async false
set_option linter.all false
set_option maxRecDepth 100000
set_option maxHeartbeats 1000000
/-! L3: scrolls; first, company, broken. -/
namespace L3
open PySem PySem.Spec PyProof.Rows L2
local macro_rules | `(tactic| walk_at "w") => `(tactic| conv => whnf)
abbrev CScroll : Cl := ⟨"Scroll", ["row", "crews", "words"]⟩
/-- a confession: the sign, the name, whether so -/
structure Tk where
  at_ : Int
  name : Str
  so : Bool
def tkD (t : Tk) : D := .tup [.int t.at_, .str t.name, .bl t.so]
structure Sc where
  row : List Str
  crews : List (List (List Wr))
  talk : List Tk
def scD (s : Sc) : D := .obj CScroll [.lst (s.row.map D.str), .lst (s.crews.map fun cs => .lst (cs.map coD)), .lst (s.talk.map tkD)]
/-- the law's parts of the same scroll -/
def ptD (s : Sc) : D := .tup [.lst (s.row.map D.str), .lst (s.crews.map fun cs => .lst (cs.map fun ws => .lst (ws.map wrD))), .lst (s.talk.map tkD)]
structure ScOk (s : Sc) : Prop where
  len : s.crews.length = s.row.length + 1
  ne : ∀ cs ∈ s.crews, cs ≠ []
  crew : ∀ cs ∈ s.crews, ∀ ws ∈ cs, CrewOk ws
  /-- the last crew of a sign is the first of the next -/
  on : ∀ i a b, s.crews[i]? = some a → s.crews[i + 1]? = some b → b.head? = some (lastOf a)
  few : s.row.length ≤ 30
  thin : ∀ cs ∈ s.crews, cs.length ≤ 40
  sg : ∀ x ∈ s.row, ∃ c, x = ⟨#[c]⟩ ∧ isLetter c = true
  tk : ∀ t ∈ s.talk, 0 ≤ t.at_ ∧ t.at_ < s.row.length ∧ isName t.name = true
  said : s.talk.length ≤ 60
def sp_Scroll_turned : SpD := fun ds M Q _ => ∃ sc, ∃ i : Nat, ∃ cs s, ds = [scD sc, .int i, stD s] ∧ sc.crews[i]? = some cs ∧ (∀ c, cs.head? = some c → Good c s) ∧ Q (stD (turn cs s)) M
def t_Scroll_turned_1 : DS := (dRet (dVar 2))
def t_Scroll_turned : DS := (dSeq (dSet 3 (dBin rIxD (dFld CScroll 1 (dVar 0)) (dVar 1)))
    (dSeq (dFor (iZipD (dCons (dSl (dVar 3) dNoPart (dPart (dUn rNegI (dC (.int 1))))) (dCons (dSl (dVar 3) (dPart (dC (.int 1))) dNoPart) dNil))) (.tup [(.name 4), (.name 5)]) (dSet 2 (dCall sp_carried (dCons (dVar 4) (dCons (dVar 5) (dCons (dVar 2) dNil))))))
    t_Scroll_turned_1))
theorem r_Scroll_turned (ds : List D) (M : Mp) (Q : DK) (E : DX) (hl : ds.length = 3) (h : sp_Scroll_turned ds M Q E) : t_Scroll_turned { nx := fun _ M' => Q .non M', rt := Q } (startD ["self", "at", "stand", "crews", "one", "other"] ds) M := by
  obtain ⟨sc, i, cs, s, rfl, hi, hg, q⟩ := h
  walk_at "w"
  refine ⟨rfl, ?_⟩
  walk_at "w"
  rw [atI_map (f := fun cs => D.lst (cs.map coD)) hi]
  walk_at "w"
  refine for_turn (f := coD) (fun d e1 e2 => [some (scD sc), some (.int i), some d, some (.lst (cs.map coD)), e1, e2]) hg (fun a b s e1 e2 K ga hK => ?_) fun e1 e2 => ?_
  · walk_at "w"
    exact ⟨a, b, s, rfl, ga.ok.pl, ga.ok.wt, hK _ _⟩
  · walk_at "w"
    exact q
theorem atI_last {α β : Type} {f : α → β} {xs : List α} {x : α} (h : xs.getLast? = some x) : atI (xs.map f) (-1) = some (f x) := by
  rw [List.getLast?_eq_getElem?] at h
  have hl := (List.getElem?_eq_some_iff.mp h).1
  unfold atI ixN
  rw [if_neg (by decide), if_pos (by rw [List.length_map]; omega)]
  show (xs.map f)[((-1 : Int) + ((xs.map f).length : Int)).toNat]? = _
  rw [List.length_map, show ((-1 : Int) + (xs.length : Int)).toNat = xs.length - 1 by omega, List.getElem?_map, h]
  rfl
theorem last_of {cs : List (List Wr)} (h : cs ≠ []) : cs.getLast? = some (lastOf cs) := by
  unfold lastOf
  cases e : cs.getLast? with
  | none => rw [List.getLast?_eq_none_iff] at e; exact absurd e h
  | some c => rfl
def firstOf (sc : Sc) : St := match sc.crews with
  | (a :: cs) :: _ => turn (a :: cs) (st0 a.length)
  | _ => st0 0
theorem first_at {sc : Sc} (ok : ScOk sc) : ∃ a cs, sc.crews[0]? = some (a :: cs) ∧ CrewOk a ∧ firstOf sc = turn (a :: cs) (st0 a.length) := by
  cases e : sc.crews with
  | nil => have := ok.len; rw [e] at this; simp at this
  | cons x xs =>
    have hx : x ∈ sc.crews := by rw [e]; exact List.mem_cons_self
    cases ex : x with
    | nil => exact absurd ex (ok.ne x hx)
    | cons a cs =>
      subst ex
      refine ⟨a, cs, rfl, ok.crew _ hx a List.mem_cons_self, ?_⟩
      unfold firstOf; rw [e]
def sp_Scroll_first : SpD := fun ds M Q _ => ∃ sc, ds = [scD sc] ∧ ScOk sc ∧ Q (stD (firstOf sc)) M
def t_Scroll_first : DS := (dRet (dMeth CScroll sp_Scroll_turned (dVar 0) (dCons (dC (.int 0)) (dCons (dMeth CCompany sp_Company_begin (dBin rIxD (dBin rIxD (dFld CScroll 1 (dVar 0)) (dC (.int 0))) (dC (.int 0))) dNil) dNil))))
theorem r_Scroll_first (ds : List D) (M : Mp) (Q : DK) (E : DX) (hl : ds.length = 1) (h : sp_Scroll_first ds M Q E) : t_Scroll_first { nx := fun _ M' => Q .non M', rt := Q } (startD ["self"] ds) M := by
  obtain ⟨sc, rfl, ok, q⟩ := h
  obtain ⟨a, cs, h0, ha, ef⟩ := first_at ok
  walk_at "w"
  refine ⟨rfl, ?_⟩
  walk_at "w"
  refine ⟨rfl, ?_⟩
  walk_at "w"
  rw [show atI (sc.crews.map fun cs => D.lst (cs.map coD)) 0 = some (.lst ((a :: cs).map coD)) from atI_map (f := fun cs => D.lst (cs.map coD)) (i := 0) h0]
  walk_at "w"
  rw [List.map_cons, atI_0]
  walk_at "w"
  refine ⟨rfl, a, rfl, ha.few, ?_⟩
  walk_at "w"
  refine ⟨sc, 0, a :: cs, st0 a.length, rfl, h0, fun c hc => by cases hc; exact good0 a, ?_⟩
  walk_at "w"
  rw [← ef]; exact q
def sp_Scroll_company : SpD := fun ds M Q _ => ∃ sc, ∃ i : Nat, ∃ cs, ds = [scD sc, .int i] ∧ ScOk sc ∧ sc.crews[i]? = some cs ∧ Q (coD (lastOf cs)) M
def t_Scroll_company_1 : DS := (dRet (dBin rIxD (dBin rIxD (dFld CScroll 1 (dVar 0)) (dVar 1)) (dUn rNegI (dC (.int 1)))))
def t_Scroll_company : DS := (dSeq (dIfS (dNot (dTest (dChain rLeI rLeI (dC (.int 0)) (dVar 1) (dUn rLenD (dFld CScroll 0 (dVar 0)))))) dNever dNext)
    t_Scroll_company_1)
theorem r_Scroll_company (ds : List D) (M : Mp) (Q : DK) (E : DX) (hl : ds.length = 2) (h : sp_Scroll_company ds M Q E) : t_Scroll_company { nx := fun _ M' => Q .non M', rt := Q } (startD ["self", "at"] ds) M := by
  obtain ⟨sc, i, cs, rfl, ok, hi, q⟩ := h
  have li := (List.getElem?_eq_some_iff.mp hi).1
  have hll := ok.len
  have hne := ok.ne cs (List.mem_of_getElem? hi)
  walk_at "w"
  refine ⟨rfl, ?_⟩
  walk_at "w"
  refine brn_by (fun hc => ?_) fun hc => ?_
  · exfalso
    have hc' : (!decide ((i : Int) ≤ ((sc.row.map D.str).length : Nat))) = true := hc
    rw [List.length_map] at hc'
    simp at hc'
    omega
  · walk_at "w"
    refine ⟨rfl, ?_⟩
    walk_at "w"
    rw [atI_map (f := fun cs => D.lst (cs.map coD)) hi]
    walk_at "w"
    rw [atI_last (last_of hne)]
    exact q
end L3
set_option Elab.async false
set_option linter.all false
set_option maxRecDepth 100000
set_option maxHeartbeats 1000000
/-! L3: confessions broken. -/
namespace L3
open PySem PySem.Spec PyProof.Rows L2
local macro_rules | `(tactic| walk_at "w") => `(tactic| conv => whnf)
def brkB (i : Int) (nm : Str) (t : Tk) : Bool := decide (t.at_ = i) && (decide (t.name = nm) != t.so)
def brkP (i : Int) (nm : Str) (x : D) : Bool := match x with
  | .tup [.int a, .str n, .bl b] => brkB i nm ⟨a, n, b⟩
  | _ => false
def soD (x : D) : D := match x with
  | .tup [_, _, b] => b
  | _ => .non
def broke (tk : List Tk) (i : Int) (nm : Str) : Nat := (tk.filter (brkB i nm)).length
theorem brk_len (tk : List Tk) (i : Int) (nm : Str) : (((tk.map tkD).filter (brkP i nm)).map soD).length = broke tk i nm := by
  rw [List.length_map, List.filter_map, List.length_map]; rfl
def sp_law_broken : SpD := fun ds M Q _ => ∃ tk i nm, ds = [.lst (tk.map tkD), .int i, .str nm] ∧ Q (.int (broke tk i nm)) M
def t_law_broken : DS := (dRet (dUn rLenD (dLc (iLst (dVar 0)) (.tup [(.name 3), (.name 4), (.name 5)]) (dAnd (dTest (dBin (rEqDD id) (dVar 3) (dVar 1))) (dTest (dBin (rEqDD not) (dBin (rEqDD id) (dVar 4) (dVar 2)) (dVar 5)))) (dVar 5) [3, 4, 5])))
theorem brk_step {t : Tk} {i : Int} {nm : Str} {d0 : D} {M : Mp} {K1 : DK} {K2 : Mp → Prop} {v1 v2 v3 : Option D} (h1 : brkP i nm (tkD t) = true → K1 (soD (tkD t)) M) (h2 : brkP i nm (tkD t) = false → K2 M) :
    Tg.bind (.tup [(.name 3), (.name 4), (.name 5)]) (tkD t) [some d0, some (.int i), some (.str nm), v1, v2, v3] fun env1 => dAnd (dTest (dBin (rEqDD id) (dVar 3) (dVar 1))) (dTest (dBin (rEqDD not) (dBin (rEqDD id) (dVar 4) (dVar 2)) (dVar 5))) env1 M fun b M1 => brn b (dVar 5 env1 M1 K1) (K2 M1) := by
  walk_at "w"
  refine ⟨⟨rfl, rfl⟩, ?_⟩
  walk_at "w"
  by_cases ha : t.at_ = i
  · have e1 : eqD (resD M (D.int t.at_)) (resD M (D.int i)) = true := by
      show eqD (.int t.at_) (.int i) = true
      rw [eqD_int]; exact decide_eq_true ha
    rw [e1]
    walk_at "w"
    refine ⟨⟨rfl, rfl⟩, ?_⟩
    walk_at "w"
    refine ⟨⟨rfl, rfl⟩, ?_⟩
    walk_at "w"
    have e2 : brkP i nm (tkD t) = (decide (t.name = nm) != t.so) := by
      show (decide (t.at_ = i) && _) = _
      rw [decide_eq_true ha]; rfl
    refine brn_by (fun hc => ?_) fun hc => ?_
    · refine h1 ?_
      rw [e2, ← beq_str]
      exact hc
    · refine h2 ?_
      rw [e2, ← beq_str]
      exact hc
  · have e1 : eqD (resD M (D.int t.at_)) (resD M (D.int i)) = false := by
      show eqD (.int t.at_) (.int i) = false
      rw [eqD_int]; exact decide_eq_false ha
    rw [e1]
    exact h2 (by show (decide (t.at_ = i) && _) = false; rw [decide_eq_false ha]; rfl)
theorem r_law_broken (ds : List D) (M : Mp) (Q : DK) (E : DX) (hl : ds.length = 3) (h : sp_law_broken ds M Q E) : t_law_broken { nx := fun _ M' => Q .non M', rt := Q } (startD ["_law_talk", "_law_at", "_law_name", "_law_sign", "_law_other", "_law_yes"] ds) M := by
  obtain ⟨tk, i, nm, rfl, q⟩ := h
  walk_at "w"
  refine lc_filter (brkP i nm) soD (fun x hx K1 K2 y1 y2 => ?_) ?_
  · obtain ⟨t, _, rfl⟩ := List.mem_map.mp hx
    exact brk_step y1 y2
  · show Q (.int ((((tk.map tkD).filter (brkP i nm)).map soD).length : Nat)) M
    rw [brk_len]; exact q
def sp_Scroll_broken : SpD := fun ds M Q _ => ∃ sc i nm, ds = [scD sc, .int i, .str nm] ∧ Q (.int (broke sc.talk i nm)) M
def t_Scroll_broken : DS := (dRet (dUn rLenD (dLc (iLst (dFld CScroll 2 (dVar 0))) (.tup [(.name 3), (.name 4), (.name 5)]) (dAnd (dTest (dBin (rEqDD id) (dVar 3) (dVar 1))) (dTest (dBin (rEqDD not) (dBin (rEqDD id) (dVar 4) (dVar 2)) (dVar 5)))) (dVar 5) [3, 4, 5])))
theorem r_Scroll_broken (ds : List D) (M : Mp) (Q : DK) (E : DX) (hl : ds.length = 3) (h : sp_Scroll_broken ds M Q E) : t_Scroll_broken { nx := fun _ M' => Q .non M', rt := Q } (startD ["self", "at", "name", "sign", "other", "so"] ds) M := by
  obtain ⟨sc, i, nm, rfl, q⟩ := h
  walk_at "w"
  refine ⟨rfl, ?_⟩
  walk_at "w"
  refine lc_filter (brkP i nm) soD (fun x hx K1 K2 y1 y2 => ?_) ?_
  · obtain ⟨t, _, rfl⟩ := List.mem_map.mp hx
    exact brk_step y1 y2
  · show Q (.int ((((sc.talk.map tkD).filter (brkP i nm)).map soD).length : Nat)) M
    rw [brk_len]; exact q
/-! ### what may come next -/
/-- the names and the stands behind a sign's steps, through the crews behind it; bound: what confessions let -/
def wayOf (sc : Sc) (i : Nat) (bound : Bool) (cs : List (List Wr)) (sg : Str) (x : D) : Option (Str × St) := match x with
  | .tup [.str c, .str nm, z] => if c = sg ∧ (bound = false ∨ broke sc.talk i nm = 0) then some (nm, turn cs (deSt z)) else none
  | _ => none
def onw (sc : Sc) (i : Nat) (bound : Bool) (s : St) : List (Str × St) := match sc.crews[i]?, sc.crews[i + 1]?, sc.row[i]? with
  | some a, some b, some sg => (stepsD (lastOf a) s).filterMap (wayOf sc i bound b sg)
  | _, _, _ => []
def nsD (p : Str × St) : D := .tup [.str p.1, stD p.2]
def sp_law_onward : SpD := fun ds M Q _ => ∃ sc, ∃ i : Nat, ∃ a s bound, ds = [ptD sc, .int i, stD s, .bl bound] ∧ ScOk sc ∧ i < sc.row.length ∧ sc.crews[i]? = some a ∧ Good (lastOf a) s ∧ Q (.lst ((onw sc i bound s).map nsD)) M
def t_law_onward_1 : DS := (dFrzN 4 (dRet (dVar 4)))
def t_law_onward : DS := (dSeq (dAsg (dVar 0) (.tup [(.name 5), (.name 6), (.name 7)]))
    (dSeq (dSet 4 (dLstM dNil))
    (dSeq (dFor (iLst (dCall sp_law_steps (dCons (dBin rIxD (dBin rIxD (dVar 6) (dVar 1)) (dUn rNegI (dC (.int 1)))) (dCons (dVar 2) dNil)))) (.tup [(.name 8), (.name 9), (.name 10)]) (dIfS (dAnd (dTest (dBin (rEqDD id) (dVar 8) (dBin rIxD (dVar 5) (dVar 1)))) (dOr (dNot (dTru (dVar 3))) (dTest (dBin (rEqDD id) (dCall sp_law_broken (dCons (dVar 7) (dCons (dVar 1) (dCons (dVar 9) dNil)))) (dC (.int 0)))))) (dDrop (dAppend (dVar 4) (dTup (dCons (dVar 9) (dCons (dCall sp_law_turned (dCons (dBin rIxD (dVar 6) (dBin rAddD (dVar 1) (dC (.int 1)))) (dCons (dVar 10) dNil))) dNil))))) dNext))
    t_law_onward_1)))
theorem way_take {sc : Sc} {i : Nat} {bound : Bool} {cs : List (List Wr)} {sg : Str} {xs : List D} {j : Nat} {x : D} (h : xs[j]? = some x) : (xs.take (j + 1)).filterMap (wayOf sc i bound cs sg) = (xs.take j).filterMap (wayOf sc i bound cs sg) ++ (wayOf sc i bound cs sg x).toList := by
  rw [List.take_add_one, h, Option.toList_some, List.filterMap_append]
  cases e : wayOf sc i bound cs sg x <;> simp [e]
theorem sc_at {sc : Sc} (ok : ScOk sc) {i : Nat} (hi : i < sc.row.length) : ∃ a b sg, sc.crews[i]? = some a ∧ sc.crews[i + 1]? = some b ∧ sc.row[i]? = some sg ∧ a ≠ [] ∧ CrewOk (lastOf a) ∧ b.head? = some (lastOf a) := by
  have hl := ok.len
  have e1 := List.getElem?_eq_getElem (l := sc.crews) (i := i) (by omega)
  have e2 := List.getElem?_eq_getElem (l := sc.crews) (i := i + 1) (by omega)
  have hne := ok.ne _ (List.mem_of_getElem? e1)
  exact ⟨_, _, _, e1, e2, List.getElem?_eq_getElem hi, hne, ok.crew _ (List.mem_of_getElem? e1) _ (List.mem_of_getLast? (last_of hne)), ok.on i _ _ e1 e2⟩
theorem r_law_onward (ds : List D) (M : Mp) (Q : DK) (E : DX) (hl : ds.length = 4) (h : sp_law_onward ds M Q E) : t_law_onward { nx := fun _ M' => Q .non M', rt := Q } (startD ["_law_s", "_law_at", "_law_stand", "_law_bound", "_law_found", "_law_signs_here", "_law_crews", "_law_talk", "_law_sign", "_law_name", "_law_later"] ds) M := by
  obtain ⟨sc, i, a, s, bound, rfl, ok, hi, ha, g, q⟩ := h
  obtain ⟨a', b, sg, ea, eb, es, hne, hca, hb⟩ := sc_at ok hi
  rw [ha] at ea; cases ea
  walk_at "w"
  intro p hp
  walk_at "w"
  rw [atI_map (f := fun cs : List (List Wr) => D.lst (cs.map fun ws => .lst (ws.map wrD))) ha]
  walk_at "w"
  rw [atI_last (last_of hne)]
  walk_at "w"
  refine ⟨lastOf a, s, rfl, hca, g.ok, ?_⟩
  walk_at "w"
  refine for_inv (fun j env M' => M' = mupd M p (.lst ((((stepsD (lastOf a) s).take j).filterMap (wayOf sc i bound b sg)).map nsD)) ∧ ∃ e8 e9 e10, env = [some (ptD sc), some (.int i), some (stD s), some (.bl bound), some (.ref p), some (.lst (sc.row.map D.str)), some (.lst (sc.crews.map fun cs => .lst (cs.map fun ws => .lst (ws.map wrD)))), some (.lst (sc.talk.map tkD)), e8, e9, e10])
    ⟨rfl, _, _, _, rfl⟩ (fun j x env M' K hx ⟨eM, e8, e9, e10, ee⟩ hK => ?_) fun env M' ⟨eM, e8, e9, e10, ee⟩ => ?_
  · subst eM ee
    obtain ⟨k, w, ar, st, rfl⟩ := steps_mem2 (List.mem_of_getElem? hx)
    have lt := way_take (sc := sc) (i := i) (bound := bound) (cs := b) (sg := sg) hx
    have g2 := (good_step hca g st).1
    generalize aft (lastOf a) w s k ar.to = z at hx lt g2 ⊢
    have skip : wayOf sc i bound b sg (.tup [.str ar.sg, .str w.name, stD z]) = none → K [some (ptD sc), some (.int i), some (stD s), some (.bl bound), some (.ref p), some (.lst (sc.row.map D.str)), some (.lst (sc.crews.map fun cs => .lst (cs.map fun ws => .lst (ws.map wrD)))), some (.lst (sc.talk.map tkD)), some (.str ar.sg), some (.str w.name), some (stD z)] (mupd M p (.lst ((((stepsD (lastOf a) s).take j).filterMap (wayOf sc i bound b sg)).map nsD))) := fun e => by
      refine hK _ _ ⟨?_, _, _, _, rfl⟩
      rw [lt, e]; simp
    walk_at "w"
    rw [atI_map (f := D.str) es]
    walk_at "w"
    refine ⟨⟨rfl, rfl⟩, ?_⟩
    walk_at "w"
    by_cases e : ar.sg = sg
    · rw [show ∀ m, eqD (resD m (D.str ar.sg)) (resD m (D.str sg)) = true from fun m => by show eqD (.str ar.sg) (.str sg) = true; rw [eqD_str, beq_str]; exact decide_eq_true e]
      have push : ∀ M2, M2 = mupd M p (.lst ((((stepsD (lastOf a) s).take j).filterMap (wayOf sc i bound b sg)).map nsD)) → (bound = false ∨ broke sc.talk i w.name = 0) → K [some (ptD sc), some (.int i), some (stD s), some (.bl bound), some (.ref p), some (.lst (sc.row.map D.str)), some (.lst (sc.crews.map fun cs => .lst (cs.map fun ws => .lst (ws.map wrD)))), some (.lst (sc.talk.map tkD)), some (.str ar.sg), some (.str w.name), some (stD z)] (mupd M2 p (.lst ((((stepsD (lastOf a) s).take j).filterMap (wayOf sc i bound b sg)).map nsD ++ [.tup [.str w.name, stD (turn b z)]]))) := fun M2 e2 hb2 => by
        subst e2
        rw [mupd_mupd]
        refine hK _ _ ⟨?_, _, _, _, rfl⟩
        have : wayOf sc i bound b sg (.tup [.str ar.sg, .str w.name, stD z]) = some (w.name, turn b z) := by
          show (if ar.sg = sg ∧ _ then some (w.name, turn b (deSt (stD z))) else none) = _
          rw [if_pos ⟨e, hb2⟩, deSt_st]
        rw [lt, this, List.map_append]; rfl
      have small : (((((stepsD (lastOf a) s).take j).filterMap (wayOf sc i bound b sg)).map nsD)).length < sizeLine := by
        have h27 := steps_len hca s
        have h28 := List.length_filterMap_le (wayOf sc i bound b sg) ((stepsD (lastOf a) s).take j)
        rw [List.length_take] at h28
        rw [sizeLine_eq, List.length_map]
        omega
      walk_at "w"
      cases bound with
      | false =>
        walk_at "w"
        refine ⟨?_, ?_⟩
        · walk_at "w"
          rw [mupd_same]
          trivial
        walk_at "w"
        rw [show atI (sc.crews.map fun cs : List (List Wr) => D.lst (cs.map fun ws => .lst (ws.map wrD))) ((i : Int) + 1) = some (.lst (b.map fun ws => .lst (ws.map wrD))) from atI_map (f := fun cs : List (List Wr) => D.lst (cs.map fun ws => .lst (ws.map wrD))) (i := i + 1) eb]
        walk_at "w"
        refine ⟨b, z, rfl, fun c hc => by rw [hb] at hc; cases hc; exact g2, ?_⟩
        walk_at "w"
        rw [mupd_same]
        refine ⟨small, ?_⟩
        exact push _ rfl (.inl rfl)
      | true =>
        walk_at "w"
        refine ⟨sc.talk, i, w.name, rfl, ?_⟩
        walk_at "w"
        refine ⟨⟨rfl, rfl⟩, ?_⟩
        walk_at "w"
        refine brn_by (fun hc => ?_) fun hc => ?_
        · have hb2 : broke sc.talk i w.name = 0 := by
            have : ((broke sc.talk i w.name : Int) == 0) = true := hc
            rw [beq_iff_eq] at this; omega
          walk_at "w"
          refine ⟨?_, ?_⟩
          · walk_at "w"
            rw [mupd_same]
            trivial
          walk_at "w"
          rw [show atI (sc.crews.map fun cs : List (List Wr) => D.lst (cs.map fun ws => .lst (ws.map wrD))) ((i : Int) + 1) = some (.lst (b.map fun ws => .lst (ws.map wrD))) from atI_map (f := fun cs : List (List Wr) => D.lst (cs.map fun ws => .lst (ws.map wrD))) (i := i + 1) eb]
          walk_at "w"
          refine ⟨b, z, rfl, fun c hc => by rw [hb] at hc; cases hc; exact g2, ?_⟩
          walk_at "w"
          rw [mupd_same]
          refine ⟨small, ?_⟩
          exact push _ rfl (.inr hb2)
        · have hb2 : ¬ broke sc.talk i w.name = 0 := by
            have : ((broke sc.talk i w.name : Int) == 0) = false := hc
            intro e0
            rw [e0] at this; cases this
          refine skip ?_
          show (if ar.sg = sg ∧ _ then _ else none) = _
          rw [if_neg fun h => by rcases h.2 with h | h; cases h; exact hb2 h]
    · rw [show ∀ m, eqD (resD m (D.str ar.sg)) (resD m (D.str sg)) = false from fun m => by show eqD (.str ar.sg) (.str sg) = false; rw [eqD_str, beq_str]; exact decide_eq_false e]
      refine skip ?_
      show (if ar.sg = sg ∧ _ then _ else none) = _
      rw [if_neg fun h => e h.1]
  · subst eM ee
    rw [List.take_length]
    walk_at "w"
    rw [mupd_same]
    walk_at "w"
    rw [mdel_mupd hp]
    have e : onw sc i bound s = (stepsD (lastOf a) s).filterMap (wayOf sc i bound b sg) := by unfold onw; rw [ha, eb, es]
    rw [← e]; exact q
end L3
set_option Elab.async false
set_option linter.all false
set_option maxRecDepth 100000
set_option maxHeartbeats 1000000
/-! L3: what the program's scroll tells of next steps. -/
namespace L3
open PySem PySem.Spec PyProof.Rows L2
local macro_rules | `(tactic| walk_at "w") => `(tactic| conv => whnf)
def sgP (sg : Str) (x : D) : Bool := match x with
  | .tup [.str c, _, _] => decide (c = sg)
  | _ => false
def wyD (b : List (List Wr)) (x : D) : D := match x with
  | .tup [_, .str nm, z] => .tup [.str nm, stD (turn b (deSt z))]
  | _ => .non
theorem way_list {sc : Sc} {i : Nat} {b : List (List Wr)} {sg : Str} : ∀ {xs : List D}, (∀ x ∈ xs, ∃ c nm z, x = .tup [.str c, .str nm, stD z]) → (xs.filter (sgP sg)).map (wyD b) = (xs.filterMap (wayOf sc i false b sg)).map nsD
  | [], _ => rfl
  | x :: xs, h => by
    obtain ⟨c, nm, z, rfl⟩ := h x List.mem_cons_self
    have ih := way_list (sc := sc) (i := i) (b := b) (sg := sg) (xs := xs) fun y hy => h y (List.mem_cons_of_mem _ hy)
    by_cases e : c = sg
    · rw [List.filter_cons_of_pos (show sgP sg (.tup [.str c, .str nm, stD z]) = true from decide_eq_true e), List.map_cons, ih]
      have w : wayOf sc i false b sg (.tup [.str c, .str nm, stD z]) = some (nm, turn b z) := by
        show (if c = sg ∧ _ then some (nm, turn b (deSt (stD z))) else none) = _
        rw [if_pos ⟨e, .inl rfl⟩, deSt_st]
      rw [List.filterMap_cons_some w, List.map_cons]
      show D.tup [.str nm, stD (turn b (deSt (stD z)))] :: _ = _
      rw [deSt_st]; rfl
    · rw [List.filter_cons_of_neg (by show ¬ decide (c = sg) = true; simpa using e), ih]
      have w : wayOf sc i false b sg (.tup [.str c, .str nm, stD z]) = none := by
        show (if c = sg ∧ _ then _ else none) = _
        rw [if_neg fun h => e h.1]
      rw [List.filterMap_cons_none w]
def sp_Scroll_every : SpD := fun ds M Q _ => ∃ sc, ∃ i : Nat, ∃ a s, ds = [scD sc, .int i, stD s] ∧ ScOk sc ∧ i < sc.row.length ∧ sc.crews[i]? = some a ∧ Good (lastOf a) s ∧ Q (.lst ((onw sc i false s).map nsD)) M
def t_Scroll_every : DS := (dSeq (dSet 3 (dFrz (dMeth CCompany sp_Company_steps (dMeth CScroll sp_Scroll_company (dVar 0) (dCons (dVar 1) dNil)) (dCons (dVar 2) dNil))))
    (dRet (dLc (iLst (dVar 3)) (.tup [(.name 4), (.name 5), (.name 6)]) (dTest (dBin (rEqDD id) (dVar 4) (dBin rIxD (dFld CScroll 0 (dVar 0)) (dVar 1)))) (dTup (dCons (dVar 5) (dCons (dMeth CScroll sp_Scroll_turned (dVar 0) (dCons (dBin rAddD (dVar 1) (dC (.int 1))) (dCons (dVar 6) dNil))) dNil))) [4, 5, 6])))
theorem r_Scroll_every (ds : List D) (M : Mp) (Q : DK) (E : DX) (hl : ds.length = 3) (h : sp_Scroll_every ds M Q E) : t_Scroll_every { nx := fun _ M' => Q .non M', rt := Q } (startD ["self", "at", "stand", "some", "sign", "name", "later"] ds) M := by
  obtain ⟨sc, i, a, s, rfl, ok, hi, ha, g, q⟩ := h
  obtain ⟨a', b, sg, ea, eb, es, hne, hca, hb⟩ := sc_at ok hi
  rw [ha] at ea; cases ea
  walk_at "w"
  refine ⟨rfl, sc, i, a, rfl, ok, ha, ?_⟩
  walk_at "w"
  refine ⟨rfl, lastOf a, s, rfl, hca, g.ok.pl, g.ok.wt, fun p hp => ?_⟩
  walk_at "w"
  rw [mupd_same]
  walk_at "w"
  rw [mdel_mupd hp]
  have e : onw sc i false s = (stepsD (lastOf a) s).filterMap (wayOf sc i false b sg) := by unfold onw; rw [ha, eb, es]
  refine lc_filter (sgP sg) (wyD b) (fun x hx K1 K2 h1 h2 => ?_) ?_
  · obtain ⟨k, w, ar, st, rfl⟩ := steps_mem2 hx
    have g2 := (good_step hca g st).1
    generalize aft (lastOf a) w s k ar.to = z at h1 h2 g2 ⊢
    walk_at "w"
    refine ⟨rfl, ?_⟩
    walk_at "w"
    rw [atI_map (f := D.str) es]
    walk_at "w"
    refine ⟨⟨rfl, rfl⟩, ?_⟩
    walk_at "w"
    refine brn_by (fun hc => ?_) fun hc => ?_
    · have e1 : ar.sg = sg := by
        have : (ar.sg == sg) = true := hc
        simpa [beq_str] using this
      walk_at "w"
      refine ⟨rfl, sc, i + 1, b, z, rfl, eb, fun c hc => by rw [hb] at hc; cases hc; exact g2, ?_⟩
      have := h1 (decide_eq_true e1)
      have e2 : wyD b (.tup [.str ar.sg, .str w.name, stD z]) = .tup [.str w.name, stD (turn b z)] := by
        show D.tup [.str w.name, stD (turn b (deSt (stD z)))] = _
        rw [deSt_st]
      rw [e2] at this
      exact this
    · exact h2 (by
        have : (ar.sg == sg) = false := hc
        rw [beq_str] at this; exact this)
  · rw [way_list (sc := sc) (i := i) (b := b) (sg := sg) fun x hx => by obtain ⟨k, w, ar, st, rfl⟩ := steps_mem2 hx; exact ⟨_, _, _, rfl⟩, ← e]
    exact q
theorem onw_true (sc : Sc) (i : Nat) (s : St) : onw sc i true s = (onw sc i false s).filter fun p => decide (broke sc.talk i p.1 = 0) := by
  unfold onw
  split
  · rename_i a b sg _ _ _
    induction stepsD (lastOf a) s with
    | nil => rfl
    | cons x xs ih =>
      rw [List.filterMap_cons, List.filterMap_cons, ih]
      cases e1 : wayOf sc i false b sg x with
      | none =>
        have : wayOf sc i true b sg x = none := by
          unfold wayOf at e1 ⊢
          split at e1
          · split at e1
            · cases e1
            · rename_i hn
              rw [if_neg fun h => hn ⟨h.1, .inl rfl⟩]
          · rfl
        rw [this]
      | some y =>
        unfold wayOf at e1
        split at e1
        · rename_i c nm z
          split at e1
          · rename_i hp
            cases e1
            by_cases hb : broke sc.talk i nm = 0
            · have : wayOf sc i true b sg (.tup [.str c, .str nm, z]) = some (nm, turn b (deSt z)) := by unfold wayOf; simp only; rw [if_pos ⟨hp.1, .inr hb⟩]
              rw [this, List.filter_cons_of_pos (by simpa using hb)]
            · have : wayOf sc i true b sg (.tup [.str c, .str nm, z]) = none := by unfold wayOf; simp only; rw [if_neg fun h => by rcases h.2 with h | h; cases h; exact hb h]
              rw [this, List.filter_cons_of_neg (by simpa using hb)]
          · cases e1
        · cases e1
  · rfl
end L3
set_option Elab.async false
set_option linter.all false
set_option maxRecDepth 100000
set_option maxHeartbeats 1000000
/-! L3: lots onward through a scroll. -/
namespace L3
open PySem PySem.Spec PyProof.Rows L2
local macro_rules | `(tactic| walk_at "w") => `(tactic| conv => whnf)
def unb (sc : Sc) (i : Nat) (x : D) : Bool := match x with
  | .tup [.str nm, _] => decide (broke sc.talk i nm = 0)
  | _ => false
def sp_Scroll_onward : SpD := fun ds M Q _ => ∃ sc, ∃ i : Nat, ∃ a s, ds = [scD sc, .int i, stD s] ∧ ScOk sc ∧ i < sc.row.length ∧ sc.crews[i]? = some a ∧ Good (lastOf a) s ∧ Q (.lst ((onw sc i true s).map nsD)) M
def t_Scroll_onward : DS := (dRet (dLc (iLst (dMeth CScroll sp_Scroll_every (dVar 0) (dCons (dVar 1) (dCons (dVar 2) dNil)))) (.tup [(.name 3), (.name 4)]) (dTest (dBin (rEqDD id) (dMeth CScroll sp_Scroll_broken (dVar 0) (dCons (dVar 1) (dCons (dVar 3) dNil))) (dC (.int 0)))) (dTup (dCons (dVar 3) (dCons (dVar 4) dNil))) [3, 4]))
theorem r_Scroll_onward (ds : List D) (M : Mp) (Q : DK) (E : DX) (hl : ds.length = 3) (h : sp_Scroll_onward ds M Q E) : t_Scroll_onward { nx := fun _ M' => Q .non M', rt := Q } (startD ["self", "at", "stand", "name", "later"] ds) M := by
  obtain ⟨sc, i, a, s, rfl, ok, hi, ha, g, q⟩ := h
  walk_at "w"
  refine ⟨rfl, sc, i, a, s, rfl, ok, hi, ha, g, ?_⟩
  refine lc_filter (unb sc i) id (fun x hx K1 K2 h1 h2 => ?_) ?_
  · obtain ⟨⟨nm, z⟩, _, rfl⟩ := List.mem_map.mp hx
    walk_at "w"
    refine ⟨rfl, sc, i, nm, rfl, ?_⟩
    walk_at "w"
    refine ⟨⟨rfl, rfl⟩, ?_⟩
    walk_at "w"
    refine brn_by (fun hc => ?_) fun hc => ?_
    · have hb2 : broke sc.talk i nm = 0 := by
        have : ((broke sc.talk i nm : Int) == 0) = true := hc
        rw [beq_iff_eq] at this; omega
      exact h1 (decide_eq_true hb2)
    · have hb2 : ¬ broke sc.talk i nm = 0 := by
        have : ((broke sc.talk i nm : Int) == 0) = false := hc
        intro e0
        rw [e0] at this; cases this
      exact h2 (decide_eq_false hb2)
  · have e : ((onw sc i false s).map nsD).filter (unb sc i) = (onw sc i true s).map nsD := by
      rw [onw_true, List.filter_map]; rfl
    rw [e, List.map_id]
    exact q
/-! ### the lots -/
def laterD (sc : Sc) (i : Nat) (s : St) : List D := (onw sc i true s).map fun p => stD p.2
def nextsW (sc : Sc) (i : Nat) (lot : List St) : List D := lot.flatMap (laterD sc i)
noncomputable def goD (sc : Sc) (i : Nat) (lot : List St) : List D := sortD (gath [] (nextsW sc i lot))
noncomputable def go (sc : Sc) (i : Nat) (lot : List St) : List St := (goD sc i lot).map deSt
def turnD (b : List (List Wr)) (d : D) : D := stD (turn b (deSt d))
structure OnW (a b : List (List Wr)) (acc : List D) : Prop where
  nd : acc.Nodup
  st : ∀ d ∈ acc, (∃ s, d = stD s ∧ Good (lastOf b) s) ∧ d ∈ (world (lastOf a)).map (turnD b)
theorem OnW.nil (a b : List (List Wr)) : OnW a b [] := ⟨List.nodup_nil, fun d hd => nomatch hd⟩
theorem OnW.few {a b : List (List Wr)} (hok : CrewOk (lastOf a)) {acc : List D} (h : OnW a b acc) : acc.length ≤ 3888 :=
  Nat.le_trans (nodup_len _ _ h.nd fun d hd => (h.st d hd).2) (by rw [List.length_map]; exact world_len hok.few)
theorem OnW.sts {a b : List (List Wr)} {acc : List D} (h : OnW a b acc) : ∀ d ∈ acc, ∃ s, d = stD s := fun d hd => let ⟨⟨s, e, _⟩, _⟩ := h.st d hd; ⟨s, e⟩
theorem OnW.keys {a b : List (List Wr)} {acc : List D} (h : OnW a b acc) : ∀ d ∈ acc, isKey d = true := fun d hd => by
  obtain ⟨s, rfl⟩ := h.sts d hd; exact isKey_st s
/-- what a next stand is -/
theorem onw_mem {sc : Sc} {i : Nat} {bound : Bool} {s : St} {p : Str × St} {a b : List (List Wr)} (ha : sc.crews[i]? = some a) (hb : sc.crews[i + 1]? = some b) (hh : b.head? = some (lastOf a)) (hca : CrewOk (lastOf a)) (g : Good (lastOf a) s) (h : p ∈ onw sc i bound s) : Good (lastOf b) p.2 ∧ stD p.2 ∈ (world (lastOf a)).map (turnD b) := by
  unfold onw at h
  rw [ha, hb] at h
  split at h
  · rename_i a' b' sg ea eb es
    cases ea; cases eb
    obtain ⟨x, hx, hw⟩ := List.mem_filterMap.mp h
    obtain ⟨k, w, ar, st, rfl⟩ := steps_mem2 hx
    obtain ⟨g2, g3⟩ := good_step hca g st
    have e : (if ar.sg = sg ∧ (bound = false ∨ broke sc.talk i w.name = 0) then some (w.name, turn b (deSt (stD (aft (lastOf a) w s k ar.to)))) else none) = some p := hw
    split at e
    · cases e
      rw [deSt_st]
      refine ⟨?_, List.mem_map.mpr ⟨_, g3, ?_⟩⟩
      · cases b with
        | nil => cases hh
        | cons c cs => cases hh; exact good_turn g2
      · unfold turnD; rw [deSt_st]
    · cases e
  · cases h
theorem OnW.add {a b : List (List Wr)} {acc : List D} (h : OnW a b acc) {s : St} (g : Good (lastOf b) s ∧ stD s ∈ (world (lastOf a)).map (turnD b)) : OnW a b (insD acc (stD s)) where
  nd := insD_nodup h.nd
  st := fun d hd => by
    rcases insD_mem.mp hd with hd | rfl
    · exact h.st d hd
    · exact ⟨⟨_, rfl, g.1⟩, g.2⟩
theorem nextsW_way {sc : Sc} {i : Nat} {a b : List (List Wr)} (ha : sc.crews[i]? = some a) (hb : sc.crews[i + 1]? = some b) (hh : b.head? = some (lastOf a)) (hca : CrewOk (lastOf a)) {lot : List St} (hl : Lot (lastOf a) lot) : OnW a b (gath [] (nextsW sc i lot)) where
  nd := gath_nodup List.nodup_nil
  st := fun d hd => by
    rcases gath_mem.mp hd with h | h
    · cases h
    · obtain ⟨s, hs, hd⟩ := List.mem_flatMap.mp h
      obtain ⟨p, hp, rfl⟩ := List.mem_map.mp hd
      obtain ⟨z1, z2⟩ := onw_mem ha hb hh hca (hl s hs) hp
      exact ⟨⟨_, rfl, z1⟩, z2⟩
theorem go_st {sc : Sc} {i : Nat} {a b : List (List Wr)} (ha : sc.crews[i]? = some a) (hb : sc.crews[i + 1]? = some b) (hh : b.head? = some (lastOf a)) (hca : CrewOk (lastOf a)) {lot : List St} (hl : Lot (lastOf a) lot) : (go sc i lot).map stD = goD sc i lot :=
  sts_back fun d hd => (nextsW_way ha hb hh hca hl).sts d ((sortD_perm _).mem_iff.mp hd)
theorem go_lot {sc : Sc} {i : Nat} {a b : List (List Wr)} (ha : sc.crews[i]? = some a) (hb : sc.crews[i + 1]? = some b) (hh : b.head? = some (lastOf a)) (hca : CrewOk (lastOf a)) {lot : List St} (hl : Lot (lastOf a) lot) : Lot (lastOf b) (go sc i lot) := fun s hs => by
  obtain ⟨d, hd, rfl⟩ := List.mem_map.mp hs
  obtain ⟨⟨t, rfl, g⟩, _⟩ := (nextsW_way ha hb hh hca hl).st d ((sortD_perm _).mem_iff.mp hd)
  rw [deSt_st]; exact g
theorem go_one {sc : Sc} {i : Nat} {a b : List (List Wr)} (ha : sc.crews[i]? = some a) (hb : sc.crews[i + 1]? = some b) (hh : b.head? = some (lastOf a)) (hca : CrewOk (lastOf a)) {lot : List St} (hl : Lot (lastOf a) lot) {ys : List D} (p : ys.Perm (gath [] (nextsW sc i lot))) (pw : ys.Pairwise fun d e => leD d e = true) : ys = (go sc i lot).map stD := by
  rw [go_st ha hb hh hca hl]
  exact rank_eq (sts_ranked (nextsW_way ha hb hh hca hl).sts) p pw
theorem nextsW_take {sc : Sc} {i : Nat} {lot : List St} {j : Nat} {s : St} (h : lot[j]? = some s) : nextsW sc i (lot.take (j + 1)) = nextsW sc i (lot.take j) ++ laterD sc i s := by
  unfold nextsW
  rw [List.take_add_one, h, Option.toList_some, List.flatMap_append]; simp
/-! ### a lot onward -/
def sp_Scroll_later_lot : SpD := fun ds M Q _ => ∃ sc, ∃ i : Nat, ∃ a lot d0, ds = [scD sc, .int i, d0] ∧ ScOk sc ∧ i < sc.row.length ∧ sc.crews[i]? = some a ∧ Lot (lastOf a) lot ∧ (∃ M', Thaw M d0 (.lst (lot.map stD)) M') ∧ Q (.lst ((go sc i lot).map stD)) M
def t_Scroll_later_lot : DS := (dRet (dPeekO 2 (dSortSetM (iLst (dVar 2)) (.name 3) dYes (dIn (iLst (dMeth CScroll sp_Scroll_onward (dVar 0) (dCons (dVar 1) (dCons (dVar 3) dNil)))) (.tup [(.name 4), (.name 5)]) dYes (dElS (dVar 5)) [4, 5]) [3, 4, 5])))
theorem r_Scroll_later_lot (ds : List D) (M : Mp) (Q : DK) (E : DX) (hl : ds.length = 3) (h : sp_Scroll_later_lot ds M Q E) : t_Scroll_later_lot { nx := fun _ M' => Q .non M', rt := Q } (startD ["self", "at", "lot", "stand", "name", "later"] ds) M := by
  obtain ⟨sc, i, a, lot, d0, rfl, ok, hi, ha, hlot, ⟨M1, th⟩, q⟩ := h
  obtain ⟨a', b, sg, ea, eb, es, hne, hca, hb⟩ := sc_at ok hi
  rw [ha] at ea; cases ea
  walk_at "w"
  refine ⟨d0, _, M1, rfl, th, ?_⟩
  walk_at "w"
  refine cl_inv (fun j acc M' => M' = (fun _ => none) ∧ acc = gath [] (nextsW sc i (lot.take j)) ∧ OnW a b acc) ⟨rfl, rfl, OnW.nil a b⟩ (fun j x acc M' K hx ⟨eM, ea, way⟩ hK => ?_) fun acc M' ⟨eM, ea, way⟩ => ?_
  · subst eM
    rw [List.getElem?_map] at hx
    obtain ⟨s, hs, rfl⟩ := Option.map_eq_some_iff.mp hx
    have good := hlot s (List.mem_of_getElem? hs)
    walk_at "w"
    refine ⟨rfl, sc, i, a, s, rfl, ok, hi, ha, good, ?_⟩
    refine cl_inv (fun k acc2 M2 => M2 = (fun _ => none) ∧ acc2 = gath acc ((laterD sc i s).take k) ∧ OnW a b acc2) ⟨rfl, rfl, way⟩ (fun k y acc2 M2 K2 hy ⟨eM2, ea2, way2⟩ hK2 => ?_) fun acc2 M2 ⟨eM2, ea2, way2⟩ => ?_
    · subst eM2
      rw [List.getElem?_map] at hy
      obtain ⟨⟨nm, z⟩, hz, rfl⟩ := Option.map_eq_some_iff.mp hy
      have way3 := way2.add (onw_mem ha eb hb hca good (List.mem_of_getElem? hz))
      walk_at "w"
      refine ⟨⟨isKey_st _, by have := way2.few hca; omega⟩, ?_⟩
      refine hK2 _ _ ⟨rfl, ?_, way3⟩
      have lt : (laterD sc i s).take (k + 1) = (laterD sc i s).take k ++ [stD z] := by
        unfold laterD
        rw [List.take_add_one, List.getElem?_map, hz]; rfl
      rw [lt, gath_append, ← ea2]; rfl
    · subst eM2
      rw [List.length_map] at ea2
      rw [show (onw sc i true s).length = (laterD sc i s).length by unfold laterD; rw [List.length_map], List.take_length] at ea2
      refine hK _ _ ⟨rfl, ?_, way2⟩
      rw [nextsW_take hs, gath_append, ← ea, ea2]
  · subst eM
    rw [List.length_map, List.take_length] at ea
    refine ⟨sts_srt way.sts, fun ys pm pw p hp => ?_⟩
    subst ea
    have z := go_one ha eb hb hca hlot pm pw
    refine ⟨p, ys, rfl, mupd_same, fun y hy => ?_, ?_⟩
    · exact way.keys y (pm.mem_iff.mp hy)
    · rw [z]; exact q
end L3
set_option Elab.async false
set_option linter.all false
set_option maxRecDepth 100000
set_option maxHeartbeats 1000000
/-! L3: the lots of a whole scroll. -/
namespace L3
open PySem PySem.Spec PyProof.Rows L2
local macro_rules | `(tactic| walk_at "w") => `(tactic| conv => whnf)
noncomputable def lots (sc : Sc) : Nat → List St
  | 0 => [firstOf sc]
  | n + 1 => go sc n (lots sc n)
noncomputable def lotD (sc : Sc) (n : Nat) : D := .lst ((lots sc n).map stD)
theorem lots_ok {sc : Sc} (ok : ScOk sc) : ∀ {n : Nat} {a : List (List Wr)}, n ≤ sc.row.length → sc.crews[n]? = some a → Lot (lastOf a) (lots sc n)
  | 0, a, _, ha => by
    obtain ⟨c, cs, h0, hc, ef⟩ := first_at ok
    rw [ha] at h0; cases h0
    intro s hs
    have hs' : s ∈ [firstOf sc] := hs
    rw [List.mem_singleton] at hs'
    subst hs'
    rw [ef]; exact good_turn (good0 c)
  | n + 1, a, hn, ha => by
    obtain ⟨a', b, sg, ea, eb, es, hne, hca, hb⟩ := sc_at ok (i := n) (by omega)
    rw [ha] at eb; cases eb
    exact go_lot ea ha hb hca (lots_ok ok (by omega) ea)
def sp_law_first : SpD := fun ds M Q _ => ∃ sc, ds = [ptD sc] ∧ ScOk sc ∧ Q (stD (firstOf sc)) M
def t_law_first : DS := (dRet (dCall sp_law_turned (dCons (dBin rIxD (dBin rIxD (dVar 0) (dC (.int 1))) (dC (.int 0))) (dCons (dCall sp_law_begin (dCons (dBin rIxD (dBin rIxD (dBin rIxD (dVar 0) (dC (.int 1))) (dC (.int 0))) (dC (.int 0))) dNil)) dNil))))
theorem r_law_first (ds : List D) (M : Mp) (Q : DK) (E : DX) (hl : ds.length = 1) (h : sp_law_first ds M Q E) : t_law_first { nx := fun _ M' => Q .non M', rt := Q } (startD ["_law_s"] ds) M := by
  obtain ⟨sc, rfl, ok, q⟩ := h
  obtain ⟨a, cs, h0, ha, ef⟩ := first_at ok
  have z : atI (sc.crews.map fun cs : List (List Wr) => D.lst (cs.map fun ws => .lst (ws.map wrD))) 0 = some (.lst ((a :: cs).map fun ws => .lst (ws.map wrD))) := atI_map (f := fun cs : List (List Wr) => D.lst (cs.map fun ws => .lst (ws.map wrD))) (i := 0) h0
  walk_at "w"
  rw [z]
  walk_at "w"
  rw [z]
  walk_at "w"
  rw [List.map_cons, atI_0]
  walk_at "w"
  refine ⟨a, rfl, ha.few, ?_⟩
  walk_at "w"
  refine ⟨a :: cs, st0 a.length, rfl, fun c hc => by cases hc; exact good0 a, ?_⟩
  rw [← ef]; exact q
def sp_law_forth : SpD := fun ds M Q _ => ∃ sc, ds = [ptD sc] ∧ ScOk sc ∧ Q (.lst ((List.range (sc.row.length + 1)).map (lotD sc))) M
def t_law_forth_1 (wd : World) : DS := (dFrzN 3 (dDrop (dAppend (dVar 1) (dUn (rSortDk wd) (dVar 3)))))
def t_law_forth_2 (wd : World) : DS := (dFrzN 1 (dRet (dVar 1)))
def t_law_forth (wd : World) : DS := (dSeq (dSet 1 (dLstM (dCons (dLst (dCons (dCall sp_law_first (dCons (dVar 0) dNil)) dNil)) dNil)))
    (dSeq (dFor (iRange1 (dCons (dUn rLenD (dBin rIxD (dVar 0) (dC (.int 0)))) dNil)) (.name 2) (dSeq (dSet 3 (dDk0 wd))
    (dSeq (dFor (iLst (dBin rIxD (dVar 1) (dUn rNegI (dC (.int 1))))) (.name 4) (dFor (iLst (dCall sp_law_onward (dCons (dVar 0) (dCons (dVar 2) (dCons (dVar 4) (dCons (dC (.bl true)) dNil)))))) (.tup [(.name 5), (.name 6)]) (dSetDk wd (dC (.bl true)) (dVar 3) (dVar 6))))
    (t_law_forth_1 wd))))
    (t_law_forth_2 wd)))
theorem range_last {α : Type} (f : Nat → α) (i : Nat) : ((List.range (i + 1)).map f).getLast? = some (f i) := by
  rw [List.range_succ, List.map_append, List.getLast?_append]; rfl
theorem range_last' (i : Nat) : (List.range (i + 1)).getLast? = some i := by
  rw [List.range_succ, List.getLast?_append]; rfl
theorem r_law_forth (wd : World) (ds : List D) (M : Mp) (Q : DK) (E : DX) (hl : ds.length = 1) (h : sp_law_forth ds M Q E) : t_law_forth wd { nx := fun _ M' => Q .non M', rt := Q } (startD ["_law_s", "_law_found", "_law_at", "_law_later", "_law_stand", "_law_name", "_law_to"] ds) M := by
  obtain ⟨sc, rfl, ok, q⟩ := h
  walk_at "w"
  refine ⟨sc, rfl, ok, ?_⟩
  walk_at "w"
  intro p hp
  walk_at "w"
  refine ⟨⟨by omega, by rw [List.length_map]; have := ok.few; omega⟩, ?_⟩
  rw [List.length_map, Int.toNat_natCast]
  refine for_inv (fun i env M' => M' = mupd M p (.lst ((List.range (i + 1)).map (lotD sc))) ∧ ∃ e2 e3 e4 e5 e6, env = [some (ptD sc), some (.ref p), e2, e3, e4, e5, e6]) ⟨rfl, _, _, _, _, _, rfl⟩
    (fun i x env M' K hx ⟨eM, e2, e3, e4, e5, e6, ee⟩ hK => ?_) fun env M' ⟨eM, e2, e3, e4, e5, e6, ee⟩ => ?_
  · subst eM ee
    obtain ⟨hi, rfl⟩ := rng_at hx
    obtain ⟨a, b, sg, ea, eb, es, hne, hca, hb⟩ := sc_at ok hi
    have hlot := lots_ok ok (Nat.le_of_lt hi) ea
    rw [Int.zero_add]
    walk_at "w"
    intro pk hpk
    have hk : pk ≠ p := fun e => by rw [e, mupd_same] at hpk; cases hpk
    have hkM : M pk = none := by rw [mupd_ne hk] at hpk; exact hpk
    walk_at "w"
    have rr : resD (mupd (mupd M p (.lst ((List.range (i + 1)).map (lotD sc)))) pk (.dkd wd [] [])) (.ref p) = .lst ((List.range (i + 1)).map (lotD sc)) := by rw [mupd_comm (Ne.symm hk), resD_new]
    rw [rr]
    walk_at "w"
    rw [atI_last (range_last' i)]
    walk_at "w"
    refine for_inv (fun j env M' => ∃ acc vs, M' = mupd (mupd M p (.lst ((List.range (i + 1)).map (lotD sc)))) pk (.dkd wd acc vs) ∧ acc = gath [] (nextsW sc i ((lots sc i).take j)) ∧ OnW a b acc ∧ ∃ e4 e5 e6, env = [some (ptD sc), some (.ref p), some (.int i), some (.ref pk), e4, e5, e6]) ⟨[], [], rfl, rfl, OnW.nil a b, _, _, _, rfl⟩
      (fun j x env M' K hx ⟨acc, vs, eM, ea2, way, e4, e5, e6, ee⟩ hK => ?_) fun env M' ⟨acc, vs, eM, ea2, way, e4, e5, e6, ee⟩ => ?_
    · subst eM ee
      rw [List.getElem?_map] at hx
      obtain ⟨s, hs, rfl⟩ := Option.map_eq_some_iff.mp hx
      have good := hlot s (List.mem_of_getElem? hs)
      walk_at "w"
      refine ⟨sc, i, a, s, true, rfl, ok, hi, ea, good, ?_⟩
      walk_at "w"
      refine for_inv (fun k env M' => ∃ acc2 vs2, M' = mupd (mupd M p (.lst ((List.range (i + 1)).map (lotD sc)))) pk (.dkd wd acc2 vs2) ∧ acc2 = gath acc ((laterD sc i s).take k) ∧ OnW a b acc2 ∧ ∃ e5 e6, env = [some (ptD sc), some (.ref p), some (.int i), some (.ref pk), some (stD s), e5, e6]) ⟨acc, vs, rfl, rfl, way, _, _, rfl⟩
        (fun k y env M' K2 hy ⟨acc2, vs2, eM2, ea3, way2, e5, e6, ee⟩ hK2 => ?_) fun env M' ⟨acc2, vs2, eM2, ea3, way2, e5, e6, ee⟩ => ?_
      · subst eM2 ee
        rw [List.getElem?_map] at hy
        obtain ⟨⟨nm, z⟩, hz, rfl⟩ := Option.map_eq_some_iff.mp hy
        have way3 := way2.add (onw_mem ea eb hb hca good (List.mem_of_getElem? hz))
        have lt : (laterD sc i s).take (k + 1) = (laterD sc i s).take k ++ [stD z] := by
          unfold laterD
          rw [List.take_add_one, List.getElem?_map, hz]; rfl
        walk_at "w"
        rw [mupd_same]
        refine ⟨⟨rfl, isKey_st _, by have := way2.few hca; rw [sizeLine_eq]; omega⟩, ?_⟩
        refine hK2 _ _ ⟨_, _, mupd_mupd, ?_, by rw [addD_ins way2.keys (isKey_st _)]; exact way3, _, _, rfl⟩
        rw [addD_ins way2.keys (isKey_st _), lt, gath_append, ← ea3]; rfl
      · subst eM2 ee
        rw [List.length_map, show (onw sc i true s).length = (laterD sc i s).length by unfold laterD; rw [List.length_map], List.take_length] at ea3
        refine hK _ _ ⟨acc2, vs2, rfl, ?_, way2, _, _, _, rfl⟩
        rw [nextsW_take hs, gath_append, ← ea2, ea3]
    · subst eM ee
      rw [List.length_map, List.take_length] at ea2
      walk_at "w"
      rw [mupd_same]
      walk_at "w"
      rw [mdel_mupd (by rw [mupd_ne hk]; exact hkM)]
      refine ⟨?_, ?_⟩
      · walk_at "w"
        rw [mupd_same]
        trivial
      walk_at "w"
      refine ⟨rfl, sts_srt way.sts, fun ys pm pw => ?_⟩
      subst ea2
      have z := go_one ea eb hb hca hlot pm pw
      subst z
      walk_at "w"
      rw [mupd_same]
      refine ⟨by rw [sizeLine_eq, List.length_map, List.length_range]; have := ok.few; omega, ?_⟩
      refine hK _ _ ⟨?_, _, _, _, _, _, rfl⟩
      rw [mupd_mupd, List.range_succ (n := i + 1), List.map_append]; rfl
  · subst eM ee
    rw [rng_length]
    walk_at "w"
    rw [mupd_same]
    walk_at "w"
    rw [mdel_mupd hp]
    exact q
/-- what the program's lots are: the first one own, the others frozen -/
noncomputable def foundM (sc : Sc) (q : Addr) (n : Nat) : List D := .ref q :: (List.range n).map fun k => lotD sc (k + 1)
def sp_Scroll_forth : SpD := fun ds M Q _ => ∃ sc, ds = [scD sc] ∧ ScOk sc ∧ ∀ q p, M q = none → M p = none → p ≠ q → Q (.ref p) (mupd (mupd M q (.lst [stD (firstOf sc)])) p (.lst (foundM sc q sc.row.length)))
def t_Scroll_forth_1 : DS := (dRet (dVar 1))
def t_Scroll_forth : DS := (dSeq (dSet 1 (dLstM (dCons (dLstM (dCons (dMeth CScroll sp_Scroll_first (dVar 0) dNil) dNil)) dNil)))
    (dSeq (dFor (iRange1 (dCons (dUn rLenD (dFld CScroll 0 (dVar 0))) dNil)) (.name 2) (dDrop (dAppend (dVar 1) (dMeth CScroll sp_Scroll_later_lot (dVar 0) (dCons (dVar 2) (dCons (dBin rIxD (dVar 1) (dUn rNegI (dC (.int 1)))) dNil))))))
    t_Scroll_forth_1))
theorem found_last (sc : Sc) (q : Addr) (n : Nat) : (foundM sc q n).getLast? = some (if n = 0 then .ref q else lotD sc n) := by
  cases n with
  | zero => rfl
  | succ n =>
    unfold foundM
    rw [List.range_succ, List.map_append, List.map_cons, List.map_nil, ← List.cons_append, List.getLast?_append]
    rfl
theorem found_succ (sc : Sc) (q : Addr) (n : Nat) : foundM sc q (n + 1) = foundM sc q n ++ [lotD sc (n + 1)] := by
  unfold foundM
  rw [List.range_succ, List.map_append]; rfl
theorem atI_end {xs : List D} {x : D} (h : xs.getLast? = some x) : atI xs (-1) = some x := by
  have := atI_last (f := id) h
  rwa [List.map_id] at this
theorem r_Scroll_forth (ds : List D) (M : Mp) (Q : DK) (E : DX) (hl : ds.length = 1) (h : sp_Scroll_forth ds M Q E) : t_Scroll_forth { nx := fun _ M' => Q .non M', rt := Q } (startD ["self", "found", "at"] ds) M := by
  obtain ⟨sc, rfl, ok, qq⟩ := h
  walk_at "w"
  refine ⟨rfl, sc, rfl, ok, ?_⟩
  walk_at "w"
  intro q hq
  walk_at "w"
  intro p hp
  have hpq : p ≠ q := fun e => by rw [e, mupd_same] at hp; cases hp
  have hpM : M p = none := by rw [mupd_ne hpq] at hp; exact hp
  walk_at "w"
  refine ⟨rfl, ?_⟩
  walk_at "w"
  refine ⟨⟨by omega, by rw [List.length_map]; have := ok.few; omega⟩, ?_⟩
  rw [List.length_map, Int.toNat_natCast]
  refine for_inv (fun i env M' => M' = mupd (mupd M q (.lst [stD (firstOf sc)])) p (.lst (foundM sc q i)) ∧ ∃ e2, env = [some (scD sc), some (.ref p), e2]) ⟨rfl, _, rfl⟩
    (fun i x env M' K hx ⟨eM, e2, ee⟩ hK => ?_) fun env M' ⟨eM, e2, ee⟩ => ?_
  · subst eM ee
    obtain ⟨hi, rfl⟩ := rng_at hx
    obtain ⟨a, b, sg, ea, eb, es, hne, hca, hb⟩ := sc_at ok hi
    have hlot := lots_ok ok (Nat.le_of_lt hi) ea
    rw [Int.zero_add]
    walk_at "w"
    refine ⟨?_, ?_⟩
    · walk_at "w"
      rw [mupd_same]
      trivial
    walk_at "w"
    refine ⟨rfl, ?_⟩
    walk_at "w"
    rw [resD_new]
    walk_at "w"
    rw [atI_end (found_last sc q i)]
    walk_at "w"
    refine ⟨sc, i, a, lots sc i, _, rfl, ok, hi, ea, hlot, ?_, ?_⟩
    · cases i with
      | zero =>
        refine ⟨_, Thaw.lst (ds := [stD (firstOf sc)]) (by rw [mupd_ne (Ne.symm hpq), mupd_same]) (.cons (.keep _ _) (.nil _))⟩
      | succ i => exact ⟨_, Thaw.keep _ _⟩
    walk_at "w"
    rw [mupd_same]
    refine ⟨by rw [sizeLine_eq]; unfold foundM; rw [List.length_cons, List.length_map, List.length_range]; have := ok.few; omega, ?_⟩
    refine hK _ _ ⟨?_, _, rfl⟩
    rw [mupd_mupd, found_succ]; rfl
  · subst eM ee
    rw [rng_length]
    exact qq q p hq hpM hpq
end L3
set_option Elab.async false
set_option linter.all false
set_option maxRecDepth 100000
set_option maxHeartbeats 1000000
/-! L3: own lists within an own list; steps of a scroll. -/
namespace L3
open PySem PySem.Spec PyProof.Rows L2
local macro_rules | `(tactic| walk_at "w") => `(tactic| conv => whnf)
/-- ra holds a row, ca refers to lists at rs; all else is as in M -/
structure Nest (M M' : Mp) (ra ca : Addr) (rs : List Addr) (row : List D) (css : List (List D)) : Prop where
  row : M' ra = some (.lst row)
  crs : M' ca = some (.lst (rs.map D.ref))
  at_ : ∀ (i : Nat) (r : Addr) (xs : List D), rs[i]? = some r → css[i]? = some xs → M' r = some (.lst xs)
  len : rs.length = css.length
  nd : (ra :: ca :: rs).Nodup
  free : ∀ b ∈ ra :: ca :: rs, M b = none
  same : ∀ b, b ∉ ra :: ca :: rs → M' b = M b
section
variable {M M' : Mp} {ra ca : Addr} {rs : List Addr} {row : List D} {css : List (List D)}
theorem Nest.ra_ne (h : Nest M M' ra ca rs row css) : ra ≠ ca ∧ ra ∉ rs ∧ ca ∉ rs := by
  have := h.nd
  rw [List.nodup_cons, List.nodup_cons] at this
  exact ⟨fun e => this.1 (by rw [e]; exact List.mem_cons_self), fun e => this.1 (List.mem_cons_of_mem _ e), this.2.1⟩
theorem Nest.push_row (h : Nest M M' ra ca rs row css) (x : D) : Nest M (mupd M' ra (.lst (row ++ [x]))) ra ca rs (row ++ [x]) css where
  row := mupd_same
  crs := by rw [mupd_ne (Ne.symm h.ra_ne.1)]; exact h.crs
  at_ := fun i r xs hr hx => by rw [mupd_ne (fun e => h.ra_ne.2.1 (by rw [← e]; exact List.mem_of_getElem? hr))]; exact h.at_ i r xs hr hx
  len := h.len
  nd := h.nd
  free := h.free
  same := fun b hb => by rw [mupd_ne (fun e => hb (by rw [e]; exact List.mem_cons_self))]; exact h.same b hb
theorem Nest.push_last (h : Nest M M' ra ca rs row css) {r : Addr} {xs : List D} (hr : rs.getLast? = some r) (hx : css.getLast? = some xs) (d : D) : Nest M (mupd M' r (.lst (xs ++ [d]))) ra ca rs row (css.dropLast ++ [xs ++ [d]]) where
  row := by rw [mupd_ne (fun e => h.ra_ne.2.1 (by rw [e]; exact List.mem_of_getLast? hr))]; exact h.row
  crs := by rw [mupd_ne (fun e => h.ra_ne.2.2 (by rw [e]; exact List.mem_of_getLast? hr))]; exact h.crs
  at_ := fun i s ys hs hy => by
    have nd := (List.nodup_cons.mp (List.nodup_cons.mp h.nd).2).2
    have hr' : rs[rs.length - 1]? = some r := by rw [← List.getLast?_eq_getElem?]; exact hr
    have li := (List.getElem?_eq_some_iff.mp hs).1
    by_cases hi : i = rs.length - 1
    · rw [hi, hr'] at hs; cases hs
      rw [List.getElem?_append_right (by rw [List.length_dropLast, ← h.len]; omega), List.length_dropLast, ← h.len, hi, Nat.sub_self] at hy
      cases hy
      exact mupd_same
    · have hne : s ≠ r := fun e => hi ((List.getElem?_inj li nd).mp (by rw [hs, hr', e]))
      rw [List.getElem?_append_left (by rw [List.length_dropLast, ← h.len]; omega), List.dropLast_eq_take, List.getElem?_take, if_pos (by rw [← h.len]; omega)] at hy
      rw [mupd_ne hne]
      exact h.at_ i s ys hs hy
  len := by
    have : css ≠ [] := fun e => by rw [e] at hx; cases hx
    have := List.length_pos_iff.mpr this
    rw [List.length_append, List.length_dropLast, List.length_singleton, h.len]; omega
  nd := h.nd
  free := h.free
  same := fun b hb => by rw [mupd_ne (fun e => hb (by rw [e]; exact List.mem_cons_of_mem _ (List.mem_cons_of_mem _ (List.mem_of_getLast? hr))))]; exact h.same b hb
theorem Nest.new (h : Nest M M' ra ca rs row css) {r : Addr} (hr : M' r = none) (xs : List D) : Nest M (mupd (mupd M' r (.lst xs)) ca (.lst (rs.map D.ref ++ [.ref r]))) ra ca (rs ++ [r]) row (css ++ [xs]) := by
  have n1 : r ≠ ra := fun e => by rw [e, h.row] at hr; cases hr
  have n2 : r ≠ ca := fun e => by rw [e, h.crs] at hr; cases hr
  have n3 : r ∉ rs := fun e => by
    obtain ⟨i, hi⟩ := List.getElem?_of_mem e
    have li := (List.getElem?_eq_some_iff.mp hi).1
    have := h.at_ i r _ hi (List.getElem?_eq_getElem (by rw [← h.len]; exact li))
    rw [this] at hr; cases hr
  refine ⟨?_, ?_, fun i s ys hs hy => ?_, ?_, ?_, fun b hb => ?_, fun b hb => ?_⟩
  · rw [mupd_ne h.ra_ne.1, mupd_ne (Ne.symm n1)]; exact h.row
  · rw [mupd_same, List.map_append]; rfl
  · have hsc : s ≠ ca := fun e => by
      have := List.mem_of_getElem? hs
      rcases List.mem_append.mp this with z | z
      · exact h.ra_ne.2.2 (by rw [← e]; exact z)
      · exact n2 (by rw [← e]; exact (List.mem_singleton.mp z).symm)
    rw [mupd_ne hsc]
    by_cases hi : i < rs.length
    · rw [List.getElem?_append_left hi] at hs
      rw [List.getElem?_append_left (by rw [← h.len]; exact hi)] at hy
      rw [mupd_ne (fun e => n3 (by rw [← e]; exact List.mem_of_getElem? hs))]
      exact h.at_ i s ys hs hy
    · rw [List.getElem?_append_right (by omega)] at hs
      rw [List.getElem?_append_right (by rw [← h.len]; omega), ← h.len] at hy
      have z := (List.getElem?_eq_some_iff.mp hs).1
      rw [List.length_singleton] at z
      have z0 : i - rs.length = 0 := by omega
      rw [z0] at hs hy
      cases hs; cases hy
      exact mupd_same
  · rw [List.length_append, List.length_append, h.len]; rfl
  · rw [List.nodup_cons, List.nodup_cons]
    refine ⟨fun e => ?_, fun e => ?_, ?_⟩
    · rcases List.mem_cons.mp e with e | e
      · exact h.ra_ne.1 e
      · rcases List.mem_append.mp e with e | e
        · exact h.ra_ne.2.1 e
        · exact n1 (List.mem_singleton.mp e).symm
    · rcases List.mem_append.mp e with e | e
      · exact h.ra_ne.2.2 e
      · exact n2 (List.mem_singleton.mp e).symm
    · rw [List.nodup_append]
      refine ⟨(List.nodup_cons.mp (List.nodup_cons.mp h.nd).2).2, by simp, fun a ha b hb => ?_⟩
      rw [List.mem_singleton] at hb
      exact fun e => n3 (by rw [← hb, ← e]; exact ha)
  · rcases List.mem_cons.mp hb with e | e
    · exact h.free b (by rw [e]; exact List.mem_cons_self)
    · rcases List.mem_cons.mp e with e | e
      · exact h.free b (by rw [e]; exact List.mem_cons_of_mem _ List.mem_cons_self)
      · rcases List.mem_append.mp e with e | e
        · exact h.free b (List.mem_cons_of_mem _ (List.mem_cons_of_mem _ e))
        · rw [List.mem_singleton] at e
          subst e
          rw [← h.same b (fun e => by
            rcases List.mem_cons.mp e with e | e
            · exact n1 e
            · rcases List.mem_cons.mp e with e | e
              · exact n2 e
              · exact n3 e)]
          exact hr
  · have b1 : b ≠ ca := fun e => hb (by rw [e]; exact List.mem_cons_of_mem _ List.mem_cons_self)
    have b2 : b ≠ r := fun e => hb (by rw [e]; exact List.mem_cons_of_mem _ (List.mem_cons_of_mem _ (List.mem_append_right _ (List.mem_singleton_self _))))
    rw [mupd_ne b1, mupd_ne b2]
    refine h.same b fun e => hb ?_
    rcases List.mem_cons.mp e with e | e
    · rw [e]; exact List.mem_cons_self
    · rcases List.mem_cons.mp e with e | e
      · rw [e]; exact List.mem_cons_of_mem _ List.mem_cons_self
      · exact List.mem_cons_of_mem _ (List.mem_cons_of_mem _ (List.mem_append_left _ e))
/-! ### all of it frozen -/
theorem thaws_keep : ∀ (M : Mp) (ds : List D), Thaws M ds ds M
  | M, [] => .nil M
  | M, d :: ds => .cons (.keep M d) (thaws_keep M ds)
def mdels (M : Mp) (rs : List Addr) : Mp := fun b => if b ∈ rs then none else M b
theorem thaws_refs : ∀ {M : Mp} {rs : List Addr} {css : List (List D)}, rs.Nodup → rs.length = css.length → (∀ (i : Nat) (r : Addr) (xs : List D), rs[i]? = some r → css[i]? = some xs → M r = some (.lst xs)) → Thaws M (rs.map D.ref) (css.map D.lst) (mdels M rs)
  | M, [], [], _, _, _ => by
    have : mdels M [] = M := by funext b; simp [mdels]
    rw [this]; exact .nil M
  | M, r :: rs, xs :: css, nd, hl, h => by
    rw [List.nodup_cons] at nd
    have h0 := h 0 r xs rfl rfl
    have t := thaws_refs (M := mdel M r) (rs := rs) (css := css) nd.2 (by simpa using hl) fun i s ys hs hy => by
      rw [mdel_ne (fun e => nd.1 (by rw [← e]; exact List.mem_of_getElem? hs))]
      exact h (i + 1) s ys hs hy
    have e : mdels (mdel M r) rs = mdels M (r :: rs) := by
      funext b
      unfold mdels
      by_cases hb : b = r
      · subst hb
        rw [if_neg nd.1, mdel_same, if_pos List.mem_cons_self]
      · by_cases hm : b ∈ rs
        · rw [if_pos hm, if_pos (List.mem_cons_of_mem _ hm)]
        · rw [if_neg hm, mdel_ne hb, if_neg (fun e => (List.mem_cons.mp e).elim hb hm)]
    rw [e] at t
    exact .cons (.lst h0 (thaws_keep _ _)) t
theorem Nest.thaws (h : Nest M M' ra ca rs row css) : Thaws M' [.ref ra, .ref ca] [.lst row, .lst (css.map D.lst)] M := by
  have nd := (List.nodup_cons.mp (List.nodup_cons.mp h.nd).2).2
  have t := thaws_refs (M := mdel (mdel M' ra) ca) (rs := rs) (css := css) nd h.len fun i r xs hr hx => by
    have hm := List.mem_of_getElem? hr
    rw [mdel_ne (fun e => h.ra_ne.2.2 (by rw [← e]; exact hm)), mdel_ne (fun e => h.ra_ne.2.1 (by rw [← e]; exact hm))]
    exact h.at_ i r xs hr hx
  have e : mdels (mdel (mdel M' ra) ca) rs = M := by
    funext b
    unfold mdels
    by_cases h1 : b ∈ rs
    · rw [if_pos h1, h.free b (List.mem_cons_of_mem _ (List.mem_cons_of_mem _ h1))]
    · rw [if_neg h1]
      by_cases h2 : b = ca
      · subst h2; rw [mdel_same, h.free b (List.mem_cons_of_mem _ List.mem_cons_self)]
      · rw [mdel_ne h2]
        by_cases h3 : b = ra
        · subst h3; rw [mdel_same, h.free b List.mem_cons_self]
        · rw [mdel_ne h3]
          exact h.same b fun e => by
            rcases List.mem_cons.mp e with e | e
            · exact h3 e
            · exact (List.mem_cons.mp e).elim h2 h1
  rw [e] at t
  exact .cons (.lst h.row (thaws_keep _ _)) (.cons (.lst (by rw [mdel_ne (Ne.symm h.ra_ne.1)]; exact h.crs) t) (.nil _))
end
end L3
set_option Elab.async false
set_option linter.all false
set_option maxRecDepth 100000
set_option maxHeartbeats 1000000
/-! L3: a scroll's steps, and its parts. -/
namespace L3
open PySem PySem.Spec PyProof.Rows L2
local macro_rules | `(tactic| walk_at "w") => `(tactic| conv => whnf)
/-- a step of a scroll: a sign, or another crew -/
inductive Spp where
  | sg (x : Str)
  | crew (ws : List Wr)
def sppD : Spp → D
  | .sg x => .str x
  | .crew ws => .lst (ws.map wrD)
structure Half where
  row : List Str
  css : List (List (List Wr))
def curOf (css : List (List (List Wr))) : List (List Wr) := (css.getLast?).getD []
def addS (h : Half) : Spp → Half
  | .sg x => ⟨h.row ++ [x], h.css ++ [[lastOf (curOf h.css)]]⟩
  | .crew ws => ⟨h.row, h.css.dropLast ++ [curOf h.css ++ [ws]]⟩
def halfOf (m : List Wr) (tr : List Spp) : Half := tr.foldl addS ⟨[], [[m]]⟩
theorem half_take {m : List Wr} {tr : List Spp} {i : Nat} {s : Spp} (h : tr[i]? = some s) : halfOf m (tr.take (i + 1)) = addS (halfOf m (tr.take i)) s := by
  unfold halfOf
  rw [List.take_add_one, h, Option.toList_some, List.foldl_append]; rfl
structure HalfOk (h : Half) (n : Nat) : Prop where
  len : h.css.length = h.row.length + 1
  row : h.row.length ≤ n
  ne : ∀ cs ∈ h.css, cs ≠ []
  thin : ∀ cs ∈ h.css, cs.length ≤ n + 1
theorem cur_mem {h : Half} {n : Nat} (o : HalfOk h n) : h.css.getLast? = some (curOf h.css) ∧ curOf h.css ∈ h.css := by
  unfold curOf
  cases e : h.css.getLast? with
  | none => rw [List.getLast?_eq_none_iff] at e; have := o.len; rw [e] at this; simp at this
  | some c => exact ⟨rfl, List.mem_of_getLast? e⟩
theorem HalfOk.add {h : Half} {n : Nat} (o : HalfOk h n) (s : Spp) : HalfOk (addS h s) (n + 1) := by
  have hp : 0 < h.css.length := by have := o.len; omega
  cases s with
  | sg x =>
    refine ⟨?_, ?_, fun cs hc => ?_, fun cs hc => ?_⟩
    · show (h.css ++ [[lastOf (curOf h.css)]]).length = (h.row ++ [x]).length + 1
      rw [List.length_append, List.length_append, o.len]; rfl
    · show (h.row ++ [x]).length ≤ n + 1
      rw [List.length_append, List.length_singleton]; have := o.row; omega
    · rcases List.mem_append.mp (show cs ∈ h.css ++ [[lastOf (curOf h.css)]] from hc) with hc | hc
      · exact o.ne cs hc
      · rw [List.mem_singleton] at hc; rw [hc]; simp
    · rcases List.mem_append.mp (show cs ∈ h.css ++ [[lastOf (curOf h.css)]] from hc) with hc | hc
      · have := o.thin cs hc; omega
      · rw [List.mem_singleton] at hc; rw [hc, List.length_singleton]; omega
  | crew ws =>
    refine ⟨?_, ?_, fun cs hc => ?_, fun cs hc => ?_⟩
    · show (h.css.dropLast ++ [curOf h.css ++ [ws]]).length = h.row.length + 1
      rw [List.length_append, List.length_dropLast, List.length_singleton, o.len]; omega
    · exact Nat.le_trans o.row (Nat.le_succ n)
    · rcases List.mem_append.mp (show cs ∈ h.css.dropLast ++ [curOf h.css ++ [ws]] from hc) with hc | hc
      · exact o.ne cs (List.dropLast_subset _ hc)
      · rw [List.mem_singleton] at hc; rw [hc]; simp
    · rcases List.mem_append.mp (show cs ∈ h.css.dropLast ++ [curOf h.css ++ [ws]] from hc) with hc | hc
      · have := o.thin cs (List.dropLast_subset _ hc); omega
      · rw [List.mem_singleton] at hc
        rw [hc, List.length_append, List.length_singleton]
        have := o.thin _ (cur_mem o).2
        omega
theorem half_ok (m : List Wr) : ∀ {tr : List Spp} {i : Nat}, i ≤ tr.length → HalfOk (halfOf m (tr.take i)) i
  | tr, 0, _ => ⟨rfl, Nat.le_refl _, fun cs hc => by rw [List.mem_singleton.mp (show cs ∈ [[m]] from hc)]; simp, fun cs hc => by rw [List.mem_singleton.mp (show cs ∈ [[m]] from hc)]; simp⟩
  | tr, i + 1, h => by
    rw [half_take (List.getElem?_eq_getElem (by omega : i < tr.length))]
    exact (half_ok m (by omega)).add _
def sp_company_in : SpD := fun ds M Q _ => ∃ d e ws, ds = [d, e] ∧ IsRow d (ws.map wrD) ∧ CrewOk ws ∧ Q (coD ws) M
def t_company_in : DS := (dRet (dFrz (dMake CCompany sp_Company___init__ [] (dCons (dVar 0) dNil))))
theorem r_company_in (ds : List D) (M : Mp) (Q : DK) (E : DX) (hl : ds.length = 2) (h : sp_company_in ds M Q E) : t_company_in { nx := fun _ M' => Q .non M', rt := Q } (startD ["step", "at"] ds) M := by
  obtain ⟨d, e, ws, rfl, hd, hok, q⟩ := h
  walk_at "w"
  intro p hp
  refine ⟨p, d, ws, rfl, hd, hok, mupd_same, rfl, ?_⟩
  rw [mupd_mupd]
  walk_at "w"
  rw [mupd_same]
  walk_at "w"
  rw [mdel_mupd hp]
  exact q
theorem resD_of {M : Mp} {q : Addr} {xs : List D} (h : M q = some (.lst xs)) : resD M (.ref q) = .lst xs := by
  show (match M q with | some (.lst ds) => D.lst ds | _ => D.ref q) = _
  rw [h]
end L3
set_option Elab.async false
set_option linter.all false
set_option maxRecDepth 100000
set_option maxHeartbeats 1000000
/-! L3: the law's parts of a scroll. -/
namespace L3
open PySem PySem.Spec PyProof.Rows L2
local macro_rules | `(tactic| walk_at "w") => `(tactic| conv => whnf)
def cssD (f : List Wr → D) (css : List (List (List Wr))) : List (List D) := css.map fun cs => cs.map f
theorem css_sg (f : List Wr → D) (h : Half) (x : Str) : cssD f (addS h (.sg x)).css = cssD f h.css ++ [[f (lastOf (curOf h.css))]] := by
  show (h.css ++ [[lastOf (curOf h.css)]]).map _ = _
  rw [List.map_append]; rfl
theorem css_crew (f : List Wr → D) (h : Half) (ws : List Wr) : cssD f (addS h (.crew ws)).css = (cssD f h.css).dropLast ++ [(curOf h.css).map f ++ [f ws]] := by
  show (h.css.dropLast ++ [curOf h.css ++ [ws]]).map _ = _
  rw [List.map_append, List.map_dropLast, List.map_cons, List.map_append]; rfl
theorem css_last {f : List Wr → D} {h : Half} {n : Nat} (o : HalfOk h n) : (cssD f h.css).getLast? = some ((curOf h.css).map f) := by
  unfold cssD
  rw [List.getLast?_map, (cur_mem o).1]; rfl
theorem mLst_of {M : Mp} {q : Addr} {ds : List D} {k : Addr → List D → Prop} (h : M q = some (.lst ds)) (hk : k q ds) : mLst M (.ref q) k := by
  show (match M q with
    | some (.lst ds) => k q ds
    | _ => False)
  rw [h]; exact hk
def wlD (ws : List Wr) : D := .lst (ws.map wrD)
def sp_law_parts : SpD := fun ds M Q _ => ∃ m tr, ds = [.lst (m.map wrD), .lst (tr.map sppD)] ∧ tr.length ≤ 30 ∧ ∀ ra ca M', Thaws M' [.ref ra, .ref ca] [.lst ((halfOf m tr).row.map D.str), .lst ((cssD wlD (halfOf m tr).css).map D.lst)] M → Q (.tup [.ref ra, .ref ca]) M'
def t_law_parts_1 : DS := (dRet (dTup (dCons (dVar 3) (dCons (dVar 4) dNil))))
def t_law_parts : DS := (dSeq (dPar 3 4 (dCons (dLstM dNil) (dCons (dLstM (dCons (dLstM (dCons (dUn rListD (dVar 0)) dNil)) dNil)) dNil)))
    (dSeq (dFor (iLst (dVar 1)) (.name 2) (dIfS (dTru (dIsi .str (dVar 2))) (dSeq (dDrop (dAppend (dVar 3) (dVar 2)))
    (dDrop (dAppend (dVar 4) (dLstM (dCons (dBin rIxD (dBin rIxD (dVar 4) (dUn rNegI (dC (.int 1)))) (dUn rNegI (dC (.int 1)))) dNil))))) (dDrop (dAppend (dBin rIxD (dVar 4) (dUn rNegI (dC (.int 1)))) (dUn rListD (dVar 2))))))
    t_law_parts_1))
theorem r_law_parts (ds : List D) (M : Mp) (Q : DK) (E : DX) (hl : ds.length = 2) (h : sp_law_parts ds M Q E) : t_law_parts { nx := fun _ M' => Q .non M', rt := Q } (startD ["_law_m", "_law_track", "_law_step", "_law_signs_here", "_law_crews"] ds) M := by
  obtain ⟨m, tr, rfl, hn, q⟩ := h
  walk_at "w"
  intro ra hra
  walk_at "w"
  intro r0 hr0
  have n1 : r0 ≠ ra := fun e => by rw [e, mupd_same] at hr0; cases hr0
  have hr0' : M r0 = none := by rw [mupd_ne n1] at hr0; exact hr0
  walk_at "w"
  intro ca hca
  have n2 : ca ≠ r0 := fun e => by rw [e, mupd_same] at hca; cases hca
  rw [mupd_ne n2] at hca
  have n3 : ca ≠ ra := fun e => by rw [e, mupd_same] at hca; cases hca
  have hca' : M ca = none := by rw [mupd_ne n3] at hca; exact hca
  walk_at "w"
  have N0 : Nest M (mupd (mupd (mupd M ra (.lst [])) r0 (.lst [.lst (m.map wrD)])) ca (.lst [.ref r0])) ra ca [r0] [] [[wlD m]] := by
    refine ⟨?_, mupd_same, fun i r xs h1 h2 => ?_, rfl, ?_, fun b hb => ?_, fun b hb => ?_⟩
    · rw [mupd_ne (Ne.symm n3), mupd_ne (Ne.symm n1), mupd_same]
    · cases i with
      | zero => cases h1; cases h2; rw [mupd_ne (Ne.symm n2), mupd_same]; rfl
      | succ i => cases h1
    · simp only [List.nodup_cons, List.mem_cons, List.not_mem_nil, or_false, not_or, not_false_eq_true, List.nodup_nil, and_true]
      exact ⟨⟨Ne.symm n3, Ne.symm n1⟩, n2⟩
    · simp only [List.mem_cons, List.not_mem_nil, or_false] at hb
      rcases hb with rfl | rfl | rfl
      · exact hra
      · exact hca'
      · exact hr0'
    · simp only [List.mem_cons, List.not_mem_nil, or_false, not_or] at hb
      rw [mupd_ne hb.2.1, mupd_ne hb.2.2, mupd_ne hb.1]
  refine for_inv (fun i env M' => ∃ rs e2, Nest M M' ra ca rs ((halfOf m (tr.take i)).row.map D.str) (cssD wlD (halfOf m (tr.take i)).css) ∧ i ≤ tr.length ∧ env = [some (.lst (m.map wrD)), some (.lst (tr.map sppD)), e2, some (.ref ra), some (.ref ca)]) ⟨[r0], _, N0, Nat.zero_le _, rfl⟩
    (fun i x env M' K hx ⟨rs, e2, N, hi, ee⟩ hK => ?_) fun env M' ⟨rs, e2, N, hi, ee⟩ => ?_
  · subst ee
    rw [List.getElem?_map] at hx
    obtain ⟨s, hs, rfl⟩ := Option.map_eq_some_iff.mp hx
    have li := (List.getElem?_eq_some_iff.mp hs).1
    have o := half_ok m hi
    have ht := half_take (m := m) hs
    obtain ⟨r, hr⟩ : ∃ r, rs.getLast? = some r := by
      cases e : rs.getLast? with
      | none =>
        rw [List.getLast?_eq_none_iff] at e
        have := N.len
        rw [e] at this
        unfold cssD at this
        rw [List.length_map, o.len] at this
        simp at this
      | some r => exact ⟨r, rfl⟩
    have hc := css_last (f := wlD) o
    have hMr : M' r = some (.lst ((curOf (halfOf m (tr.take i)).css).map wlD)) := by
      rw [List.getLast?_eq_getElem?] at hr hc
      exact N.at_ _ _ _ hr (by rw [N.len]; exact hc)
    have hcl := (o.thin _ (cur_mem o).2)
    cases s with
    | sg x =>
      have N2 := N.push_row (sppD (.sg x))
      have hr2 : mupd M' ra (.lst ((halfOf m (tr.take i)).row.map D.str ++ [sppD (.sg x)])) r = some (.lst ((curOf (halfOf m (tr.take i)).css).map wlD)) := by
        rw [mupd_ne (fun e => N.ra_ne.2.1 (by rw [← e]; exact List.mem_of_getLast? hr))]; exact hMr
      walk_at "w"
      refine ⟨mLst_of N.row trivial, ?_⟩
      walk_at "w"
      rw [N.row]
      refine ⟨by rw [sizeLine_eq, List.length_map]; have := o.row; omega, ?_⟩
      generalize mupd M' ra (.lst ((halfOf m (tr.take i)).row.map D.str ++ [sppD (.sg x)])) = M2 at N2 hr2
      walk_at "w"
      refine ⟨mLst_of N2.crs trivial, ?_⟩
      walk_at "w"
      rw [resD_of N2.crs]
      walk_at "w"
      rw [atI_end (x := .ref r) (by rw [List.getLast?_map, hr]; rfl)]
      walk_at "w"
      rw [resD_of hr2]
      walk_at "w"
      rw [atI_last (last_of (o.ne _ (cur_mem o).2))]
      walk_at "w"
      intro r' hr'
      have N3 := N2.new hr' [wlD (lastOf (curOf (halfOf m (tr.take i)).css))]
      have nca : ca ≠ r' := fun e => by rw [← e, N2.crs] at hr'; cases hr'
      walk_at "w"
      rw [mupd_ne nca, N2.crs]
      refine ⟨by rw [sizeLine_eq, List.length_map, N2.len]; unfold cssD; rw [List.length_map, o.len]; have := o.row; omega, ?_⟩
      refine hK _ _ ⟨rs ++ [r'], _, ?_, by omega, rfl⟩
      rw [ht, css_sg]
      show Nest _ _ _ _ _ (((halfOf m (tr.take i)).row ++ [x]).map D.str) _
      rw [List.map_append]
      exact N3
    | crew ws =>
      walk_at "w"
      rw [resD_of N.crs]
      walk_at "w"
      rw [atI_end (x := .ref r) (by rw [List.getLast?_map, hr]; rfl)]
      walk_at "w"
      refine ⟨mLst_of hMr trivial, ?_⟩
      walk_at "w"
      rw [hMr]
      refine ⟨by rw [sizeLine_eq, List.length_map]; omega, ?_⟩
      refine hK _ _ ⟨rs, _, ?_, by omega, rfl⟩
      rw [ht, css_crew]
      exact N.push_last hr hc (wlD ws)
  · subst ee
    rw [List.length_map, List.take_length] at N
    walk_at "w"
    exact q ra ca M' N.thaws
end L3
set_option Elab.async false
set_option linter.all false
set_option maxRecDepth 100000
set_option maxHeartbeats 1000000
/-! L3: a step added to a scroll. -/
namespace L3
open PySem PySem.Spec PyProof.Rows L2
local macro_rules | `(tactic| walk_at "w") => `(tactic| conv => whnf)
theorem resI_of {M : Mp} {q : Addr} {c : Cl} {ds : List D} (h : M q = some (.ins c ds)) : resI M (.ref q) = some (c, ds) := by
  unfold resI; simp only [h]
def SppOk : Spp → Prop
  | .sg x => ∃ c, x = ⟨#[c]⟩ ∧ isLetter c = true
  | .crew ws => CrewOk ws
def sp_Scroll_add_step : SpD := fun ds M Q _ => ∃ p e s B ra ca rs h n, ds = [.ref p, sppD s, e] ∧ SppOk s ∧ HalfOk h n ∧ n ≤ 40 ∧ B p = some (.ins CScroll [.ref ra, .ref ca]) ∧ Nest B M ra ca rs (h.row.map D.str) (cssD coD h.css) ∧
  ∀ M' rs', Nest B M' ra ca rs' ((addS h s).row.map D.str) (cssD coD (addS h s).css) → Q .non M'
def t_Scroll_add_step : DS := (dIfS (dNot (dTru (dIsi .str (dVar 1)))) (dDrop (dAppend (dBin rIxD (dFld CScroll 1 (dVar 0)) (dUn rNegI (dC (.int 1)))) (dCall sp_company_in (dCons (dVar 1) (dCons (dVar 2) dNil))))) (dIfS (dTru (dCall sp_is_sign (dCons (dVar 1) dNil))) (dSeq (dDrop (dAppend (dFld CScroll 0 (dVar 0)) (dVar 1)))
    (dDrop (dAppend (dFld CScroll 1 (dVar 0)) (dLstM (dCons (dBin rIxD (dBin rIxD (dFld CScroll 1 (dVar 0)) (dUn rNegI (dC (.int 1)))) (dUn rNegI (dC (.int 1)))) dNil))))) dNever))
theorem r_Scroll_add_step (ds : List D) (M : Mp) (Q : DK) (E : DX) (hl : ds.length = 3) (hh : sp_Scroll_add_step ds M Q E) : t_Scroll_add_step { nx := fun _ M' => Q .non M', rt := Q } (startD ["self", "step", "at"] ds) M := by
  obtain ⟨p, e, s, B, ra, ca, rs, h, n, rfl, hs, o, hn, hB, N, q⟩ := hh
  have free : ∀ {M' rs' r c}, Nest B M' ra ca rs' r c → M' p = some (.ins CScroll [.ref ra, .ref ca]) := fun N' => by
    rw [N'.same p (fun z => by rw [N'.free p z] at hB; cases hB)]; exact hB
  have hp := free N
  obtain ⟨r, hr⟩ : ∃ r, rs.getLast? = some r := by
    cases e : rs.getLast? with
    | none =>
      rw [List.getLast?_eq_none_iff] at e
      have := N.len
      rw [e] at this
      unfold cssD at this
      rw [List.length_map, o.len] at this
      simp at this
    | some r => exact ⟨r, rfl⟩
  have hc := css_last (f := coD) o
  have hMr : M r = some (.lst ((curOf h.css).map coD)) := by
    rw [List.getLast?_eq_getElem?] at hr hc
    exact N.at_ _ _ _ hr (by rw [N.len]; exact hc)
  have hcl := (o.thin _ (cur_mem o).2)
  cases s with
  | crew ws =>
    walk_at "w"
    rw [resI_of hp]
    walk_at "w"
    refine ⟨rfl, ?_⟩
    walk_at "w"
    rw [resD_of N.crs]
    walk_at "w"
    rw [atI_end (x := .ref r) (by rw [List.getLast?_map, hr]; rfl)]
    walk_at "w"
    refine ⟨mLst_of hMr trivial, ?_⟩
    walk_at "w"
    refine ⟨_, e, ws, rfl, .inl rfl, hs, ?_⟩
    walk_at "w"
    rw [hMr]
    refine ⟨by rw [sizeLine_eq, List.length_map]; omega, ?_⟩
    refine q _ rs ?_
    rw [css_crew]
    exact N.push_last hr hc (coD ws)
  | sg x =>
    have N2 := N.push_row (sppD (.sg x))
    have hr2 : mupd M ra (.lst (h.row.map D.str ++ [sppD (.sg x)])) r = some (.lst ((curOf h.css).map coD)) := by
      rw [mupd_ne (fun e => N.ra_ne.2.1 (by rw [← e]; exact List.mem_of_getLast? hr))]; exact hMr
    have hp2 := free N2
    have hx : isSign x = true := by obtain ⟨c, rfl, hc⟩ := hs; rw [isSign_one]; exact hc
    walk_at "w"
    refine ⟨x, rfl, ?_⟩
    rw [hx]
    walk_at "w"
    rw [resI_of hp]
    walk_at "w"
    refine ⟨rfl, ?_⟩
    walk_at "w"
    refine ⟨mLst_of N.row trivial, ?_⟩
    walk_at "w"
    rw [N.row]
    refine ⟨by rw [sizeLine_eq, List.length_map]; have := o.row; omega, ?_⟩
    generalize mupd M ra (.lst (h.row.map D.str ++ [sppD (.sg x)])) = M2 at N2 hr2 hp2
    walk_at "w"
    rw [resI_of hp2]
    walk_at "w"
    refine ⟨rfl, ?_⟩
    walk_at "w"
    refine ⟨mLst_of N2.crs trivial, ?_⟩
    walk_at "w"
    rw [resI_of hp2]
    walk_at "w"
    refine ⟨rfl, ?_⟩
    walk_at "w"
    rw [resD_of N2.crs]
    walk_at "w"
    rw [atI_end (x := .ref r) (by rw [List.getLast?_map, hr]; rfl)]
    walk_at "w"
    rw [resD_of hr2]
    walk_at "w"
    rw [atI_last (last_of (o.ne _ (cur_mem o).2))]
    walk_at "w"
    intro r' hr'
    have N3 := N2.new hr' [coD (lastOf (curOf h.css))]
    have nca : ca ≠ r' := fun e => by rw [← e, N2.crs] at hr'; cases hr'
    walk_at "w"
    rw [mupd_ne nca, N2.crs]
    refine ⟨by rw [sizeLine_eq, List.length_map, N2.len]; unfold cssD; rw [List.length_map, o.len]; have := o.row; omega, ?_⟩
    refine q _ (rs ++ [r']) ?_
    rw [css_sg]
    show Nest _ _ _ _ _ ((h.row ++ [x]).map D.str) _
    rw [List.map_append]
    exact N3
end L3
set_option Elab.async false
set_option linter.all false
set_option maxRecDepth 100000
set_option maxHeartbeats 1000000
/-! L3: a scroll made. -/
namespace L3
open PySem PySem.Spec PyProof.Rows L2
local macro_rules | `(tactic| walk_at "w") => `(tactic| conv => whnf)
def scOf (m : List Wr) (tr : List Spp) (tk : List Tk) : Sc := ⟨(halfOf m tr).row, (halfOf m tr).css, tk⟩
def sp_Scroll___init__ : SpD := fun ds M Q _ => ∃ p m d d2, ∃ tr : List Spp, ∃ tk : List Tk, ds = [.ref p, coD m, d, d2] ∧ IsRow d (tr.map sppD) ∧ IsRow d2 (tk.map tkD) ∧ tr.length ≤ 30 ∧ (∀ s ∈ tr, SppOk s) ∧
  (∀ t ∈ tk, 0 ≤ t.at_ ∧ t.at_ < ((halfOf m tr).row.length : Int) ∧ isName t.name = true) ∧ M p = some (.ins CScroll []) ∧ ∀ M', Thaw M' (.ref p) (scD (scOf m tr tk)) (mdel M p) → Q .non M'
def t_Scroll___init___1 : DS := (dSetFld CScroll 2 (dLc (iSeq (dVar 3)) (.tup [(.name 6), (.name 7), (.name 8)]) dYes (dTup (dCons (dVar 6) (dCons (dVar 7) (dCons (dVar 8) dNil)))) [6, 7, 8]) (dVar 0))
def t_Scroll___init___2 : DS := (dSeq (dFor (iEnumA (dCons (dVar 3) dNil)) (.tup [(.name 4), (.tup [(.name 6), (.name 7), (.name 8)])]) (dIfS (dOr (dNot (dTest (dChain rLeI rLtI (dC (.int 0)) (dVar 6) (dUn rLenD (dFld CScroll 0 (dVar 0)))))) (dNot (dTru (dCall sp_is_name (dCons (dVar 7) dNil))))) dNever dNext))
    t_Scroll___init___1)
def t_Scroll___init__ : DS := (dSeq (dSetFld CScroll 0 (dLstM dNil) (dVar 0))
    (dSeq (dSetFld CScroll 1 (dLstM (dCons (dLstM (dCons (dVar 1) dNil)) dNil)) (dVar 0))
    (dSeq (dFor (iEnumA (dCons (dVar 2) dNil)) (.tup [(.name 4), (.name 5)]) (dDrop (dMeth CScroll sp_Scroll_add_step (dVar 0) (dCons (dVar 5) (dCons (dVar 4) dNil)))))
    t_Scroll___init___2)))
theorem Nest.start {B M' : Mp} {ra ca r0 : Addr} {xs : List D} (h1 : M' ra = some (.lst [])) (h2 : M' ca = some (.lst [.ref r0])) (h3 : M' r0 = some (.lst xs)) (n1 : ra ≠ ca) (n2 : ra ≠ r0) (n3 : ca ≠ r0) (f1 : B ra = none) (f2 : B ca = none) (f3 : B r0 = none) (s : ∀ b, b ≠ ra → b ≠ ca → b ≠ r0 → M' b = B b) : Nest B M' ra ca [r0] [] [xs] where
  row := h1
  crs := h2
  at_ := fun i r ys hr hy => by
    cases i with
    | zero => rw [← Option.some.inj (show some r0 = some r from hr), ← Option.some.inj (show some xs = some ys from hy)]; exact h3
    | succ i => exact nomatch (show (none : Option Addr) = some r from hr)
  len := rfl
  nd := by
    simp only [List.nodup_cons, List.mem_cons, List.not_mem_nil, or_false, not_or, not_false_eq_true, List.nodup_nil, and_true]
    exact ⟨⟨n1, n2⟩, n3⟩
  free := fun b hb => by
    simp only [List.mem_cons, List.not_mem_nil, or_false] at hb
    rcases hb with e | e | e
    · rw [e]; exact f1
    · rw [e]; exact f2
    · rw [e]; exact f3
  same := fun b hb => by
    simp only [List.mem_cons, List.not_mem_nil, or_false, not_or] at hb
    exact s b hb.1 hb.2.1 hb.2.2
theorem Nest.del {B M' : Mp} {ra ca p : Addr} {rs : List Addr} {row : List D} {css : List (List D)} (h : Nest B M' ra ca rs row css) (hp : p ∉ ra :: ca :: rs) : Nest (mdel B p) (mdel M' p) ra ca rs row css where
  row := by rw [mdel_ne (fun e => hp (by rw [← e]; exact List.mem_cons_self))]; exact h.row
  crs := by rw [mdel_ne (fun e => hp (by rw [← e]; exact List.mem_cons_of_mem _ List.mem_cons_self))]; exact h.crs
  at_ := fun i r xs hr hx => by rw [mdel_ne (fun e => hp (by rw [← e]; exact List.mem_cons_of_mem _ (List.mem_cons_of_mem _ (List.mem_of_getElem? hr))))]; exact h.at_ i r xs hr hx
  len := h.len
  nd := h.nd
  free := fun b hb => by rw [mdel_ne (fun e => hp (by rw [← e]; exact hb))]; exact h.free b hb
  same := fun b hb => by
    by_cases e : b = p
    · rw [e, mdel_same, mdel_same]
    · rw [mdel_ne e, mdel_ne e]; exact h.same b hb
theorem thaws_app : ∀ {M M1 M2 : Mp} {ds ds' es es' : List D}, Thaws M ds ds' M1 → Thaws M1 es es' M2 → Thaws M (ds ++ es) (ds' ++ es') M2
  | _, _, _, _, _, _, _, .nil _, h => h
  | _, _, _, _, _, _, _, .cons t1 t2, h => .cons t1 (thaws_app t2 h)
theorem mdel_mupd_any {M : Mp} {p : Addr} {o : MO} : mdel (mupd M p o) p = mdel M p := by
  funext b
  by_cases e : b = p
  · rw [e, mdel_same, mdel_same]
  · rw [mdel_ne e, mdel_ne e, mupd_ne e]
theorem r_Scroll___init__ (ds : List D) (M : Mp) (Q : DK) (E : DX) (hl : ds.length = 4) (hh : sp_Scroll___init__ ds M Q E) : t_Scroll___init__ { nx := fun _ M' => Q .non M', rt := Q } (startD ["self", "company", "steps", "said", "at", "step", "sign", "name", "so"] ds) M := by
  obtain ⟨p, m, d, d2, tr, tk, eds, hd, hd2, hn, hs, ht, hp, q⟩ := hh
  subst eds
  walk_at "w"
  intro ra hra
  have npa : p ≠ ra := fun e => by rw [e, hra] at hp; cases hp
  walk_at "w"
  rw [mupd_ne npa, hp]
  refine ⟨⟨rfl, Nat.zero_le _⟩, ?_⟩
  walk_at "w"
  intro r0 hr0
  have n0p : r0 ≠ p := fun e => by rw [e, mupd_same] at hr0; cases hr0
  rw [mupd_ne n0p] at hr0
  have n0a : r0 ≠ ra := fun e => by rw [e, mupd_same] at hr0; cases hr0
  rw [mupd_ne n0a] at hr0
  walk_at "w"
  intro ca hca
  have nc0 : ca ≠ r0 := fun e => by rw [e, mupd_same] at hca; cases hca
  rw [mupd_ne nc0] at hca
  have ncp : ca ≠ p := fun e => by rw [e, mupd_same] at hca; cases hca
  rw [mupd_ne ncp] at hca
  have nca : ca ≠ ra := fun e => by rw [e, mupd_same] at hca; cases hca
  rw [mupd_ne nca] at hca
  walk_at "w"
  rw [mupd_ne (Ne.symm ncp), mupd_ne (Ne.symm n0p), mupd_same]
  refine ⟨⟨rfl, Nat.le_refl 1⟩, ?_⟩
  walk_at "w"
  rw [show seqOf d = some (tr.map sppD) from hd.seq]
  walk_at "w"
  have N0 : Nest (mupd M p (.ins CScroll [.ref ra, .ref ca])) (mupd (mupd (mupd (mupd (mupd M ra (.lst [])) p (.ins CScroll (putL [] 0 (.ref ra)))) r0 (.lst [coD m])) ca (.lst [.ref r0])) p (.ins CScroll (putL (putL [] 0 (.ref ra)) 1 (.ref ca)))) ra ca [r0] [] [[coD m]] := by
    refine Nest.start ?_ ?_ ?_ (Ne.symm nca) (Ne.symm n0a) nc0 ?_ ?_ ?_ fun b h1 h2 h3 => ?_
    · rw [mupd_ne (Ne.symm npa), mupd_ne (Ne.symm nca), mupd_ne (Ne.symm n0a), mupd_ne (Ne.symm npa), mupd_same]
    · rw [mupd_ne ncp, mupd_same]
    · rw [mupd_ne n0p, mupd_ne (Ne.symm nc0), mupd_same]
    · rw [mupd_ne (Ne.symm npa)]; exact hra
    · rw [mupd_ne ncp]; exact hca
    · rw [mupd_ne n0p]; exact hr0
    · by_cases hb : b = p
      · rw [hb, mupd_same, mupd_same]; rfl
      · rw [mupd_ne hb, mupd_ne h2, mupd_ne h3, mupd_ne hb, mupd_ne h1, mupd_ne hb]
  refine for_inv (fun i env M' => ∃ rs e4 e5, Nest (mupd M p (.ins CScroll [.ref ra, .ref ca])) M' ra ca rs ((halfOf m (tr.take i)).row.map D.str) (cssD coD (halfOf m (tr.take i)).css) ∧ i ≤ tr.length ∧ env = [some (.ref p), some (coD m), some d, some d2, e4, e5, none, none, none]) ⟨[r0], _, _, N0, Nat.zero_le _, rfl⟩
    (fun i x env M' K hx ⟨rs, e4, e5, N, hi, ee⟩ hK => ?_) fun env M' ⟨rs, e4, e5, N, hi, ee⟩ => ?_
  · subst ee
    obtain ⟨g, hg, rfl⟩ := pairs_at hx
    rw [List.getElem?_map] at hg
    obtain ⟨s, hst, rfl⟩ := Option.map_eq_some_iff.mp hg
    have li := (List.getElem?_eq_some_iff.mp hst).1
    have o := half_ok m hi
    have ht2 := half_take (m := m) hst
    have hpp : M' p = some (.ins CScroll [.ref ra, .ref ca]) := by
      rw [N.same p (fun z => by have := N.free p z; rw [mupd_same] at this; cases this), mupd_same]
    walk_at "w"
    rw [resI_of hpp]
    refine ⟨rfl, ?_⟩
    walk_at "w"
    refine ⟨p, _, s, _, ra, ca, rs, _, i, rfl, hs s (List.mem_of_getElem? hst), o, by omega, mupd_same, N, fun M2 rs' N' => ?_⟩
    refine hK _ _ ⟨rs', _, _, ?_, by omega, rfl⟩
    rw [ht2]; exact N'
  · subst ee
    have el : (pairs (tr.map sppD)).length = tr.length := by simp [pairs]
    rw [el, List.take_length] at N
    have hpp : M' p = some (.ins CScroll [.ref ra, .ref ca]) := by
      rw [N.same p (fun z => by have := N.free p z; rw [mupd_same] at this; cases this), mupd_same]
    walk_at "w"
    rw [show seqOf d2 = some (tk.map tkD) from hd2.seq]
    walk_at "w"
    refine for_inv (fun i env M2 => M2 = M' ∧ ∃ e4 e5 e6 e7 e8, env = [some (.ref p), some (coD m), some d, some d2, e4, e5, e6, e7, e8]) ⟨rfl, _, _, _, _, _, rfl⟩
      (fun i x env M2 K hx ⟨eM, e4, e5, e6, e7, e8, ee⟩ hK => ?_) fun env M2 ⟨eM, e4, e5, e6, e7, e8, ee⟩ => ?_
    · subst eM ee
      obtain ⟨g, hg, rfl⟩ := pairs_at hx
      rw [List.getElem?_map] at hg
      obtain ⟨t, hst, rfl⟩ := Option.map_eq_some_iff.mp hg
      obtain ⟨t0, t1, t2⟩ := ht t (List.mem_of_getElem? hst)
      walk_at "w"
      rw [decide_eq_true t0]
      walk_at "w"
      rw [resI_of hpp]
      walk_at "w"
      refine ⟨rfl, ?_⟩
      walk_at "w"
      rw [resD_of N.row]
      walk_at "w"
      rw [List.length_map, decide_eq_true t1]
      walk_at "w"
      refine ⟨t.name, rfl, ?_⟩
      rw [t2]
      exact hK _ _ ⟨rfl, _, _, _, _, _, rfl⟩
    · subst eM ee
      walk_at "w"
      rw [show seqOf d2 = some (tk.map tkD) from hd2.seq]
      refine lc_map id (fun x hx K1 K2 h1 => ?_) ?_
      · obtain ⟨t, _, rfl⟩ := List.mem_map.mp hx
        exact h1
      · rw [List.map_id]
        walk_at "w"
        rw [hpp]
        refine ⟨⟨rfl, Nat.le_refl 2⟩, ?_⟩
        refine q _ ?_
        refine Thaw.ins (ds := [.ref ra, .ref ca, .lst (tk.map tkD)]) mupd_same ?_
        rw [mdel_mupd_any]
        have z := (N.del (p := p) (fun z => by have := N.free p z; rw [mupd_same] at this; cases this)).thaws
        rw [mdel_mupd_any] at z
        have z2 := thaws_app z (thaws_keep (mdel M p) [.lst (tk.map tkD)])
        have ec : (cssD coD (halfOf m tr).css).map D.lst = (halfOf m tr).css.map fun cs => D.lst (cs.map coD) := by unfold cssD; rw [List.map_map]; rfl
        rw [ec] at z2
        exact z2
end L3
set_option Elab.async false
set_option linter.all false
set_option maxRecDepth 100000
set_option maxHeartbeats 1000000
/-! L3: the law's scroll made. -/
namespace L3
open PySem PySem.Spec PyProof.Rows L2
local macro_rules | `(tactic| walk_at "w") => `(tactic| conv => whnf)
def dwD (m : List Wr) (tr : List Spp) (tk : List Tk) : D := .tup [.lst (m.map wrD), .lst (tr.map sppD), .lst (tk.map tkD), ptD (scOf m tr tk)]
structure DwOk (m : List Wr) (tr : List Spp) (tk : List Tk) : Prop where
  crew : CrewOk m
  few : tr.length ≤ 30
  ok : ∀ s ∈ tr, SppOk s
  tk : ∀ t ∈ tk, 0 ≤ t.at_ ∧ t.at_ < ((halfOf m tr).row.length : Int) ∧ isName t.name = true
def sp_law_made : SpD := fun ds M Q _ => ∃ m tr tk, ds = [dwD m tr tk] ∧ DwOk m tr tk ∧ ∀ p M', Thaw M' (.ref p) (scD (scOf m tr tk)) M → Q (.ref p) M'
def t_law_made : DS := (dRet (dMakeK CScroll sp_Scroll___init__ (fun (ds es : List D) => ds ++ es) (dCons (dFrz (dMake CCompany sp_Company___init__ [] (dCons (dBin rIxD (dVar 0) (dC (.int 0))) dNil))) dNil) (dCons (dUn rListD (dBin rIxD (dVar 0) (dC (.int 1)))) (dCons (dUn rListD (dBin rIxD (dVar 0) (dC (.int 2)))) dNil))))
theorem r_law_made (ds : List D) (M : Mp) (Q : DK) (E : DX) (hl : ds.length = 1) (h : sp_law_made ds M Q E) : t_law_made { nx := fun _ M' => Q .non M', rt := Q } (startD ["_law_drawn"] ds) M := by
  obtain ⟨m, tr, tk, rfl, ok, q⟩ := h
  walk_at "w"
  intro p0 hp0
  refine ⟨p0, _, m, rfl, .inl rfl, ok.crew, mupd_same, rfl, ?_⟩
  rw [mupd_mupd]
  walk_at "w"
  rw [mupd_same]
  walk_at "w"
  rw [mdel_mupd hp0]
  intro p hp
  refine ⟨p, m, _, _, tr, tk, rfl, .inl rfl, .inl rfl, ok.few, ok.ok, ok.tk, mupd_same, fun M' th => ⟨rfl, ?_⟩⟩
  rw [mdel_mupd hp] at th
  exact q p M' th
end L3
set_option Elab.async false
set_option linter.all false
set_option maxRecDepth 100000
set_option maxHeartbeats 1000000
/-! L3: a drawn scroll is one. -/
namespace L3
open PySem PySem.Spec PyProof.Rows L2
structure HalfGood (h : Half) : Prop where
  crew : ∀ cs ∈ h.css, ∀ ws ∈ cs, CrewOk ws
  on : ∀ (i : Nat) (a b : List (List Wr)), h.css[i]? = some a → h.css[i + 1]? = some b → b.head? = some (lastOf a)
  sg : ∀ x ∈ h.row, ∃ c, x = ⟨#[c]⟩ ∧ isLetter c = true
theorem cur_eq {h : Half} {n : Nat} (o : HalfOk h n) : h.css[h.css.length - 1]? = some (curOf h.css) := by
  rw [← List.getLast?_eq_getElem?]; exact (cur_mem o).1
theorem HalfGood.add {h : Half} {n : Nat} (o : HalfOk h n) (g : HalfGood h) {s : Spp} (hs : SppOk s) : HalfGood (addS h s) := by
  have hp : 0 < h.css.length := by have := o.len; omega
  have hne := o.ne _ (cur_mem o).2
  cases s with
  | sg x =>
    refine ⟨fun cs hc ws hw => ?_, fun i a b ha hb => ?_, fun y hy => ?_⟩
    · rcases List.mem_append.mp (show cs ∈ h.css ++ [[lastOf (curOf h.css)]] from hc) with hc | hc
      · exact g.crew cs hc ws hw
      · rw [List.mem_singleton] at hc
        rw [hc, List.mem_singleton] at hw
        rw [hw]
        exact g.crew _ (cur_mem o).2 _ (List.mem_of_getLast? (last_of hne))
    · have ha' : (h.css ++ [[lastOf (curOf h.css)]])[i]? = some a := ha
      have hb' : (h.css ++ [[lastOf (curOf h.css)]])[i + 1]? = some b := hb
      by_cases hi : i + 1 < h.css.length
      · rw [List.getElem?_append_left (by omega)] at ha'
        rw [List.getElem?_append_left hi] at hb'
        exact g.on i a b ha' hb'
      · rw [List.getElem?_append_right (by omega)] at hb'
        have z := (List.getElem?_eq_some_iff.mp hb').1
        rw [List.length_singleton] at z
        have z0 : i + 1 - h.css.length = 0 := by omega
        rw [z0] at hb'
        have ei : i = h.css.length - 1 := by omega
        rw [List.getElem?_append_left (by omega), ei, cur_eq o] at ha'
        rw [← Option.some.inj ha', ← Option.some.inj (show some [lastOf (curOf h.css)] = some b from hb')]
        rfl
    · rcases List.mem_append.mp (show y ∈ h.row ++ [x] from hy) with hy | hy
      · exact g.sg y hy
      · rw [List.mem_singleton] at hy; rw [hy]; exact hs
  | crew ws =>
    refine ⟨fun cs hc vs hw => ?_, fun i a b ha hb => ?_, g.sg⟩
    · rcases List.mem_append.mp (show cs ∈ h.css.dropLast ++ [curOf h.css ++ [ws]] from hc) with hc | hc
      · exact g.crew cs (List.dropLast_subset _ hc) vs hw
      · rw [List.mem_singleton] at hc
        rw [hc] at hw
        rcases List.mem_append.mp hw with hw | hw
        · exact g.crew _ (cur_mem o).2 _ hw
        · rw [List.mem_singleton] at hw; rw [hw]; exact hs
    · have ha' : (h.css.dropLast ++ [curOf h.css ++ [ws]])[i]? = some a := ha
      have hb' : (h.css.dropLast ++ [curOf h.css ++ [ws]])[i + 1]? = some b := hb
      have lb := (List.getElem?_eq_some_iff.mp hb').1
      rw [List.length_append, List.length_dropLast, List.length_singleton] at lb
      rw [List.getElem?_append_left (by rw [List.length_dropLast]; omega), List.dropLast_eq_take, List.getElem?_take, if_pos (by omega)] at ha'
      by_cases hi : i + 1 < h.css.length - 1
      · rw [List.getElem?_append_left (by rw [List.length_dropLast]; omega), List.dropLast_eq_take, List.getElem?_take, if_pos (by omega)] at hb'
        exact g.on i a b ha' hb'
      · rw [List.getElem?_append_right (by rw [List.length_dropLast]; omega), List.length_dropLast, show i + 1 - (h.css.length - 1) = 0 by omega] at hb'
        have z := g.on i a _ ha' (by rw [show i + 1 = h.css.length - 1 by omega]; exact cur_eq o)
        rw [← Option.some.inj (show some (curOf h.css ++ [ws]) = some b from hb')]
        cases e : curOf h.css with
        | nil => exact absurd e hne
        | cons c cs => rw [e] at z; exact z
theorem half_good {m : List Wr} (hm : CrewOk m) {tr : List Spp} (ht : ∀ s ∈ tr, SppOk s) : ∀ {i : Nat}, i ≤ tr.length → HalfGood (halfOf m (tr.take i))
  | 0, _ => ⟨fun cs hc ws hw => by rw [List.mem_singleton.mp (show cs ∈ [[m]] from hc), List.mem_singleton] at hw; rw [hw]; exact hm, fun i a b ha hb => (nomatch (show (none : Option (List (List Wr))) = some b from hb)), fun x hx => (nomatch (show x ∈ ([] : List Str) from hx))⟩
  | i + 1, h => by
    have e := List.getElem?_eq_getElem (by omega : i < tr.length)
    rw [half_take e]
    exact (half_good hm ht (by omega)).add (half_ok m (by omega)) (ht _ (List.mem_of_getElem? e))
theorem sc_ok {m : List Wr} {tr : List Spp} {tk : List Tk} (ok : DwOk m tr tk) (hk : tk.length ≤ 60) : ScOk (scOf m tr tk) := by
  have o := half_ok m (Nat.le_refl tr.length)
  have g := half_good ok.crew ok.ok (Nat.le_refl tr.length)
  rw [List.take_length] at o g
  have hf := ok.few
  exact ⟨o.len, o.ne, g.crew, g.on, Nat.le_trans o.row hf, fun cs hc => by have := o.thin cs hc; omega, g.sg, fun t ht => ok.tk t ht, hk⟩
end L3
set_option Elab.async false
set_option linter.all false
set_option maxRecDepth 100000
set_option maxHeartbeats 1000000
/-! L3: confessions drawn. -/
namespace L3
open PySem PySem.Spec PyProof.Rows L2
local macro_rules | `(tactic| walk_at "w") => `(tactic| conv => whnf)
def sp_law_said_drawn : SpD := fun ds M Q _ => ∃ p b many lim, ∃ ns : List Str, ds = [.ref p, .int many, .lst (ns.map D.str), .int lim] ∧ M p = some (.lst (Bag.l b)) ∧ b.Ok ∧ 0 ≤ many ∧ many ≤ 1000 ∧ 0 ≤ lim ∧ lim ≤ 50 ∧ ns.length ≤ 100 ∧ (∀ x ∈ ns, isName x = true) ∧
  ∀ (tk : List Tk) b', Bag.Ok b' → (tk.length : Int) ≤ lim → (∀ t ∈ tk, 0 ≤ t.at_ ∧ t.at_ < many ∧ isName t.name = true) → Q (.lst (tk.map tkD)) (mupd M p (.lst b'.l))
def t_law_said_drawn_1 : DS := (dFrzN 4 (dRet (dVar 4)))
def t_law_said_drawn : DS := (dSeq (dSet 4 (dLstM dNil))
    (dSeq (dFor (iRange1 (dCons (dBin rMulD (dCall sp_law_pull (dCons (dVar 0) (dCons (dBin rAddD (dVar 3) (dC (.int 1))) dNil))) (dUn rIntB (dBin rGtI (dVar 1) (dC (.int 0))))) dNil)) (.name 5) (dSeq (dSet 6 (dCall sp_law_of (dCons (dVar 0) (dCons (dBin rAddD (dVar 2) (dLst (dCons (dSl (dC (.str "nobody")) dNoPart (dPart (dBin rAddD (dC (.int 1)) (dCall sp_law_pull (dCons (dVar 0) (dCons (dC (.int 6)) dNil)))))) dNil))) dNil))))
    (dDrop (dAppend (dVar 4) (dTup (dCons (dCall sp_law_pull (dCons (dVar 0) (dCons (dVar 1) dNil))) (dCons (dVar 6) (dCons (dBin (rEqDD id) (dCall sp_law_pull (dCons (dVar 0) (dCons (dC (.int 3)) dNil))) (dC (.int 0))) dNil))))))))
    t_law_said_drawn_1))
theorem nobody_name {r : Int} (r0 : 0 ≤ r) (r1 : r < 6) : isName (cutS "nobody" none (some (1 + r))) = true := by
  rcases (show r = 0 ∨ r = 1 ∨ r = 2 ∨ r = 3 ∨ r = 4 ∨ r = 5 by omega) with rfl | rfl | rfl | rfl | rfl | rfl <;> decide +kernel
theorem r_law_said_drawn (ds : List D) (M : Mp) (Q : DK) (E : DX) (hl : ds.length = 4) (h : sp_law_said_drawn ds M Q E) : t_law_said_drawn { nx := fun _ M' => Q .non M', rt := Q } (startD ["_law_bag_here", "_law_many", "_law_names_here", "_law_limit", "_law_found", "_law_k", "_law_name"] ds) M := by
  obtain ⟨p, b, many, lim, ns, rfl, hM, hb, m0, m1, l0, l1, hn, hns, q⟩ := h
  walk_at "w"
  intro qa hqa
  have hpq : qa ≠ p := fun e => by rw [e, hM] at hqa; cases hqa
  walk_at "w"
  refine ⟨p, b, lim + 1, rfl, by rw [mupd_ne (Ne.symm hpq)]; exact hM, hb, by omega, by omega, fun r b1 hb1 r0 r1 => ?_⟩
  rw [mupd_comm hpq]
  walk_at "w"
  refine ⟨.inl ⟨by omega, by omega⟩, ?_⟩
  have hz : ∃ n : Nat, r * (if decide (0 < many) then 1 else 0) = (n : Int) ∧ (n : Int) ≤ lim ∧ (0 < n → 0 < many) := by
    by_cases h : 0 < many
    · exact ⟨r.toNat, by rw [decide_eq_true h, if_pos rfl]; omega, by omega, fun _ => h⟩
    · exact ⟨0, by rw [decide_eq_false h, if_neg (by decide)]; omega, by omega, fun h => absurd h (by decide)⟩
  obtain ⟨n, en, hn2, hn3⟩ := hz
  rw [en]
  walk_at "w"
  refine ⟨⟨by omega, by omega⟩, ?_⟩
  rw [Int.toNat_natCast]
  refine for_inv (fun i env M' => ∃ b' e5 e6, ∃ tk : List Tk, env = [some (.ref p), some (.int many), some (.lst (ns.map D.str)), some (.int lim), some (.ref qa), e5, e6] ∧ Bag.Ok b' ∧ M' = mupd (mupd M p (.lst b'.l)) qa (.lst (tk.map tkD)) ∧ tk.length = i ∧ ∀ t ∈ tk, 0 ≤ t.at_ ∧ t.at_ < many ∧ isName t.name = true)
    ⟨b1, none, none, [], rfl, hb1, rfl, rfl, fun t ht => (nomatch ht)⟩ (fun i x env M' K hx ⟨b2, e5, e6, tk, e1, hb2, eM, ht, hg⟩ hK => ?_) fun env M' ⟨b2, e5, e6, tk, e1, hb2, eM, ht, hg⟩ => ?_
  · subst e1 eM
    obtain ⟨hi, rfl⟩ := rng_at hx
    have hm := hn3 (by omega)
    walk_at "w"
    refine ⟨p, b2, 6, rfl, by rw [mupd_ne (Ne.symm hpq), mupd_same], hb2, by decide, by decide, fun r3 b3 hb3 r30 r31 => ?_⟩
    rw [mupd_comm hpq, mupd_mupd]
    walk_at "w"
    refine ⟨by rw [sizeLine_eq, List.length_map]; show ns.length + 1 ≤ _; omega, ?_⟩
    walk_at "w"
    refine ⟨p, b3, .lst (ns.map D.str ++ [.str (cutS "nobody" none (some (1 + r3)))]), ns.map D.str ++ [.str (cutS "nobody" none (some (1 + r3)))], rfl, by rw [mupd_ne (Ne.symm hpq), mupd_same], hb3, by rw [List.length_append]; show 0 < _ + 1; omega, by rw [List.length_append, List.length_map]; show _ + 1 < _; omega, .inl ⟨rfl, fun e => by cases e⟩, fun d b4 hb4 hd => ?_⟩
    rw [mupd_comm hpq, mupd_mupd]
    obtain ⟨nm, rfl, hnm⟩ : ∃ nm : Str, d = .str nm ∧ isName nm = true := by
      rcases List.mem_append.mp hd with h | h
      · obtain ⟨x, hx, rfl⟩ := List.mem_map.mp h
        exact ⟨x, rfl, hns x hx⟩
      · rw [List.mem_singleton] at h
        exact ⟨_, h, nobody_name r30 r31⟩
    walk_at "w"
    refine ⟨?_, ?_⟩
    · walk_at "w"
      rw [mupd_same]
      trivial
    walk_at "w"
    refine ⟨p, b4, many, rfl, by rw [mupd_ne (Ne.symm hpq), mupd_same], hb4, hm, by omega, fun r5 b5 hb5 r50 r51 => ?_⟩
    rw [mupd_comm hpq, mupd_mupd]
    walk_at "w"
    refine ⟨p, b5, 3, rfl, by rw [mupd_ne (Ne.symm hpq), mupd_same], hb5, by decide, by decide, fun r6 b6 hb6 r60 r61 => ?_⟩
    rw [mupd_comm hpq, mupd_mupd]
    walk_at "w"
    refine ⟨⟨rfl, rfl⟩, ?_⟩
    walk_at "w"
    rw [mupd_same]
    refine ⟨by rw [sizeLine_eq, List.length_map]; omega, ?_⟩
    rw [mupd_mupd]
    refine hK _ _ ⟨b6, _, _, tk ++ [⟨r5, nm, eqD (.int r6) (.int 0)⟩], rfl, hb6, ?_, by rw [List.length_append, ht]; rfl, fun t h => ?_⟩
    · rw [List.map_append]; rfl
    · rcases List.mem_append.mp h with h | h
      · exact hg t h
      · rw [List.mem_singleton.mp h]; exact ⟨r50, r51, hnm⟩
  · subst e1 eM
    rw [rng_length] at ht
    walk_at "w"
    rw [mupd_same]
    walk_at "w"
    rw [mdel_mupd (by rw [mupd_ne hpq]; exact hqa)]
    exact q tk b2 hb2 (by rw [ht]; exact hn2) hg
end L3
set_option Elab.async false
set_option linter.all false
set_option maxRecDepth 100000
set_option maxHeartbeats 1000000
/-! L3: a, b, c = x, y, z. -/
namespace L3
open PySem PySem.Spec PyProof.Rows L2
section
variable {X : Cx}
def dPar3 (i j l : Nat) (ta : DA) : DS := fun D env M => ta env M fun ds M1 => match ds with
  | [d, g, h] => D.nx (((env.set i (some d)).set j (some g)).set l (some h)) M1
  | _ => False
theorem pds_par3 {i j l : Nat} {x y z : Str} {a b c : Expr} {ta : DA} {px py pz pt pos : Pos} {kt k2 pt2} (hN : X.N.Nodup) (ha : PDA X [a, b, c] ta) (hc : X.calm = true := by rfl) (hi : X.N[i]? = some x := by rfl) (hj : X.N[j]? = some y := by rfl) (hl : X.N[l]? = some z := by rfl) (hij : i ≠ j := by decide) (hil : i ≠ l := by decide) (hjl : j ≠ l := by decide)
    (hx : X.env.scope.names.lookup x = some .local := by rfl) (hy : X.env.scope.names.lookup y = some .local := by rfl) (hz : X.env.scope.names.lookup z = some .local := by rfl)
    (hw : swappedStores [.Tuple [.Name x px, .Name y py, .Name z pz] kt pt] (.Tuple [a, b, c] k2 pt2) X.env = pure (some [x, y, z]) := by rfl)
    (hs : swapsWithSole [.Tuple [.Name x px, .Name y py, .Name z pz] kt pt] (.Tuple [a, b, c] k2 pt2) pos.line X.env = pure false := by rfl) :
    PDS X (.Assign [.Tuple [.Name x px, .Name y py, .Name z pz] kt pt] (.Tuple [a, b, c] k2 pt2) pos) (dPar3 i j l ta) :=
  ps_imp (ps_par3 hc hN hi hj hl hij hil hjl hx hy hz ha hw hs) fun D' σ H ⟨R, F, env, M, D, a, e, h, k⟩ => ⟨R, F, env, M, _, a, e, h, fun F1 H1 M1 ds vs s1 a1 r1 l1 q1 => by
    have hh : ∃ d g h, ds = [d, g, h] ∧ D.nx (((env.set i (some d)).set j (some g)).set l (some h)) M1 := by
      cases ds with
      | nil => exact q1.elim
      | cons d ds => cases ds with
        | nil => exact q1.elim
        | cons g ds => cases ds with
          | nil => exact q1.elim
          | cons h ds => cases ds with
            | nil => exact ⟨d, g, h, rfl, q1⟩
            | cons _ _ => exact q1.elim
    obtain ⟨d, g, h, rfl, q1⟩ := hh
    obtain ⟨x, r, e1, h1, y, r', e2, h2, z, r'', e3, h3, e4⟩ := r1
    subst e1 e2 e3
    have e4 : r'' = [] := e4
    subst e4
    exact ⟨x, y, z, rfl, k.nx F1 H1 M1 _ _ s1 a1 ((((e.mono s1).set i h1).set j h2).set l h3) q1⟩⟩
end
end L3
set_option Elab.async false
set_option linter.all false
set_option maxRecDepth 100000
set_option maxHeartbeats 1000000
/-! L3: a scroll's steps drawn. -/
namespace L3
open PySem PySem.Spec PyProof.Rows L2
local macro_rules | `(tactic| walk_at "w") => `(tactic| conv => whnf)
def sp_law_steps_drawn : SpD := fun ds M Q _ => ∃ p b, ∃ m : List Wr, ∃ cs : List Nat, ∃ lim : Int, ds = [.ref p, .lst (m.map wrD), .lst (cs.map sgn), .int lim] ∧ M p = some (.lst (Bag.l b)) ∧ b.Ok ∧ CrewOk m ∧ SgOk cs ∧ 0 < cs.length ∧ 0 ≤ lim ∧ lim ≤ 30 ∧
  ∀ (tr : List Spp) b', Bag.Ok b' → (tr.length : Int) ≤ lim → (∀ s ∈ tr, SppOk s) → Q (.lst (tr.map sppD)) (mupd M p (.lst b'.l))
def t_law_steps_drawn_1 : DS := (dFrzN 7 (dRet (dVar 7)))
def t_sdE : DS := (dIfS (dAnd (dTest (dBin (rEqDD not) (dVar 8) (dLst dNil))) (dTest (dBin rGtI (dCall sp_law_pull (dCons (dVar 0) (dCons (dC (.int 9)) dNil))) (dC (.int 0))))) (dSeq (dSet 11 (dCall sp_law_of (dCons (dVar 0) (dCons (dVar 8) dNil))))
    (dSeq (dDrop (dAppend (dVar 7) (dBin rIxD (dVar 11) (dC (.int 0)))))
    (dSet 5 (dBin rIxD (dVar 11) (dC (.int 2)))))) (dDrop (dAppend (dVar 7) (dCall sp_law_of (dCons (dVar 0) (dCons (dVar 2) dNil))))))
def t_sdA : DS := (dSeq (dSet 10 (dCall sp_law_other_crew (dCons (dVar 0) (dCons (dVar 6) dNil))))
    (dSeq (dPar 5 6 (dCons (dCall sp_law_carried (dCons (dVar 6) (dCons (dVar 10) (dCons (dVar 5) dNil)))) (dCons (dVar 10) dNil)))
    (dDrop (dAppend (dVar 7) (dUn rListD (dVar 10))))))
def t_law_steps_drawn : DS := (dSeq (dPar3 5 6 7 (dCons (dCall sp_law_begin (dCons (dVar 1) dNil)) (dCons (dUn rListD (dVar 1)) (dCons (dLstM dNil) dNil))))
    (dSeq (dFor (iRange1 (dCons (dCall sp_law_pull (dCons (dVar 0) (dCons (dBin rAddD (dVar 3) (dC (.int 1))) dNil))) dNil)) (.name 4) (dSeq (dSet 8 (dCall sp_law_steps (dCons (dVar 6) (dCons (dVar 5) dNil))))
    (dSeq (dSet 9 (dBin rGtI (dPeekD 7 (dUn rLenD (dLc (iLst (dVar 7)) (.name 11) (dNot (dTru (dIsi .str (dVar 11)))) (dVar 11) [11]))) (dC (.int 11))))
    (dIfS (dAnd (dTest (dBin (rEqDD id) (dCall sp_law_pull (dCons (dVar 0) (dCons (dC (.int 7)) dNil))) (dC (.int 0)))) (dNot (dTru (dVar 9)))) t_sdA t_sdE))))
    t_law_steps_drawn_1))
theorem sd_else {M : Mp} {p qa : Addr} (hpq : qa ≠ p) {m ws : List Wr} {cs : List Nat} {lim : Int} {s : St} {tr : List Spp} {b : Bag} (hb : b.Ok) (hok : CrewOk ws) (hg : Good ws s) (hcs : SgOk cs) (hn : 0 < cs.length) (ht : tr.length ≤ 60) (e4 e9 e10 e11 : Option D) (E : DEnds)
    (hK : ∀ b' s' x e11', Bag.Ok b' → Good ws s' → SppOk (.sg x) → E.nx [some (.ref p), some (.lst (m.map wrD)), some (.lst (cs.map sgn)), some (.int lim), e4, some (stD s'), some (.lst (ws.map wrD)), some (.ref qa), some (.lst (stepsD ws s)), e9, e10, e11'] (mupd (mupd M p (.lst b'.l)) qa (.lst (tr.map sppD ++ [.str x])))) :
    t_sdE E [some (.ref p), some (.lst (m.map wrD)), some (.lst (cs.map sgn)), some (.int lim), e4, some (stD s), some (.lst (ws.map wrD)), some (.ref qa), some (.lst (stepsD ws s)), e9, e10, e11] (mupd (mupd M p (.lst b.l)) qa (.lst (tr.map sppD))) := by
  have l1 : D.le 7 (.lst (stepsD ws s)) = true := le_mono (by omega) (steps_le ws s)
  have hsl := steps_len hok s
  have hc26 := hcs.few
  have oth : ∀ b : Bag, b.Ok → (dDrop (dAppend (dVar 7) (dCall sp_law_of (dCons (dVar 0) (dCons (dVar 2) dNil))))) E [some (.ref p), some (.lst (m.map wrD)), some (.lst (cs.map sgn)), some (.int lim), e4, some (stD s), some (.lst (ws.map wrD)), some (.ref qa), some (.lst (stepsD ws s)), e9, e10, e11] (mupd (mupd M p (.lst b.l)) qa (.lst (tr.map sppD))) := fun b hb => by
    walk_at "w"
    refine ⟨?_, ?_⟩
    · walk_at "w"
      rw [mupd_same]
      trivial
    walk_at "w"
    refine ⟨p, b, .lst (cs.map sgn), cs.map sgn, rfl, by rw [mupd_ne (Ne.symm hpq), mupd_same], hb, by rw [List.length_map]; exact hn, by rw [List.length_map]; omega, .inl ⟨rfl, fun e => by cases e⟩, fun d b3 hb3 hd => ?_⟩
    rw [mupd_comm hpq, mupd_mupd]
    obtain ⟨c, hc, rfl⟩ := List.mem_map.mp hd
    walk_at "w"
    rw [mupd_same]
    refine ⟨by rw [sizeLine_eq, List.length_map]; omega, ?_⟩
    rw [mupd_mupd]
    exact hK b3 s _ _ hb3 hg ⟨c, rfl, hcs.let_ c hc⟩
  walk_at "w"
  refine ⟨⟨le_mono (by omega) l1, rfl⟩, ?_⟩
  have ee : eqD (.lst (stepsD ws s)) (.lst []) = (stepsD ws s).isEmpty := eqD_nil
  walk_at "w"
  refine brn_by (fun hc => ?_) fun hc => oth b hb
  have hc' : (!eqD (.lst (stepsD ws s)) (.lst [])) = true := hc
  rw [ee] at hc'
  have hne : 0 < (stepsD ws s).length := by
    cases hs : stepsD ws s with
    | nil => rw [hs] at hc'; cases hc'
    | cons a as => rw [List.length_cons]; omega
  walk_at "w"
  refine ⟨p, b, 9, rfl, by rw [mupd_ne (Ne.symm hpq), mupd_same], hb, by decide, by decide, fun r b2 hb2 r0 r1 => ?_⟩
  rw [mupd_comm hpq, mupd_mupd]
  walk_at "w"
  refine brn_by (fun hc => ?_) fun hc => oth b2 hb2
  walk_at "w"
  refine ⟨p, b2, .lst (stepsD ws s), stepsD ws s, rfl, by rw [mupd_ne (Ne.symm hpq), mupd_same], hb2, hne, by omega, .inl ⟨rfl, fun e => by cases e⟩, fun d b3 hb3 hd => ?_⟩
  rw [mupd_comm hpq, mupd_mupd]
  obtain ⟨i', w, a, hst, rfl⟩ := steps_mem2 hd
  walk_at "w"
  refine ⟨?_, ?_⟩
  · walk_at "w"
    rw [mupd_same]
    trivial
  walk_at "w"
  rw [mupd_same]
  refine ⟨by rw [sizeLine_eq, List.length_map]; omega, ?_⟩
  rw [mupd_mupd]
  walk_at "w"
  exact hK b3 _ _ _ hb3 (good_step hok hg hst).1 ((hok.ok w (List.mem_of_getElem? hst.wr)).ar a hst.ar).sg
theorem r_law_steps_drawn (ds : List D) (M : Mp) (Q : DK) (E : DX) (hl : ds.length = 4) (h : sp_law_steps_drawn ds M Q E) : t_law_steps_drawn { nx := fun _ M' => Q .non M', rt := Q } (startD ["_law_bag_here", "_law_m", "_law_letters_here", "_law_limit", "_law_k", "_law_stand", "_law_crew", "_law_found", "_law_some", "_law_full", "_law_fresh_here", "_law_step"] ds) M := by
  obtain ⟨p, b, m, cs, lim, rfl, hM, hb, hm, hcs, hcn, l0, l1, q⟩ := h
  walk_at "w"
  refine ⟨m, rfl, hm.few, ?_⟩
  walk_at "w"
  intro qa hqa
  have hpq : qa ≠ p := fun e => by rw [e, hM] at hqa; cases hqa
  walk_at "w"
  refine ⟨p, b, lim + 1, rfl, by rw [mupd_ne (Ne.symm hpq)]; exact hM, hb, by omega, by omega, fun r b1 hb1 r0 r1 => ?_⟩
  rw [mupd_comm hpq]
  walk_at "w"
  refine ⟨⟨by omega, by omega⟩, ?_⟩
  walk_at "w"
  refine for_inv (fun i env M' => ∃ b' s e4 e8 e9 e10 e11, ∃ ws : List Wr, ∃ tr : List Spp, env = [some (.ref p), some (.lst (m.map wrD)), some (.lst (cs.map sgn)), some (.int lim), e4, some (stD s), some (.lst (ws.map wrD)), some (.ref qa), e8, e9, e10, e11] ∧ Bag.Ok b' ∧ M' = mupd (mupd M p (.lst b'.l)) qa (.lst (tr.map sppD)) ∧ tr.length = i ∧ (∀ x ∈ tr, SppOk x) ∧ CrewOk ws ∧ Good ws s)
    ⟨b1, st0 m.length, none, none, none, none, none, m, [], rfl, hb1, rfl, rfl, fun t ht => (nomatch ht), hm, good0 m⟩ (fun i x env M' K hx ⟨b2, s, e4, e8, e9, e10, e11, ws, tr, e1, hb2, eM, ht, hg, hok, g⟩ hK => ?_) fun env M' ⟨b2, s, e4, e8, e9, e10, e11, ws, tr, e1, hb2, eM, ht, hg, hok, g⟩ => ?_
  · subst e1 eM
    obtain ⟨hi, rfl⟩ := rng_at hx
    walk_at "w"
    refine ⟨ws, s, rfl, hok, g.ok, ?_⟩
    walk_at "w"
    refine ⟨qa, .lst (tr.map sppD), _, rfl, Thaw.lst mupd_same (thaws_keep _ _), ?_⟩
    walk_at "w"
    refine lc_filter (fun x => match x with
      | .str _ => false
      | _ => true) id (fun x hx K1 K2 h1 h2 => ?_) ?_
    · obtain ⟨y, _, rfl⟩ := List.mem_map.mp hx
      cases y with
      | sg y => exact h2 rfl
      | crew y => exact h1 rfl
    · walk_at "w"
      refine ⟨rfl, ?_⟩
      walk_at "w"
      have els : ∀ (full : Bool) (b3 : Bag), b3.Ok → t_sdE _ [some (.ref p), some (.lst (m.map wrD)), some (.lst (cs.map sgn)), some (.int lim), some (.int (0 + (i : Int))), some (stD s), some (.lst (ws.map wrD)), some (.ref qa), some (.lst (stepsD ws s)), some (.bl full), e10, e11] (mupd (mupd M p (.lst b3.l)) qa (.lst (tr.map sppD))) := fun full b3 hb3 => sd_else (M := M) hpq hb3 hok g hcs hcn (by omega) _ _ _ _ { nx := K, rt := Q, ct := K, bk := fun e m => t_law_steps_drawn_1 { nx := fun x M' => Q .non M', rt := Q } e m } fun b' s' x e11' hb' hs' hx => by
        refine hK _ _ ⟨b', s', _, _, _, _, _, ws, tr ++ [.sg x], rfl, hb', by rw [List.map_append]; rfl, by rw [List.length_append, ht]; rfl, fun t h => ?_, hok, hs'⟩
        rcases List.mem_append.mp h with h | h
        · exact hg t h
        · rw [List.mem_singleton.mp h]; exact hx
      refine ⟨p, b2, 7, rfl, by rw [mupd_ne (Ne.symm hpq), mupd_same], hb2, by decide, by decide, fun r3 b3 hb3 r30 r31 => ?_⟩
      rw [mupd_comm hpq, mupd_mupd]
      walk_at "w"
      refine ⟨⟨rfl, rfl⟩, ?_⟩
      walk_at "w"
      refine brn_by (fun hc => ?_) fun hc => els _ b3 hb3
      walk_at "w"
      refine brn_by (fun hf => ?_) fun hf => els _ b3 hb3
      · skip
        walk_at "w"
        refine ⟨p, b3, ws, rfl, by rw [mupd_ne (Ne.symm hpq), mupd_same], hb3, hok, fun vs b4 hb4 hvs => ?_⟩
        rw [mupd_comm hpq, mupd_mupd]
        walk_at "w"
        refine ⟨ws, vs, s, rfl, g.ok.pl, g.ok.wt, ?_⟩
        walk_at "w"
        refine ⟨?_, ?_⟩
        · walk_at "w"
          rw [mupd_same]
          trivial
        walk_at "w"
        rw [mupd_same]
        refine ⟨by rw [sizeLine_eq, List.length_map]; omega, ?_⟩
        rw [mupd_mupd]
        refine hK _ _ ⟨b4, carry ws vs s, _, _, _, _, _, vs, tr ++ [.crew vs], rfl, hb4, by rw [List.map_append]; rfl, by rw [List.length_append, ht]; rfl, fun t h => ?_, hvs, good_carry g⟩
        rcases List.mem_append.mp h with h | h
        · exact hg t h
        · rw [List.mem_singleton.mp h]; exact hvs
  · subst e1 eM
    rw [rng_length] at ht
    walk_at "w"
    rw [mupd_same]
    walk_at "w"
    rw [mdel_mupd (by rw [mupd_ne hpq]; exact hqa)]
    exact q tr b2 hb2 (by rw [ht]; omega) hg
end L3
set_option Elab.async false
set_option linter.all false
set_option maxRecDepth 100000
set_option maxHeartbeats 1000000
/-! L3: a scroll drawn. -/
namespace L3
open PySem PySem.Spec PyProof.Rows L2
local macro_rules | `(tactic| walk_at "w") => `(tactic| conv => whnf)
def sp_law_scroll_drawn : SpD := fun ds M Q _ => ∃ p b, ∃ n1 n2 n3 : Int, ds = [.ref p, .int n1, .int n2, .int n3] ∧ M p = some (.lst (Bag.l b)) ∧ b.Ok ∧ 0 < n1 ∧ n1 ≤ 26 ∧ 0 ≤ n2 ∧ n2 ≤ 30 ∧ 0 ≤ n3 ∧ n3 ≤ 50 ∧
  ∀ m tr tk b', Bag.Ok b' → DwOk m tr tk → 0 < m.length → (tr.length : Int) ≤ n2 → (tk.length : Int) ≤ n3 → Q (dwD m tr tk) (mupd M p (.lst b'.l))
def t_law_scroll_drawn : DS := (dSeq (dSet 4 (dCall sp_law_signs (dCons (dVar 0) (dCons (dVar 1) dNil))))
    (dSeq (dSet 5 (dCall sp_law_company (dCons (dVar 0) (dCons (dC (.int 3)) (dCons (dVar 4) dNil)))))
    (dSeq (dSet 6 (dCall sp_law_steps_drawn (dCons (dVar 0) (dCons (dVar 5) (dCons (dVar 4) (dCons (dVar 2) dNil))))))
    (dSeq (dSet 7 (dDeep (dCall sp_law_parts (dCons (dVar 5) (dCons (dVar 6) dNil)))))
    (dSeq (dSet 8 (dCall sp_law_said_drawn (dCons (dVar 0) (dCons (dUn rLenD (dBin rIxD (dVar 7) (dC (.int 0)))) (dCons (dLc (iLst (dVar 5)) (.name 9) dYes (dBin rIxD (dVar 9) (dC (.int 0))) [9]) (dCons (dVar 3) dNil))))))
    (dRet (dTup (dCons (dVar 5) (dCons (dVar 6) (dCons (dVar 8) (dCons (dTup (dCons (dBin rIxD (dVar 7) (dC (.int 0))) (dCons (dBin rIxD (dVar 7) (dC (.int 1))) (dCons (dVar 8) dNil)))) dNil)))))))))))
theorem r_law_scroll_drawn (ds : List D) (M : Mp) (Q : DK) (E : DX) (hl : ds.length = 4) (h : sp_law_scroll_drawn ds M Q E) : t_law_scroll_drawn { nx := fun _ M' => Q .non M', rt := Q } (startD ["_law_bag_here", "_law_signs_most", "_law_steps_most", "_law_said_most", "_law_letters_here", "_law_m", "_law_track", "_law_parts_here", "_law_talk", "_law_writer_here"] ds) M := by
  obtain ⟨p, b, n1, n2, n3, rfl, hM, hb, a0, a1, c0, c1, d0, d1, q⟩ := h
  walk_at "w"
  refine ⟨p, b, n1, rfl, hM, hb, a0, a1, fun cs b1 hb1 hcs hcn _ => ?_⟩
  walk_at "w"
  refine ⟨p, b1, 3, cs, rfl, mupd_same, hb1, by decide, by decide, hcs, fun m b2 hb2 hok hne hle => ?_⟩
  rw [mupd_mupd]
  walk_at "w"
  refine ⟨p, b2, m, cs, n2, rfl, mupd_same, hb2, hok, hcs, hcn, c0, c1, fun tr b3 hb3 ltr htr => ?_⟩
  rw [mupd_mupd]
  walk_at "w"
  refine ⟨m, tr, rfl, by omega, fun ra ca M' th => ?_⟩
  have o := half_ok m (Nat.le_refl tr.length)
  rw [List.take_length] at o
  have ec : (cssD wlD (halfOf m tr).css).map D.lst = (halfOf m tr).css.map fun cs : List (List Wr) => D.lst (cs.map fun ws => .lst (ws.map wrD)) := by unfold cssD; rw [List.map_map]; rfl
  rw [ec] at th
  refine ⟨_, _, Thaw.tup th, ?_⟩
  walk_at "w"
  refine lc_map (fun x => match x with
    | .tup (z :: _) => z
    | _ => .non) (fun x hx K1 K2 h1 => ?_) ?_
  · obtain ⟨w, _, rfl⟩ := List.mem_map.mp hx
    exact h1
  have e : (m.map wrD).map (fun x => match x with
      | .tup (z :: _) => z
      | _ => D.non) = (m.map (·.name)).map D.str := by rw [List.map_map, List.map_map]; rfl
  rw [e]
  have hr := o.row
  have hfew := hok.few
  refine ⟨p, b3, ((halfOf m tr).row.map D.str).length, n3, m.map (·.name), rfl, mupd_same, hb3, by omega, by rw [List.length_map]; omega, d0, d1, by rw [List.length_map]; omega, fun x hx => ?_, fun tk b4 hb4 ltk htk => ?_⟩
  · obtain ⟨w, hw, rfl⟩ := List.mem_map.mp hx
    exact (hok.ok w hw).name
  · rw [mupd_mupd]
    rw [List.length_map] at htk
    exact q m tr tk b4 hb4 ⟨hok, by omega, htr, htk⟩ hne ltr ltk
end L3
set_option Elab.async false
set_option linter.all false
set_option maxRecDepth 100000
set_option maxHeartbeats 1000000
/-! L3: dicts whose keys are tuples: in, dict(pairs). -/
namespace L3
open PySem PySem.Spec PyProof.Rows L2 NS
section
variable {X : Cx}
/-! ### in -/
def rInKd (K : PySem.W.Frag) (w : World) (g : Bool → Bool) : R2 := fun x y H Q => ∃ p a Ls F yD, x = .ref p ∧ y = .ref a ∧ DkRd w H a Ls ∧ Same F H ∧ Rep K F yD (.ref p) ∧ isKey yD = true ∧ (∀ r ∈ Ls, Rep K F r.2.1 (.ref r.1)) ∧ Q (.bl (g (Ls.any fun r => sameK r.2.1 yD))) H
theorem op_inKd (hu : X.A.units + 65 < cLine) : OpR X (compareOp .In) (rInKd X.K X.w id) := by
  intro pins s σ H x y v u Q I rx ry ⟨p, a, Ls, F, yD, e1, e2, ha, sm, rp, ky, rk, q⟩
  subst e1 e2
  cases (show v = Value.ref p from rx)
  cases (show u = Value.ref a from ry)
  have D := DkRd.at I ha
  obtain ⟨⟨hs, _, hk, _⟩, _⟩ := id D
  obtain ⟨xs, px, kd⟩ := dk_kit (P := X.prog) D (keys_at I sm fun r hr => ⟨rk r hr, hk r hr⟩)
  obtain ⟨n1, _, n2, _⟩ := nk_at I sm rp (u := .ref p) rfl (isKey_nk ky)
  refine in_keyed (knd := nestedKind X.prog X.w) (k := keyN yD) (show X.A.in1.units + 8 < cLine from by show X.A.units + 1 + 8 < cLine; omega) ⟨n1, n2⟩ hs ⟨xs, kd, rfl⟩ ?_
  rw [valueAt_pairsH, Option.isSome_map, x_find px]
  exact ⟨.bl _, H, I.kept (t' := _) fun b o e => e, rfl, q⟩
theorem op_notInKd (hu : X.A.units + 65 < cLine) : OpR X (compareOp .NotIn) (rInKd X.K X.w not) := by
  intro pins s σ H x y v u Q I rx ry ⟨p, a, Ls, F, yD, e1, e2, ha, sm, rp, ky, rk, q⟩
  subst e1 e2
  cases (show v = Value.ref p from rx)
  cases (show u = Value.ref a from ry)
  have D := DkRd.at I ha
  obtain ⟨⟨hs, _, hk, _⟩, _⟩ := id D
  obtain ⟨xs, px, kd⟩ := dk_kit (P := X.prog) D (keys_at I sm fun r hr => ⟨rk r hr, hk r hr⟩)
  obtain ⟨n1, _, n2, _⟩ := nk_at I sm rp (u := .ref p) rfl (isKey_nk ky)
  refine notIn_keyed (knd := nestedKind X.prog X.w) (k := keyN yD) (show X.A.in1.units + 8 < cLine from by show X.A.units + 1 + 8 < cLine; omega) ⟨n1, n2⟩ hs ⟨xs, kd, rfl⟩ ?_
  rw [valueAt_pairsH, Option.isSome_map, x_find px]
  exact ⟨.bl _, H, I.kept (t' := _) fun b o e => e, rfl, q⟩
def rInDk (w : World) (g : Bool → Bool) : R2D := fun d e M Q => mDkd w M e fun ks _ => isKey d = true ∧ Q (.bl (g (ks.any fun k => sameK k d))) M
theorem inDk_served {K : PySem.W.Frag} {w : World} {g : Bool → Bool} : Serves2 K (rInDk w g) (rInKd K w g) := fun R F M H d e x y Qd Q a r1 r2 q kd => by
  obtain ⟨p, Ls, ds, rfl, rd, k1, k2, ky, q⟩ := mDkd_at a r2 q
  obtain ⟨pp, rfl⟩ := key_ref r1 ky
  refine ⟨pp, p, Ls, F, d, rfl, rfl, rd, a.fz, r1, ky, reps_all k1, ?_⟩
  rw [List.any_map] at q
  exact kd F H M (.bl _) _ (Same.refl _) a rfl q
theorem opd_inDk {k : Nat} (hr : Room k X.A) : OpD X (compareOp .In) (rInDk X.w id) := ⟨_, op_inKd (by have := hr.un; omega), inDk_served⟩
theorem opd_notinDk {k : Nat} (hr : Room k X.A) : OpD X (compareOp .NotIn) (rInDk X.w not) := ⟨_, op_notInKd (by have := hr.un; omega), inDk_served⟩
/-! ### dict(pairs) -/
def putRows (acc : List DRow) (Ls : List DRow) : List DRow := Ls.foldl (fun acc r => putRow acc r.1 r.2.1 r.2.2) acc
theorem x_puts {Ls : List DRow} {xs : List XRow} (P : Paired RowX Ls xs) : ∀ {acc : List DRow} {ax : List XRow}, Paired RowX acc ax → Paired RowX (putRows acc Ls) (PySem.storedAllH ax xs) := by
  induction P with
  | nil => exact fun h => h
  | @cons r x l1 l2 hx t ih =>
    intro acc ax h
    obtain ⟨h1, h2, h3⟩ := hx
    refine ih ?_
    show Paired RowX (putRow acc r.1 r.2.1 r.2.2) (storedH ax x.1 x.2.1 x.2.2)
    rw [h1, h2]
    exact x_put h3 h
theorem putRows_len : ∀ {Ls acc : List DRow}, (putRows acc Ls).length ≤ acc.length + Ls.length
  | [], acc => Nat.le_refl _
  | r :: Ls, acc => by
    have h1 := putRow_len (Ls := acc) (p := r.1) (y := r.2.1) (v := r.2.2)
    have h2 := putRows_len (Ls := Ls) (acc := putRow acc r.1 r.2.1 r.2.2)
    show (putRows (putRow acc r.1 r.2.1 r.2.2) Ls).length ≤ acc.length + (Ls.length + 1)
    omega
theorem putRows_key : ∀ {Ls acc : List DRow}, (∀ r ∈ acc, isKey r.2.1 = true) → (∀ r ∈ Ls, isKey r.2.1 = true) → ∀ r ∈ putRows acc Ls, isKey r.2.1 = true
  | [], acc, h, _ => h
  | r :: Ls, acc, h, h2 => putRows_key (Ls := Ls) (acc := putRow acc r.1 r.2.1 r.2.2) (fun q hq => by
      rcases putRow_mem q hq with ⟨z, hz, _, e⟩ | ⟨_, e⟩
      · rw [← e]; exact h z hz
      · rw [e]; exact h2 r List.mem_cons_self) fun q hq => h2 q (List.mem_cons_of_mem _ hq)
theorem rows_of_pairs {pins : List (Addr × Obj)} {σ : L2.St} {H : Hp} {s : Shared} (I : Inv X pins σ H s) : ∀ {as : List Addr} {Ls : List DRow}, Paired (fun p (r : DRow) => SqT X.K H p [.ref r.1, r.2.2]) as Ls →
    ∃ xs : List XRow, Paired RowX Ls xs ∧ xs.length = as.length ∧ ∀ (j : Nat) (q : XRow), xs[j]? = some q → ∃ (b : Addr), as[j]? = some b ∧ s.heap.IsTuple b #[.ref q.2.1, q.2.2]
  | _, _, .nil => ⟨[], .nil, rfl, fun j q e => by simp at e⟩
  | _, _, .cons (a := p) (b := r) h t => by
    obtain ⟨xs, rel, hl, hp⟩ := rows_of_pairs I t
    obtain ⟨its, rv, ht, _⟩ := I.tuple h
    obtain ⟨u, y, ei, ru, ry⟩ := vals2 rv
    subst ei
    cases (show u = Value.ref r.1 from ru)
    refine ⟨(keyN r.2.1, r.1, y) :: xs, .cons ⟨rfl, rfl, ry⟩ rel, by rw [List.length_cons, List.length_cons, hl], fun j q e => ?_⟩
    cases j with
    | zero =>
      have e' : (keyN r.2.1, r.1, y) = q := Option.some.inj e
      subst e'
      exact ⟨p, rfl, ht⟩
    | succ j =>
      obtain ⟨b, e1, e2⟩ := hp j q (by simpa using e)
      exact ⟨b, by simpa using e1, e2⟩
def rDictKd (K : PySem.W.Frag) (w : World) : List V → Hp → VK → Prop := fun vs H Q => ∃ (a : Addr) (F : Hp) (as : List Addr) (Ls : List DRow), vs = [.ref a] ∧ SqL K H a (as.map V.ref) ∧ Paired (fun p (r : DRow) => SqT K H p [.ref r.1, r.2.2]) as Ls ∧ Same F H ∧ (∀ r ∈ Ls, Rep K F r.2.1 (.ref r.1) ∧ isKey r.2.1 = true) ∧
  ∀ p, H p = none → Q (.ref p) (upd H p (DkO w p (putRows [] Ls)))
theorem call_dictKd (hcalm : X.calm = true) (hu : X.A.units + 65 < cLine) : CallR X (.type "dict") (rDictKd X.K X.w) := by
  intro pins s σ H vs us Q I r ⟨a, F, as, Ls, ev, hq, hp, sm, hk, q⟩
  subst ev
  obtain ⟨u, eu, rx⟩ := vals1 r
  subst eu
  cases rx
  obtain ⟨its, rv, pl, hz⟩ := I.list hq
  have ei := refs_at rv
  subst ei
  rw [List.length_map] at hz
  obtain ⟨xs, px, hl, hpr⟩ := rows_of_pairs I hp
  have lx := px.length
  have keys : ∀ x ∈ xs, (nestedKind X.prog X.w).is s.heap x.1 x.2.1 := fun x hx => by
    obtain ⟨r, hr, e1, e2, _⟩ := x_mem px x hx
    obtain ⟨z1, z2⟩ := hk r hr
    obtain ⟨n1, _, n2, _⟩ := nk_at I sm z1 (u := .ref r.1) rfl (isKey_nk z2)
    rw [e1, e2]; exact ⟨n1, n2⟩
  have hm : (s.heap.objs.size == sysModules) = false := beq_eq_false_iff_ne.mpr (Nat.ne_of_gt I.big)
  obtain ⟨o, n, ho, hc, hd, hdat⟩ := pl
  let prs : List (Value × Value) := xs.map fun x => (Value.ref x.2.1, x.2.2)
  have hlp : prs.length = as.length := by show (xs.map _).length = _; rw [List.length_map, hl]
  refine PySem.call_dict_pairsH (knd := nestedKind X.prog X.w) (ps := xs) (PySem.PairArg.list a (as.map Value.ref).toArray (fun j => (as[j]?).getD 0) prs) (I.ok.hd hcalm) (show X.A.in1.in1.units + 8 < cLine from by show X.A.units + 1 + 1 + 8 < cLine; omega)
    ⟨⟨o, n, ho, hc, hd, hdat⟩, ⟨by rw [hlp]; simp, fun j k v e => ?_⟩⟩ ⟨by show _ = prs.length; rw [hlp, hl], fun j k v e => ?_⟩ (fun h' hkp x hx => ?_) (by rw [hlp]; exact hz) fun h' tk hd' kp => ?_
  · have e : (xs.map fun x : XRow => (Value.ref x.2.1, x.2.2))[j]? = some (k, v) := e
    rw [List.getElem?_map] at e
    obtain ⟨x, hx, ee⟩ := Option.map_eq_some_iff.mp e
    obtain ⟨e1, e2⟩ := Prod.mk.inj ee
    subst e1 e2
    obtain ⟨b, hb, ht⟩ := hpr j x hx
    refine ⟨?_, .inl ?_⟩
    · simp [hb]
    · simp only [hb, Option.getD_some]; exact ht
  · have e : (xs.map fun x : XRow => (Value.ref x.2.1, x.2.2))[j]? = some (k, v) := e
    rw [List.getElem?_map] at e
    obtain ⟨x, hx, ee⟩ := Option.map_eq_some_iff.mp e
    obtain ⟨e1, e2⟩ := Prod.mk.inj ee
    subst e1 e2
    exact ⟨x.1, x.2.1, hx, rfl⟩
  · exact PySem.HeapKind.Stays.all nestedKind_stays h' (fun b o hb e => hkp b o (Nat.ne_of_lt (Heap.lt_size e)) hb e) _ _ (keys x hx)
  · have px2 := x_puts px (acc := []) (ax := []) .nil
    have hlen : (putRows [] Ls).length ≤ sizeLine := by
      have := putRows_len (Ls := Ls) (acc := [])
      rw [List.length_nil] at this
      omega
    have new : DkAt X.w s.heap.objs.size (putRows [] Ls) h' := kit_dk hd' px2 hm hlen (putRows_key (fun r hr => nomatch hr) fun r hr => (hk r hr).2)
    exact ⟨.ref s.heap.objs.size, upd H s.heap.objs.size (DkO X.w s.heap.objs.size (putRows [] Ls)), I.laid (t' := tk) (fun b o e => kp b o (fun z => nomatch z) e) (Nat.le_refl _) (dk_new new), rfl, q _ (I.hok.fresh (Nat.le_refl _))⟩
/-- pairs of a list -/
def unpair : List D → Option (List (D × D))
  | [] => some []
  | .tup [k, v] :: r => (unpair r).map fun l => (k, v) :: l
  | _ => none
theorem unpair_cons {d : D} {r : List D} {ps : List (D × D)} (h : unpair (d :: r) = some ps) : ∃ k v l, d = .tup [k, v] ∧ unpair r = some l ∧ ps = (k, v) :: l := by
  unfold unpair at h
  split at h
  · rename_i e; cases e
  · rename_i k v r' e
    cases e
    obtain ⟨l, hl, rfl⟩ := Option.map_eq_some_iff.mp h
    exact ⟨k, v, l, rfl, hl, rfl⟩
  · cases h
def putD (acc : List D × List D) (p : D × D) : List D × List D := (addD acc.1 p.1, setD acc.1 acc.2 p.1 p.2)
theorem resLst_at {K : PySem.W.Frag} {R F : Hp} {M : Mp} {H : Hp} {d : D} {v : V} {ds : List D} (a : At K R F M H) (r : Rep K F d v) (h : resD M d = .lst ds) : ∃ P vs, v = .ref P ∧ SqL K H P vs ∧ Reps K F ds vs := by
  cases d with
  | lst es =>
    have e1 : es = ds := by cases h; rfl
    subst e1
    obtain ⟨P, vs, rfl, hq, r⟩ := r
    exact ⟨P, vs, rfl, SqL.of (a.fz _ _ hq), r⟩
  | ref P =>
    cases (show v = V.ref P from r)
    simp only [resD] at h
    split at h
    · rename_i es hm
      have e1 : es = ds := by cases h; rfl
      subst e1
      obtain ⟨_, u, hu, vs, rfl, r⟩ := a.mu _ _ hm
      exact ⟨P, vs, rfl, SqL.of hu, r⟩
    · cases h
  | _ => cases h
theorem unpair_rows {K : PySem.W.Frag} {F H : Hp} (sm : Same F H) : ∀ {ds : List D} {vs : List V} {ps : List (D × D)}, unpair ds = some ps → (∀ p ∈ ps, isKey p.1 = true) → Reps K F ds vs →
    ∃ (as : List Addr) (Ls : List DRow), vs = as.map V.ref ∧ Paired (fun p (r : DRow) => SqT K H p [.ref r.1, r.2.2]) as Ls ∧ Ls.map (·.2.1) = ps.map (·.1) ∧ (∀ r ∈ Ls, Rep K F r.2.1 (.ref r.1) ∧ isKey r.2.1 = true) ∧ Reps K F (ps.map (·.2)) (Ls.map (·.2.2))
  | [], vs, ps, h, _, r => by
    cases (show some [] = some ps from h)
    cases (show vs = [] from r)
    exact ⟨[], [], rfl, .nil, rfl, (fun r hr => nomatch hr), rfl⟩
  | d :: ds, vs, ps, h, hk, r => by
    obtain ⟨k, v, l, rfl, hl, rfl⟩ := unpair_cons h
    obtain ⟨x, rr, rfl, rx, rr2⟩ := r
    obtain ⟨as, Ls, rfl, hp, e, kk, rv⟩ := unpair_rows sm hl (fun p hp => hk p (List.mem_cons_of_mem _ hp)) rr2
    obtain ⟨b, xs, rfl, hq, r2⟩ := rx
    obtain ⟨xk, r3, rfl, rk, xv, r4, rfl, rvv, e4⟩ := r2
    have e4 : r4 = [] := e4
    subst e4
    have ky := hk (k, v) List.mem_cons_self
    obtain ⟨ka, rfl⟩ := key_ref rk ky
    refine ⟨b :: as, (ka, k, xv) :: Ls, rfl, .cons (Same.seqT sm hq) hp, by rw [List.map_cons, List.map_cons, e], fun r hr => ?_, ⟨xv, _, rfl, rvv, rv⟩⟩
    rcases List.mem_cons.mp hr with rfl | hr
    · exact ⟨rk, ky⟩
    · exact kk r hr
theorem puts_rep {K : PySem.W.Frag} {F : Hp} : ∀ {Ls : List DRow} {ps : List (D × D)} {ks ds : List D} {acc : List DRow}, Ls.map (·.2.1) = ps.map (·.1) → (∀ r ∈ Ls, Rep K F r.2.1 (.ref r.1)) → Reps K F (ps.map (·.2)) (Ls.map (·.2.2)) →
    ks = acc.map (·.2.1) → Reps K F ks (acc.map fun r => .ref r.1) → Reps K F ds (acc.map (·.2.2)) →
    (ps.foldl putD (ks, ds)).1 = (putRows acc Ls).map (·.2.1) ∧ Reps K F (ps.foldl putD (ks, ds)).1 ((putRows acc Ls).map fun r => .ref r.1) ∧ Reps K F (ps.foldl putD (ks, ds)).2 ((putRows acc Ls).map (·.2.2))
  | [], [], _, _, _, _, _, _, h1, h2, h3 => ⟨h1, h2, h3⟩
  | [], p :: ps, _, _, _, e, _, _, _, _, _ => by simp at e
  | r :: Ls, [], _, _, _, e, _, _, _, _, _ => by simp at e
  | r :: Ls, (k, v) :: ps, ks, ds, acc, e, hk, rv, h1, h2, h3 => by
    rw [List.map_cons, List.map_cons, List.cons.injEq] at e
    obtain ⟨e1, e2⟩ := e
    obtain ⟨x, rr, z, r1, r2⟩ := rv
    rw [List.map_cons, List.cons.injEq] at z
    obtain ⟨rfl, rfl⟩ := z
    have e1 : r.2.1 = k := e1
    subst e1
    obtain ⟨a1, a2, a3⟩ := rows_put (p := r.1) (y := r.2.1) (d := v) (v := r.2.2) h1 h2 h3 (hk r List.mem_cons_self) r1
    exact puts_rep (Ls := Ls) (ps := ps) (ks := addD ks r.2.1) (ds := setD ks ds r.2.1 v) (acc := putRow acc r.1 r.2.1 r.2.2) e2 (fun q hq => hk q (List.mem_cons_of_mem _ hq)) r2 a1 a2 a3
def rDictDk (w : World) : R1D := fun d M Q => match resD M d with
  | .lst ds => match unpair ds with
    | some ps => (∀ p ∈ ps, isKey p.1 = true) ∧ ∀ q, M q = none → Q (.ref q) (mupd M q (.dkd w (ps.foldl putD ([], [])).1 (ps.foldl putD ([], [])).2))
    | none => False
  | _ => False
theorem calld_dictDk {k : Nat} (hr : Room k X.A) (hc : X.calm = true := by rfl) : CallD X (.type "dict") (rDictDk X.w) := ⟨_, call_dictKd hc (by have := hr.un; omega), fun R F M H d x Qd Q a r q kd => by
  unfold rDictDk at q
  split at q
  · rename_i ds hd
    split at q
    · rename_i ps hps
      obtain ⟨hk, q⟩ := q
      obtain ⟨P, vs, rfl, hq, rs⟩ := resLst_at a r hd
      obtain ⟨as, Ls, rfl, hp, e, kk, rv⟩ := unpair_rows a.fz hps hk rs
      refine ⟨P, F, as, Ls, rfl, hq, hp, a.fz, kk, fun p hp => ?_⟩
      obtain ⟨z1, z2, z3⟩ := puts_rep (acc := []) (ks := []) (ds := []) e (fun r hr => (kk r hr).1) rv rfl rfl rfl
      exact kd F _ _ (.ref p) _ (Same.refl F) (a.born hp (o := .dkd X.w _ _) ⟨_, rfl, z1, z2, z3⟩) rfl (q p (a.freeM hp))
    · exact q.elim
  · exact q.elim⟩
end
end L3
set_option Elab.async false
set_option linter.all false
set_option maxRecDepth 100000
set_option maxHeartbeats 1000000
/-! L3: range(i, j, -1). -/
namespace L3
open PySem PySem.Spec PyProof.Rows L2
def rngD (hi : Int) (n : Nat) : List D := (List.range n).map fun (i : Nat) => D.int (hi - i)
theorem rngD_length {hi : Int} {n : Nat} : (rngD hi n).length = n := by simp [rngD]
theorem rngD_at {hi : Int} {n i : Nat} {x : D} (h : (rngD hi n)[i]? = some x) : i < n ∧ x = .int (hi - i) := by
  have hlt : i < n := by have := (List.getElem?_eq_some_iff.mp h).1; rwa [rngD_length] at this
  unfold rngD at h
  rw [List.getElem?_map, List.getElem?_range hlt] at h
  cases h
  exact ⟨hlt, rfl⟩
theorem gives_rangeD {K : PySem.W.Frag} {F : Hp} {hi : Int} {n : Nat} (h : n ≤ sizeLine) : Gives K (Itc hi (-1) n) F (rngD hi n) := by
  refine ⟨by rw [rngD_length]; exact h, fun R F' M H s a' => by show n ≤ _; rw [rngD_length]; exact Nat.le_refl _, fun i d R F' M H s a' hi' => ?_⟩
  obtain ⟨hlt, rfl⟩ := rngD_at hi'
  refine ⟨hlt, fun y H' ⟨e, ey⟩ => ⟨F', Same.refl _, by rw [e]; exact a', ?_⟩⟩
  rw [ey]
  show V.int (hi + (i : Nat) * (-1)) = V.int (hi - i)
  congr 1
  omega
def iRangeD (t : DA) : DI := fun env M Q => t env M fun ds M1 => match ds with
  | [.int i, .int j, .int c] => (c = -1 ∧ (-16777216 ≤ i ∧ i ≤ 16777216) ∧ -16777216 ≤ j ∧ j ≤ 16777216 ∧ i - j ≤ 16777216) ∧ Q (rngD i (i - j).toNat) M1
  | _ => False
section
variable {X : Cx} {a b c : Expr} {t : DA} {p pos : Pos}
theorem pdi_rangeD {tg : Expr} (hm : X.mg "range" = none) (ha : PDA X [a, b, c] t) (hg : Gl X "range" := by rfl) (hs : starEach [a, b, c] X.env = (false, eval a X.env) :: starEach [b, c] X.env := by rfl) (hpl : (backTo pos (starEach [b, c] X.env)).any (·.1) = false := by rfl) : PDI X tg (.Call (.Name "range" p) [a, b, c] [] pos) (iRangeD t) := by
  refine pi_imp (pi_range3 hg hm ha hs hpl) fun σ H Z ⟨R, F, env, M, Qd, a, e, h, k⟩ => ⟨R, F, env, M, _, a, e, h, fun F1 H1 M1 ds vs s1 a1 r1 l1 q1 => ?_⟩
  split at q1
  · rename_i i j c
    obtain ⟨x, r, rfl, rx, y, r', rfl, ry, z, r'', rfl, rz, rfl⟩ := r1
    obtain ⟨⟨rfl, ⟨b1, b2⟩, b3, b4, b5⟩, q1⟩ := q1
    exact ⟨i, j, -1, (i - j).toNat, by rw [show x = V.int i from rx, show y = V.int j from ry, show z = V.int (-1) from rz], RgC.neg (by omega) (by omega) (by omega) (by omega), k F1 H1 M1 _ _ s1 a1 (gives_rangeD (by rw [sizeLine_eq]; omega)) q1⟩
  · exact q1.elim
end
end L3
set_option Elab.async false
set_option linter.all false
set_option maxRecDepth 100000
set_option maxHeartbeats 1000000
/-! L3: own lists turned about. -/
namespace L3
open PySem PySem.Spec PyProof.Rows L2
section
variable {X : Cx} {o e : Expr} {to te : DE} {apos pos : Pos}
def dReverse (to : DE) : DE := fun env M Q => to env M fun o M1 => match o with
  | .ref q => match M1 q with
    | some (.lst ds) => Q .non (mupd M1 q (.lst ds.reverse))
    | _ => False
  | _ => False
theorem pd_reverse (ho : PDE X o to) (hbase : attributeBase o "reverse" X.env (eval o X.env) = eval o X.env := by rfl) (hline : (apos.endLine == pos.line) = true := by rfl) : PDE X (.Call (.Attribute o "reverse" apos) [] [] pos) (dReverse to) :=
  pe_imp (pe_bm0 PySem.F.plainAttrs_list PySem.F.slot_list_reverse PySem.F.type_list_reverse mt_reverse ho hbase hline) fun σ H Q ⟨R, F, env, M, Qd, a, e, h, k⟩ =>
    ⟨R, F, env, M, _, a, e, h, fun F1 H1 M1 d v s1 a1 r1 q1 => by
      have q1' : mLst M1 d fun q ds => Qd .non (mupd M1 q (.lst ds.reverse)) := by
        cases d with
        | ref q =>
          cases hm : M1 q with
          | none => simp only [hm] at q1
          | some z => cases z with
            | lst ds => simp only [hm] at q1; show (match M1 q with | some (.lst ds) => Qd .non (mupd M1 q (.lst ds.reverse)) | _ => False); rw [hm]; exact q1
            | _ => simp only [hm] at q1
        | _ => exact q1.elim
      exact ⟨mLst_ty a1 r1 q1', by
        obtain ⟨q, ds, xs, rfl, hm, hh, rx, q2⟩ := mLst_at a1 r1 q1'
        exact ⟨q, xs, rfl, rfl, hh, k F1 _ _ .non .non s1 (a1.wrote hm (o := .lst ds.reverse) ⟨xs.reverse, rfl, rx.reverse⟩) rfl q2⟩⟩⟩
/-- xs[::-1] of a list: a new own one -/
def dRevLM (te : DE) : DE := fun env M Q => te env M fun d M1 => match resD M1 d with
  | .lst ds => ∀ p, M1 p = none → Q (.ref p) (mupd M1 p (.lst ds.reverse))
  | _ => False
theorem pd_revLM {k : Nat} {p1 p2 p3 pos : Pos} (he : PDE X e te) : PDE X (.Subscript e (.Slice none none (some (.UnaryOp .USub (.Constant (.int 1) k p1) p2)) p3) pos) (dRevLM te) := pe_imp (pe_revL he) fun σ H Q ⟨R, F, env, M, Qd, a, e, h, k⟩ => ⟨R, F, env, M, _, a, e, h, fun F1 H1 M1 d v s1 a1 r1 q1 => by
  split at q1
  · rename_i ds hd
    obtain ⟨P, xs, rfl, hq, rx⟩ := (seq_at a1 r1).1 hd
    exact ⟨P, xs, rfl, SqL.of hq, fun p hp => k F1 _ _ (.ref p) _ s1 (a1.born hp (o := .lst ds.reverse) ⟨xs.reverse, rfl, rx.reverse⟩) rfl (q1 p (a1.freeM hp))⟩
  · exact q1.elim⟩
end
end L3
set_option Elab.async false
set_option linter.all false
set_option maxRecDepth 100000
set_option maxHeartbeats 1000000
/-! L3: live lots. -/
namespace L3
open PySem PySem.Spec PyProof.Rows L2
local macro_rules | `(tactic| walk_at "w") => `(tactic| conv => whnf)
theorem eqD_key {a b : D} (ha : isKey a = true) (hb : isKey b = true) : eqD a b = sameK a b := by
  rw [Bool.eq_iff_iff]
  constructor
  · intro h
    rw [nk_eqv (isKey_nk ha) (isKey_nk hb) h]
    exact decide_eq_true rfl
  · intro h
    rw [keyN_inj (isKey_nk ha) (isKey_nk hb) (of_decide_eq_true h)]
    exact nk_self (isKey_nk hb)
/-- whether a stand is in a lot -/
def hasS (lot : List St) (s : St) : Bool := lot.any fun z => sameK (stD z) (stD s)
theorem has_eqD (lot : List St) (s : St) : ((lot.map stD).any fun z => eqD z (stD s)) = hasS lot s := by
  unfold hasS
  rw [List.any_map]
  congr 1
  funext z
  exact eqD_key (isKey_st z) (isKey_st s)
theorem has_sameK (lot : List St) (s : St) : ((lot.map stD).any fun z => sameK z (stD s)) = hasS lot s := by
  unfold hasS
  rw [List.any_map]; rfl
noncomputable def keepsS (sc : Sc) (i : Nat) (ahead : List St) (s : St) : Bool := (onw sc i true s).any fun p => hasS ahead p.2
/-- the live lot of so many signs ahead of the end -/
noncomputable def liveN (sc : Sc) (n : Nat) : Nat → List St
  | 0 => lots sc n
  | j + 1 => (lots sc (n - (j + 1))).filter (keepsS sc (n - (j + 1)) (liveN sc n j))
noncomputable def livD (sc : Sc) (j : Nat) : D := .lst ((liveN sc sc.row.length j).map stD)
/-! ### what a dict of pairs holds -/
theorem unpair_map (f : D → D) (g : D → D) : ∀ xs : List D, unpair (xs.map fun x => .tup [f x, g x]) = some (xs.map fun x => (f x, g x))
  | [] => rfl
  | x :: xs => by
    show (unpair (xs.map fun x => .tup [f x, g x])).map _ = _
    rw [unpair_map f g xs]; rfl
theorem any_addD (ks : List D) (j d : D) : ((addD ks j).any fun k => sameK k d) = ((ks.any fun k => sameK k d) || sameK j d) := by
  unfold addD
  split
  · rename_i h
    obtain ⟨z, hz, e⟩ := List.any_eq_true.mp h
    have e := of_decide_eq_true e
    cases hj : sameK j d with
    | false => rw [Bool.or_false]
    | true =>
      rw [Bool.or_true]
      exact List.any_eq_true.mpr ⟨z, hz, by unfold sameK at hj ⊢; rw [e]; exact hj⟩
  · rw [List.any_append]; simp
theorem any_puts (d : D) : ∀ (ps : List (D × D)) (acc : List D × List D), ((ps.foldl putD acc).1.any fun k => sameK k d) = ((acc.1.any fun k => sameK k d) || ps.any fun p => sameK p.1 d)
  | [], acc => by simp
  | p :: ps, acc => by
    rw [List.foldl_cons, any_puts d ps, List.any_cons]
    show (((addD acc.1 p.1).any fun k => sameK k d) || _) = _
    rw [any_addD, Bool.or_assoc]
theorem lots_few {sc : Sc} (ok : ScOk sc) : ∀ {n : Nat}, n ≤ sc.row.length → (lots sc n).length ≤ 3888
  | 0, _ => by show 1 ≤ 3888; omega
  | n + 1, hn => by
    obtain ⟨a, b, sg, ea, eb, es, hne, hca, hb⟩ := sc_at ok (i := n) (by omega)
    have hl := lots_ok ok (by omega) ea
    have z := (nextsW_way ea eb hb hca hl).few hca
    have e := congrArg List.length (go_st ea eb hb hca hl)
    rw [List.length_map] at e
    show (go sc n (lots sc n)).length ≤ 3888
    rw [e]
    show (sortD _).length ≤ 3888
    rw [(sortD_perm _).length_eq]; exact z
def sp_law_live : SpD := fun ds M Q _ => ∃ sc, ds = [ptD sc] ∧ ScOk sc ∧ Q (.lst ((List.range (sc.row.length + 1)).map (livD sc)).reverse) M
def t_law_live_1 (wd : World) : DS := (dFrzN 6 (dFrzN 5 (dDrop (dAppend (dVar 2) (dVar 6)))))
def t_law_live_2 (wd : World) : DS := (dFrzN 2 (dRet (dRevL (dVar 2))))
def t_law_live (wd : World) : DS := (dSeq (dSet 1 (dCall sp_law_forth (dCons (dVar 0) dNil)))
    (dSeq (dSet 2 (dLstM (dCons (dUn rListD (dBin rIxD (dVar 1) (dUn rNegI (dC (.int 1))))) dNil)))
    (dSeq (dFor (iRangeD (dCons (dBin rSubI (dUn rLenD (dBin rIxD (dVar 0) (dC (.int 0)))) (dC (.int 1))) (dCons (dUn rNegI (dC (.int 1))) (dCons (dUn rNegI (dC (.int 1))) dNil)))) (.name 3) (dSeq (dAsg (dTup (dCons (dUn (rDictDk wd) (dLc (iLst (dBin rIxD (dVar 2) (dUn rNegI (dC (.int 1))))) (.name 7) dYes (dTup (dCons (dVar 7) (dCons (dC (.bl true)) dNil))) [7])) (dCons (dLstM dNil) dNil))) (.tup [(.name 5), (.name 6)]))
    (dSeq (dFor (iLst (dBin rIxD (dVar 1) (dVar 3))) (.name 4) (dIfS (dTru (dUn rAnyD (dLc (iLst (dCall sp_law_onward (dCons (dVar 0) (dCons (dVar 3) (dCons (dVar 4) (dCons (dC (.bl true)) dNil)))))) (.tup [(.name 8), (.name 7)]) dYes (dBin (rInDk wd id) (dVar 7) (dVar 5)) [8, 7]))) (dDrop (dAppend (dVar 6) (dVar 4))) dNext))
    (t_law_live_1 wd))))
    (t_law_live_2 wd))))
theorem sub_nat {n i : Nat} (h : i < n) : (n : Int) - 1 - (i : Int) = ((n - (i + 1) : Nat) : Int) := by omega
theorem r_law_live (wd : World) (ds : List D) (M : Mp) (Q : DK) (E : DX) (hl : ds.length = 1) (h : sp_law_live ds M Q E) : t_law_live wd { nx := fun _ M' => Q .non M', rt := Q } (startD ["_law_s", "_law_forth_here", "_law_found", "_law_at", "_law_stand", "_law_later", "_law_kept", "_law_to", "_law_name"] ds) M := by
  obtain ⟨sc, rfl, ok, q⟩ := h
  have hf := ok.few
  walk_at "w"
  refine ⟨sc, rfl, ok, ?_⟩
  walk_at "w"
  rw [atI_last (range_last' sc.row.length)]
  walk_at "w"
  intro p hp
  walk_at "w"
  refine ⟨⟨rfl, by rw [List.length_map]; omega, by decide, by decide, by rw [List.length_map]; omega⟩, ?_⟩
  rw [List.length_map, show ((sc.row.length : Int) - 1 - -1).toNat = sc.row.length by omega]
  refine for_inv (fun i env M' => M' = mupd M p (.lst ((List.range (i + 1)).map (livD sc))) ∧ ∃ e3 e4 e5 e6 e7 e8, env = [some (ptD sc), some (.lst ((List.range (sc.row.length + 1)).map (lotD sc))), some (.ref p), e3, e4, e5, e6, e7, e8]) ⟨rfl, _, _, _, _, _, _, rfl⟩
    (fun i x env M' K hx ⟨eM, e3, e4, e5, e6, e7, e8, ee⟩ hK => ?_) fun env M' ⟨eM, e3, e4, e5, e6, e7, e8, ee⟩ => ?_
  · subst eM ee
    obtain ⟨hi, rfl⟩ := rngD_at hx
    rw [sub_nat hi]
    have hn : sc.row.length - (i + 1) < sc.row.length := by omega
    obtain ⟨a, b, sg, ea, eb, es, hne, hca, hb⟩ := sc_at ok hn
    have hlot := lots_ok ok (Nat.le_of_lt hn) ea
    have hlf := lots_few ok (Nat.le_of_lt hn)
    generalize hat : sc.row.length - (i + 1) = at_ at *
    walk_at "w"
    rw [resD_new]
    walk_at "w"
    rw [atI_last (range_last' i)]
    walk_at "w"
    refine lc_map (fun x => .tup [x, .bl true]) (fun x hx K1 K2 h1 => h1) ?_
    walk_at "w"
    rw [show unpair (List.map (fun x => D.tup [x, D.bl true]) (List.map stD (liveN sc sc.row.length i))) = some (((liveN sc sc.row.length i).map stD).map fun x => (x, D.bl true)) from unpair_map id (fun _ => .bl true) _]
    refine ⟨fun z hz => ?_, ?_⟩
    · obtain ⟨y, hy, rfl⟩ := List.mem_map.mp hz
      obtain ⟨s, _, rfl⟩ := List.mem_map.mp hy
      exact isKey_st s
    have hks : ∀ s : St, (((((liveN sc sc.row.length i).map stD).map fun x => (x, D.bl true)).foldl putD ([], [])).1.any fun k => sameK k (stD s)) = hasS (liveN sc sc.row.length i) s := fun s => by
      rw [any_puts, ← has_sameK, List.any_map]; rfl
    generalize ((((liveN sc sc.row.length i).map stD).map fun x => (x, D.bl true)).foldl putD ([], [])).1 = ks at hks
    generalize ((((liveN sc sc.row.length i).map stD).map fun x => (x, D.bl true)).foldl putD ([], [])).2 = vs
    intro pk hpk
    have hk : pk ≠ p := fun e => by rw [e, mupd_same] at hpk; cases hpk
    have hkM : M pk = none := by rw [mupd_ne hk] at hpk; exact hpk
    walk_at "w"
    intro pl hpl
    have hlk : pl ≠ pk := fun e => by rw [e, mupd_same] at hpl; cases hpl
    rw [mupd_ne hlk] at hpl
    have hlp : pl ≠ p := fun e => by rw [e, mupd_same] at hpl; cases hpl
    have hlM : M pl = none := by rw [mupd_ne hlp] at hpl; exact hpl
    walk_at "w"
    rw [atI_map (f := lotD sc) (xs := List.range (sc.row.length + 1)) (i := at_) (x := at_) (List.getElem?_range (by omega))]
    walk_at "w"
    refine for_inv (fun j env M' => M' = mupd (mupd (mupd M p (.lst ((List.range (i + 1)).map (livD sc)))) pk (.dkd wd ks vs)) pl (.lst ((((lots sc at_).take j).filter (keepsS sc at_ (liveN sc sc.row.length i))).map stD)) ∧ ∃ e4 e7 e8, env = [some (ptD sc), some (.lst ((List.range (sc.row.length + 1)).map (lotD sc))), some (.ref p), some (.int at_), e4, some (.ref pk), some (.ref pl), e7, e8]) ⟨rfl, _, _, _, rfl⟩
      (fun j x env M' K2 hx2 ⟨eM, e4, e7, e8, ee⟩ hK2 => ?_) fun env M' ⟨eM, e4, e7, e8, ee⟩ => ?_
    · subst eM ee
      rw [List.getElem?_map] at hx2
      obtain ⟨s, hs, rfl⟩ := Option.map_eq_some_iff.mp hx2
      have good := hlot s (List.mem_of_getElem? hs)
      walk_at "w"
      refine ⟨sc, at_, a, s, true, rfl, ok, hn, ea, good, ?_⟩
      walk_at "w"
      refine lc_map (fun x => match x with
        | .tup [_, d] => .bl (ks.any fun k => sameK k d)
        | _ => .non) (fun x hx K1 K3 h1 => ?_) ?_
      · obtain ⟨y, _, rfl⟩ := List.mem_map.mp hx
        walk_at "w"
        rw [mupd_ne (Ne.symm hlk), mupd_same]
        exact ⟨rfl, isKey_st _, h1⟩
      · have e : ((onw sc at_ true s).map nsD).map (fun x => match x with
            | .tup [_, d] => .bl (ks.any fun k => sameK k d)
            | _ => D.non) = ((onw sc at_ true s).map fun p => hasS (liveN sc sc.row.length i) p.2).map D.bl := by
          rw [List.map_map, List.map_map]
          refine List.map_congr_left fun p _ => ?_
          show D.bl _ = D.bl _
          rw [hks]
        rw [e]
        walk_at "w"
        rw [asBls_map]
        walk_at "w"
        have ek : (((onw sc at_ true s).map fun p => hasS (liveN sc sc.row.length i) p.2).any id) = keepsS sc at_ (liveN sc sc.row.length i) s := by
          rw [List.any_map]; rfl
        rw [ek]
        refine brn_by (fun hc => ?_) fun hc => ?_
        · walk_at "w"
          refine ⟨?_, ?_⟩
          · walk_at "w"
            rw [mupd_same]
            trivial
          walk_at "w"
          rw [mupd_same]
          refine ⟨?_, ?_⟩
          · rw [sizeLine_eq, List.length_map]
            have h1 := List.length_filter_le (keepsS sc at_ (liveN sc sc.row.length i)) ((lots sc at_).take j)
            rw [List.length_take] at h1
            omega
          · refine hK2 _ _ ⟨?_, _, _, _, rfl⟩
            rw [mupd_mupd, List.take_add_one, hs, Option.toList_some, List.filter_append, List.map_append]
            simp [hc]
        · refine hK2 _ _ ⟨?_, _, _, _, rfl⟩
          rw [List.take_add_one, hs, Option.toList_some, List.filter_append, List.map_append]
          simp [hc]
    · subst eM ee
      rw [List.length_map, List.take_length]
      walk_at "w"
      rw [mupd_same]
      walk_at "w"
      rw [mdel_mupd (by rw [mupd_ne hlk, mupd_ne hlp]; exact hlM)]
      rw [mupd_same]
      walk_at "w"
      rw [mdel_mupd (by rw [mupd_ne hk]; exact hkM)]
      refine ⟨?_, ?_⟩
      · walk_at "w"
        rw [mupd_same]
        trivial
      walk_at "w"
      rw [mupd_same]
      refine ⟨by rw [sizeLine_eq, List.length_map, List.length_range]; omega, ?_⟩
      refine hK _ _ ⟨?_, _, _, _, _, _, _, rfl⟩
      rw [mupd_mupd, List.range_succ (n := i + 1), List.map_append, ← hat]; rfl
  · subst eM ee
    rw [rngD_length]
    walk_at "w"
    rw [mupd_same]
    walk_at "w"
    rw [mdel_mupd hp]
    exact q
end L3
set_option Elab.async false
set_option linter.all false
set_option maxRecDepth 100000
set_option maxHeartbeats 1000000
/-! L3: the program's live lots. -/
namespace L3
open PySem PySem.Spec PyProof.Rows L2
local macro_rules | `(tactic| walk_at "w") => `(tactic| conv => whnf)
theorem lots_thaw {sc : Sc} {M : Mp} {q p : Addr} {n : Nat} (hq : M q = none) (hp : M p = none) (hne : p ≠ q) : Thaw (mupd (mupd M q (.lst [stD (firstOf sc)])) p (.lst (foundM sc q n))) (.ref p) (.lst ((List.range (n + 1)).map (lotD sc))) M := by
  refine Thaw.lst mupd_same ?_
  rw [mdel_mupd (by rw [mupd_ne hne]; exact hp), List.range_succ_eq_map, List.map_cons, List.map_map]
  refine Thaws.cons (M1 := M) (Thaw.lst (ds := [stD (firstOf sc)]) mupd_same ?_) (thaws_keep _ _)
  rw [mdel_mupd hq]
  exact thaws_keep _ _
theorem lots_le' (g : Nat → List St) (n : Nat) : D.le 5 (.lst ((List.range n).map fun j => .lst ((g j).map stD))) = true := by
  simp only [D.le]
  refine les_of fun d hd => ?_
  obtain ⟨k, _, rfl⟩ := List.mem_map.mp hd
  simp only [D.le]
  refine les_of fun d hd => ?_
  obtain ⟨s, _, rfl⟩ := List.mem_map.mp hd
  exact st_le s
noncomputable def foundL (sc : Sc) (q : Addr) (n : Nat) : List D := .ref q :: (List.range n).map fun k => livD sc (k + 1)
noncomputable def lastL (sc : Sc) (q : Addr) : Nat → D
  | 0 => .ref q
  | n + 1 => livD sc (n + 1)
theorem foundL_succ (sc : Sc) (q : Addr) (n : Nat) : foundL sc q (n + 1) = foundL sc q n ++ [livD sc (n + 1)] := by
  unfold foundL
  rw [List.range_succ, List.map_append]; rfl
theorem foundL_last (sc : Sc) (q : Addr) : ∀ n, (foundL sc q n).getLast? = some (lastL sc q n)
  | 0 => rfl
  | n + 1 => by rw [foundL_succ, List.getLast?_append]; rfl
theorem lastL_res {sc : Sc} {M : Mp} {q : Addr} (h : M q = some (.lst ((liveN sc sc.row.length 0).map stD))) : ∀ n, resD M (lastL sc q n) = livD sc n
  | 0 => resD_of h
  | n + 1 => rfl
def sp_Scroll_live : SpD := fun ds M Q _ => ∃ sc, ds = [scD sc] ∧ ScOk sc ∧ ∀ q p, M q = none → M p = none → p ≠ q → Q (.ref p) (mupd (mupd M q (.lst ((liveN sc sc.row.length 0).map stD))) p (.lst (foundL sc q sc.row.length).reverse))
def t_Scroll_live_1 : DS := (dFrzN 2 (dRet (dRevLM (dVar 2))))
def t_Scroll_live : DS := (dSeq (dSet 1 (dDeep (dMeth CScroll sp_Scroll_forth (dVar 0) dNil)))
    (dSeq (dSet 2 (dLstM (dCons (dUn rListM (dBin rIxD (dVar 1) (dUn rNegI (dC (.int 1))))) dNil)))
    (dSeq (dFor (iRangeD (dCons (dBin rSubI (dUn rLenD (dFld CScroll 0 (dVar 0))) (dC (.int 1))) (dCons (dUn rNegI (dC (.int 1))) (dCons (dUn rNegI (dC (.int 1))) dNil)))) (.name 3) (dSeq (dSet 4 (dBin rIxD (dVar 2) (dUn rNegI (dC (.int 1)))))
    (dDrop (dAppend (dVar 2) (dLc (iLst (dBin rIxD (dVar 1) (dVar 3))) (.name 5) (dTru (dUn rAnyD (dLc (iLst (dMeth CScroll sp_Scroll_onward (dVar 0) (dCons (dVar 3) (dCons (dVar 5) dNil)))) (.tup [(.name 6), (.name 7)]) dYes (dBin (rInDD id) (dVar 7) (dVar 4)) [6, 7]))) (dVar 5) [5])))))
    t_Scroll_live_1)))
theorem st_les (lot : List St) : D.les 58 (lot.map stD) = true := les_of fun d hd => by
  obtain ⟨s, _, rfl⟩ := List.mem_map.mp hd
  exact le_mono (by omega) (st_le s)
theorem r_Scroll_live (ds : List D) (M : Mp) (Q : DK) (E : DX) (hl : ds.length = 1) (h : sp_Scroll_live ds M Q E) : t_Scroll_live { nx := fun _ M' => Q .non M', rt := Q } (startD ["self", "some", "found", "at", "ahead", "stand", "name", "later"] ds) M := by
  obtain ⟨sc, rfl, ok, qq⟩ := h
  have hf := ok.few
  walk_at "w"
  refine ⟨rfl, sc, rfl, ok, fun q0 p0 hq0 hp0 hne => ⟨_, _, lots_thaw hq0 hp0 hne, ?_⟩⟩
  walk_at "w"
  rw [atI_last (range_last' sc.row.length)]
  walk_at "w"
  intro q hq
  walk_at "w"
  intro p hp
  have hpq : p ≠ q := fun e => by rw [e, mupd_same] at hp; cases hp
  have hpM : M p = none := by rw [mupd_ne hpq] at hp; exact hp
  walk_at "w"
  refine ⟨rfl, ?_⟩
  walk_at "w"
  refine ⟨⟨rfl, by rw [List.length_map]; omega, by decide, by decide, by rw [List.length_map]; omega⟩, ?_⟩
  rw [List.length_map, show ((sc.row.length : Int) - 1 - -1).toNat = sc.row.length by omega]
  refine for_inv (fun i env M' => M' = mupd (mupd M q (.lst ((liveN sc sc.row.length 0).map stD))) p (.lst (foundL sc q i)) ∧ ∃ e3 e4 e5 e6 e7, env = [some (scD sc), some (.lst ((List.range (sc.row.length + 1)).map (lotD sc))), some (.ref p), e3, e4, e5, e6, e7]) ⟨rfl, _, _, _, _, _, rfl⟩
    (fun i x env M' K hx ⟨eM, e3, e4, e5, e6, e7, ee⟩ hK => ?_) fun env M' ⟨eM, e3, e4, e5, e6, e7, ee⟩ => ?_
  · subst eM ee
    obtain ⟨hi, rfl⟩ := rngD_at hx
    rw [sub_nat hi]
    have hn : sc.row.length - (i + 1) < sc.row.length := by omega
    obtain ⟨a, b, sg, ea, eb, es, hne, hca, hb⟩ := sc_at ok hn
    have hlot := lots_ok ok (Nat.le_of_lt hn) ea
    have hlf := lots_few ok (Nat.le_of_lt hn)
    have hres := lastL_res (sc := sc) (M := mupd (mupd M q (.lst ((liveN sc sc.row.length 0).map stD))) p (.lst (foundL sc q i))) (q := q) (by rw [mupd_ne (Ne.symm hpq), mupd_same]) i
    generalize hat : sc.row.length - (i + 1) = at_ at *
    walk_at "w"
    rw [resD_new]
    walk_at "w"
    rw [atI_end (foundL_last sc q i)]
    walk_at "w"
    refine ⟨?_, ?_⟩
    · walk_at "w"
      rw [mupd_same]
      trivial
    walk_at "w"
    rw [atI_map (f := lotD sc) (xs := List.range (sc.row.length + 1)) (i := at_) (x := at_) (List.getElem?_range (by omega))]
    walk_at "w"
    refine lc_filter (fun x => keepsS sc at_ (liveN sc sc.row.length i) (deSt x)) id (fun x hx K1 K2 h1 h2 => ?_) ?_
    · obtain ⟨s, hs, rfl⟩ := List.mem_map.mp hx
      simp only [deSt_st] at h1 h2
      have good := hlot s hs
      walk_at "w"
      refine ⟨rfl, sc, at_, a, s, rfl, ok, hn, ea, good, ?_⟩
      walk_at "w"
      refine lc_map (fun x => match x with
        | .tup [_, d] => .bl (hasS (liveN sc sc.row.length i) (deSt d))
        | _ => .non) (fun x hx K3 K4 h3 => ?_) ?_
      · obtain ⟨⟨nm, z⟩, _, rfl⟩ := List.mem_map.mp hx
        have h3 : K3 (.bl (hasS (liveN sc sc.row.length i) (deSt (stD z)))) _ := h3
        rw [deSt_st, ← has_eqD] at h3
        walk_at "w"
        rw [hres]
        exact ⟨⟨le_mono (by omega) (st_le z), st_les _⟩, h3⟩
      · have e : ((onw sc at_ true s).map nsD).map (fun x => match x with
            | .tup [_, d] => .bl (hasS (liveN sc sc.row.length i) (deSt d))
            | _ => D.non) = ((onw sc at_ true s).map fun p => hasS (liveN sc sc.row.length i) p.2).map D.bl := by
          rw [List.map_map, List.map_map]
          refine List.map_congr_left fun p _ => ?_
          show D.bl (hasS _ (deSt (stD p.2))) = D.bl _
          rw [deSt_st]
        rw [e]
        walk_at "w"
        rw [asBls_map]
        walk_at "w"
        have ek : (((onw sc at_ true s).map fun p => hasS (liveN sc sc.row.length i) p.2).any id) = keepsS sc at_ (liveN sc sc.row.length i) s := by
          rw [List.any_map]; rfl
        rw [ek]
        refine brn_by (fun hc => h1 hc) fun hc => h2 hc
    · have e : (((lots sc at_).map stD).filter fun x => keepsS sc at_ (liveN sc sc.row.length i) (deSt x)).map id = ((lots sc at_).filter (keepsS sc at_ (liveN sc sc.row.length i))).map stD := by
        rw [List.map_id, List.filter_map]
        congr 1
        refine List.filter_congr fun s _ => ?_
        show keepsS sc at_ _ (deSt (stD s)) = _
        rw [deSt_st]
      rw [e]
      walk_at "w"
      rw [mupd_same]
      refine ⟨by rw [sizeLine_eq]; unfold foundL; rw [List.length_cons, List.length_map, List.length_range]; omega, ?_⟩
      refine hK _ _ ⟨?_, _, _, _, _, _, rfl⟩
      rw [mupd_mupd, foundL_succ, ← hat]; rfl
  · subst eM ee
    rw [rngD_length]
    walk_at "w"
    rw [mupd_same]
    walk_at "w"
    rw [mdel_mupd (by rw [mupd_ne hpq]; exact hpM)]
    intro p2 hp2
    have h2q : p2 ≠ q := fun e => by rw [e, mupd_same] at hp2; cases hp2
    rw [mupd_ne h2q] at hp2
    exact qq q p2 hq hp2 h2q
end L3
set_option Elab.async false
set_option linter.all false
set_option maxRecDepth 100000
set_option maxHeartbeats 1000000
namespace L3
open PySem PySem.Spec PyProof.Rows L2
local macro_rules | `(tactic| walk_at "w") => `(tactic| conv => whnf)
theorem live_none {sc : Sc} {n : Nat} (h : liveN sc n 0 = []) : ∀ j, liveN sc n j = []
  | 0 => h
  | j + 1 => by
    show (lots sc (n - (j + 1))).filter (keepsS sc (n - (j + 1)) (liveN sc n j)) = []
    rw [live_none h j, List.filter_eq_nil_iff]
    intro s _
    unfold keepsS hasS
    simp
noncomputable def dueL (sc : Sc) : List D := ((List.range (sc.row.length + 1)).map (livD sc)).reverse
theorem dueL_last (sc : Sc) : (dueL sc).getLast? = some (livD sc 0) := by
  unfold dueL
  rw [List.getLast?_reverse, List.range_succ_eq_map]; rfl
theorem foundL_rev (sc : Sc) (q : Addr) (n : Nat) : (foundL sc q n).reverse = ((List.range n).map fun k => livD sc (k + 1)).reverse ++ [.ref q] := by
  unfold foundL; rw [List.reverse_cons]
theorem foundL_end (sc : Sc) (q : Addr) (n : Nat) : (foundL sc q n).reverse.getLast? = some (.ref q) := by
  rw [List.getLast?_reverse]; rfl
theorem live_thaw {sc : Sc} {M : Mp} {q p : Addr} (hq : M q = none) (hp : M p = none) (hne : p ≠ q) : Thaw (mupd (mupd M q (.lst ((liveN sc sc.row.length 0).map stD))) p (.lst (foundL sc q sc.row.length).reverse)) (.ref p) (.lst (dueL sc)) M := by
  refine Thaw.lst mupd_same ?_
  rw [mdel_mupd (by rw [mupd_ne hne]; exact hp), foundL_rev]
  unfold dueL
  rw [List.range_succ_eq_map, List.map_cons, List.map_map, List.reverse_cons]
  refine thaws_app (M1 := mupd M q (.lst ((liveN sc sc.row.length 0).map stD))) (thaws_keep _ _) (Thaws.cons (M1 := M) (Thaw.lst mupd_same ?_) (.nil _))
  rw [mdel_mupd hq]
  exact thaws_keep _ _
theorem due_le (sc : Sc) : D.le 5 (.lst (dueL sc)) = true := by
  simp only [D.le]
  refine les_of fun d hd => ?_
  obtain ⟨k, _, rfl⟩ := List.mem_map.mp (List.mem_reverse.mp hd)
  unfold livD
  simp only [D.le]
  refine les_of fun d hd => ?_
  obtain ⟨s, _, rfl⟩ := List.mem_map.mp hd
  exact st_le s
def t_law_1 : DS := (dSeq (dDrop (dAppend (dBin rIxD (dVar 7) (dUn rNegI (dC (.int 1)))) (dC (.int 0))))
    (dDrop (dReverse (dVar 7))))
def t_law_2 : DS := (dIfS (dAnd (dTest (dBin (rEqDD id) (dBin rIxD (dVar 6) (dUn rNegI (dC (.int 1)))) (dLst dNil))) (dNot (dTru (dUn rAllD (dLc (iLst (dDeep (dMeth CScroll sp_Scroll_live (dVar 5) dNil))) (.name 8) dYes (dBin (rEqDD id) (dVar 8) (dLst dNil)) [8]))))) (dRet (dC (.bl false))) dNext)
def t_law_3 : DS := (dRet (dC (.bl true)))
def t_law : DS := (dSeq (dSet 1 (dCall sp_law_bag (dCons (dVar 0) dNil)))
    (dSeq (dFor (iRange1 (dCons (dC (.int 3)) dNil)) (.name 2) (dSeq (dSet 3 (dCall sp_law_scroll_drawn (dCons (dVar 1) (dCons (dC (.int 2)) (dCons (dC (.int 12)) (dCons (dCall sp_law_of (dCons (dVar 1) (dCons (dLst (dCons (dC (.int 0)) (dCons (dC (.int 2)) (dCons (dC (.int 5)) dNil)))) dNil))) dNil))))))
    (dSeq (dPar 5 6 (dCons (dDeep (dCall sp_law_made (dCons (dVar 3) dNil))) (dCons (dCall sp_law_live (dCons (dBin rIxD (dVar 3) (dC (.int 3))) dNil)) dNil)))
    (dSeq (dFor (iRange1 (dCons (dC (.int 2)) dNil)) (.name 4) (dSeq (dSet 7 (dMeth CScroll sp_Scroll_live (dVar 5) dNil))
    (dSeq (dIfS (dNot (dTru (dPeekD 7 (dCall (sp_law_like 8) (dCons (dVar 7) (dCons (dVar 6) dNil)))))) (dRet (dC (.bl false))) dNext)
    t_law_1)))
    t_law_2))))
    t_law_3))
theorem r_law (ds : List D) (M : Mp) (Q : DK) (E : DX) (hl : ds.length = 1) (h : sp_law ds M Q E) : t_law { nx := fun _ M' => Q .non M', rt := Q } (startD ["_law_script", "_law_bag_here", "_law_turn", "_law_drawn", "_law_again", "_law_scroll", "_law_due", "_law_found", "_law_lot"] ds) M := by
  obtain ⟨ns, rfl, q⟩ := h
  walk_at "w"
  refine ⟨ns, rfl, fun p b hp hb => ?_⟩
  walk_at "w"
  refine ⟨⟨by decide, by decide⟩, ?_⟩
  walk_at "w"
  refine for_inv (fun i env M' => env.length = 9 ∧ env[1]? = some (some (.ref p)) ∧ ∃ b', Bag.Ok b' ∧ M' p = some (.lst b'.l)) ⟨rfl, rfl, b, hb, mupd_same⟩ (fun i x env M' K hx ⟨h1, h2, b', hb', hM⟩ hK => ?_) fun env M' ⟨h1, h2, b', hb', e⟩ => q _
  match env, h1, h2 with
  | [e0, e1, e2, e3, e4, e5, e6, e7, e8], _, h2 =>
    have h2' : e1 = some (.ref p) := Option.some.inj h2
    subst h2'
    walk_at "w"
    refine ⟨p, b', .lst [.int 0, .int 2, .int 5], [.int 0, .int 2, .int 5], rfl, hM, hb', by decide, by decide, .inl ⟨rfl, fun e => by cases e⟩, fun y b1 hb1 hy => ?_⟩
    obtain ⟨st, rfl, s0, s1⟩ : ∃ st : Int, y = .int st ∧ 0 ≤ st ∧ st ≤ 5 := by
      simp only [List.mem_cons, List.not_mem_nil, or_false] at hy
      rcases hy with rfl | rfl | rfl <;> exact ⟨_, rfl, by decide, by decide⟩
    walk_at "w"
    refine ⟨p, b1, 2, 12, st, rfl, mupd_same, hb1, by decide, by decide, by decide, by decide, s0, by omega, fun m tr tk b2 hb2 ok hm ltr ltk => ?_⟩
    rw [mupd_mupd]
    generalize hMM : mupd M' p (.lst b2.l) = MM
    have hM2 : MM p = some (.lst b2.l) := by rw [← hMM, mupd_same]
    clear hMM
    have sok := sc_ok ok (by omega)
    walk_at "w"
    refine ⟨m, tr, tk, rfl, ok, fun p1 M1 th => ⟨_, _, th, ?_⟩⟩
    walk_at "w"
    refine ⟨scOf m tr tk, rfl, sok, ?_⟩
    walk_at "w"
    refine ⟨⟨by decide, by decide⟩, ?_⟩
    walk_at "w"
    have hn : (scOf m tr tk).row.length ≤ 30 := sok.few
    generalize scOf m tr tk = sc at sok hn ⊢
    refine for_inv (fun j env M' => M' p = some (.lst b2.l) ∧ ∃ e4 e7, env = [e0, some (.ref p), some x, some (dwD m tr tk), e4, some (scD sc), some (.lst (dueL sc)), e7, e8]) ⟨hM2, _, _, rfl⟩ (fun j y env M2 K2 hy ⟨hM3, e4, e7, e1⟩ hK2 => ?_) fun env M2 ⟨hM3, e4, e7, e1⟩ => ?_
    · subst e1
      walk_at "w"
      refine ⟨rfl, ?_⟩
      refine ⟨sc, rfl, sok, fun q1 p1 hq1 hp1 hne => ?_⟩
      have npq : p ≠ q1 := fun e => by rw [e, hq1] at hM3; cases hM3
      have npp : p ≠ p1 := fun e => by rw [e, hp1] at hM3; cases hM3
      walk_at "w"
      refine ⟨p1, _, _, rfl, live_thaw hq1 hp1 hne, ?_⟩
      walk_at "w"
      have l0 := le_mono (by omega : 5 ≤ 7) (due_le sc)
      refine ⟨_, _, rfl, l0, l0, by decide, ?_⟩
      rw [same_self l0]
      refine ⟨rfl, ?_⟩
      walk_at "w"
      rw [resD_of mupd_same]
      walk_at "w"
      rw [atI_end (foundL_end sc q1 sc.row.length)]
      walk_at "w"
      refine ⟨?_, ?_⟩
      · walk_at "w"
        rw [mupd_ne (Ne.symm hne), mupd_same]
        trivial
      walk_at "w"
      rw [mupd_ne (Ne.symm hne), mupd_same]
      refine ⟨by
        rw [sizeLine_eq, List.length_map]
        have := lots_few sok (Nat.le_refl sc.row.length)
        show (lots sc sc.row.length).length < _
        omega, ?_⟩
      walk_at "w"
      rw [mupd_ne hne, mupd_same]
      refine hK2 _ _ ⟨?_, _, _, rfl⟩
      rw [mupd_ne npp, mupd_ne npq, mupd_ne npp, mupd_ne npq]
      exact hM3
    · subst e1
      walk_at "w"
      rw [atI_end (dueL_last sc)]
      walk_at "w"
      refine ⟨⟨le_mono (by omega) (show D.le 4 (livD sc 0) = true from by
        unfold livD
        simp only [D.le]
        refine les_of fun d hd => ?_
        obtain ⟨s, _, rfl⟩ := List.mem_map.mp hd
        exact st_le s), rfl⟩, ?_⟩
      walk_at "w"
      refine brn_by (fun hc => ?_) fun hc => hK _ _ ⟨rfl, rfl, b2, hb2, hM3⟩
      have hc' : eqD (.lst ((liveN sc sc.row.length 0).map stD)) (.lst []) = true := hc
      rw [eqD_nil, List.isEmpty_iff, List.map_eq_nil_iff] at hc'
      have hno := live_none hc'
      walk_at "w"
      refine ⟨rfl, sc, rfl, sok, fun q1 p1 hq1 hp1 hne => ⟨_, _, live_thaw hq1 hp1 hne, ?_⟩⟩
      walk_at "w"
      refine lc_map (fun _ => .bl true) (fun z hz K3 K4 h3 => ?_) ?_
      · obtain ⟨k, _, rfl⟩ := List.mem_map.mp (List.mem_reverse.mp hz)
        have ez : livD sc k = .lst [] := by unfold livD; rw [hno k]; rfl
        rw [ez]
        exact ⟨⟨rfl, rfl⟩, h3⟩
      · rw [show (dueL sc).map (fun _ => D.bl true) = ((dueL sc).map fun _ => true).map D.bl by rw [List.map_map]; rfl]
        walk_at "w"
        rw [asBls_map]
        walk_at "w"
        rw [show ((dueL sc).map fun _ => true).all id = true by simp]
        exact hK _ _ ⟨rfl, rfl, b2, hb2, hM3⟩
end L3
set_option Elab.async false
set_option linter.all false
set_option maxRecDepth 100000
set_option maxHeartbeats 1000000
/-! L3: a law at its head. -/
namespace L3
open PySem PySem.Spec PyProof.Rows L2
theorem law_start {K : PySem.W.Frag} {H : Hp} {a : Addr} {ns : List Int} {sp : SpD} {E : XK} (hS : SqL K H a (ns.map V.int)) (h : sp [.lsk (ns.map D.int)] (fun _ => none) (fun d _ => d = .bl true) X0) : upSp K 1 sp [.ref a] H (fun v _ => v = .bl true) E := by
  refine ⟨fun _ => none, H, fun _ => none, [.lsk (ns.map D.int)], _, _, ⟨Same.refl _, fun _ _ e => (by cases e), fun _ _ e => (by cases e)⟩, ⟨.ref a, [], rfl, ⟨a, _, rfl, hS, Reps.ofInts ns⟩, rfl⟩, rfl, h, fun F' H' M' d v s at_ r q => ?_, kx0⟩
  subst q
  exact r
end L3
set_option Elab.async false
set_option linter.all false
set_option maxRecDepth 100000
set_option maxHeartbeats 1000000
/-! L3: what the head tells, looked up in a tree. -/
namespace L3
open PySem PySem.Spec PyProof.Rows L2
def obsP (n : Nat) (fb : List (PySem.W.Frag → Bool)) (fa : List He.Fa) (fn : List He.DefD) (s : Shared) : AlX := match HandSHeadRun.treeOf s with
  | some x => HandSHeadRun.frS x fun x => obsXG n fb fa fn (HandSHeadRun.getT x)
  | none => (false, He.valD fn)
theorem obsP_ok {n : Nat} {fb : List (PySem.W.Frag → Bool)} {fa : List He.Fa} {fn : List He.DefD} {s : Shared} (h : obsP n fb fa fn s = valX fn) : obsXG n fb fa fn s.heap.get? = valX fn := by
  unfold obsP at h
  cases e : HandSHeadRun.treeOf s with
  | none =>
    rw [e] at h
    have := congrArg (fun z : AlX => z.1) h
    cases this
  | some x =>
    rw [e] at h
    have h2 : (HandSHeadRun.frS x fun x => obsXG n fb fa fn (HandSHeadRun.getT x)) = valX fn := h
    rw [HandSHeadRun.frS_eq] at h2
    have ex := (HandSHeadRun.treeOf_eq e).1
    have eg : HandSHeadRun.getT x = s.heap.get? := funext fun a => by rw [HandSHeadRun.getT_eq, ex]
    rw [eg] at h2
    exact h2
def hookP (n : Nat) (fb : List (PySem.W.Frag → Bool)) (fa : List He.Fa) (fn : List He.DefD) : PySem.W.Hook where
  α := AlX
  obs := fun s => obsP n fb fa fn s
  val := fun _ => valX fn
  says := fun _ h => ∃ K : PySem.W.Frag, K.In h ∧ SaysX fb fa fn K
  of := fun _ _ e => ⟨_, He.frG_in, obsP_ok e⟩
  keeps := fun _ _ _ ⟨K, hK, c⟩ k => ⟨K, PySem.W.Frag.In.keeps hK k, c⟩
end L3
set_option Elab.async false
set_option linter.all false
set_option maxRecDepth 100000
set_option maxHeartbeats 0
namespace L3
open PySem PySem.Spec PyProof.Rows L2
/-! text -/
def topS (i : Nat) : Stmt := PySem.Challenge.pw_whoseink_k16_live_lots.main.body.getD i (.Pass ⟨0, 0, 0, 0⟩)
abbrev s_law_bag : Stmt := topS 33
abbrev N_law_bag : List Str := ["_law_script", "_law_salt", "_law_cell"]
theorem sc_law_bag : FnScope N_law_bag ["_law_script"] (defScope s_law_bag) := ⟨rfl, rfl, rfl, by decide +kernel, rfl, by decide +kernel, by decide +kernel⟩
abbrev s_law_pull : Stmt := topS 34
abbrev N_law_pull : List Str := ["_law_bag_here", "_law_many", "_law_seed", "_law_cell", "_law_got"]
theorem sc_law_pull : FnScope N_law_pull ["_law_bag_here", "_law_many"] (defScope s_law_pull) := ⟨rfl, rfl, rfl, by decide +kernel, rfl, by decide +kernel, by decide +kernel⟩
abbrev s_law_of : Stmt := topS 35
abbrev N_law_of : List Str := ["_law_bag_here", "_law_things"]
theorem sc_law_of : FnScope N_law_of ["_law_bag_here", "_law_things"] (defScope s_law_of) := ⟨rfl, rfl, rfl, by decide +kernel, rfl, by decide +kernel, by decide +kernel⟩
abbrev s_law_letters : Stmt := topS 36
abbrev N_law_letters : List Str := []
theorem sc_law_letters : FnScope N_law_letters [] (defScope s_law_letters) := ⟨rfl, rfl, rfl, by decide +kernel, rfl, by decide +kernel, by decide +kernel⟩
abbrev s_law_signs : Stmt := topS 39
abbrev N_law_signs : List Str := ["_law_bag_here", "_law_limit", "_law_start", "_law_step", "_law_many", "_law_letters_here", "_law_k"]
theorem sc_law_signs : FnScope N_law_signs ["_law_bag_here", "_law_limit"] (defScope s_law_signs) := ⟨rfl, rfl, rfl, by decide +kernel, rfl, by decide +kernel, by decide +kernel⟩
abbrev s_law_names : Stmt := topS 38
abbrev N_law_names : List Str := ["_law_bag_here", "_law_many", "_law_step", "_law_k", "_law_size", "_law_letters_here", "_law_at", "_law_start", "_law_base", "_law_found", "_law_sign", "_law_name"]
theorem sc_law_names : FnScope N_law_names ["_law_bag_here", "_law_many"] (defScope s_law_names) := ⟨rfl, rfl, rfl, by decide +kernel, rfl, by decide +kernel, by decide +kernel⟩
abbrev s_law_writer : Stmt := topS 40
abbrev N_law_writer : List Str := ["_law_bag_here", "_law_name", "_law_places", "_law_signs_here", "_law_thick", "_law_lines", "_law_place", "_law_counts", "_law_sign"]
theorem sc_law_writer : FnScope N_law_writer ["_law_bag_here", "_law_name", "_law_places", "_law_signs_here", "_law_thick"] (defScope s_law_writer) := ⟨rfl, rfl, rfl, by decide +kernel, rfl, by decide +kernel, by decide +kernel⟩
abbrev s_law_company : Stmt := topS 41
abbrev N_law_company : List Str := ["_law_bag_here", "_law_limit", "_law_signs_here", "_law_name", "_law_thick", "_law_found"]
theorem sc_law_company : FnScope N_law_company ["_law_bag_here", "_law_limit", "_law_signs_here"] (defScope s_law_company) := ⟨rfl, rfl, rfl, by decide +kernel, rfl, by decide +kernel, by decide +kernel⟩
abbrev s_law_begin : Stmt := topS 43
abbrev N_law_begin : List Str := ["_law_m"]
theorem sc_law_begin : FnScope N_law_begin ["_law_m"] (defScope s_law_begin) := ⟨rfl, rfl, rfl, by decide +kernel, rfl, by decide +kernel, by decide +kernel⟩
abbrev s_law_arrows : Stmt := topS 42
abbrev N_law_arrows : List Str := ["_law_writer_here", "_law_place", "_law_at", "_law_sign", "_law_to"]
theorem sc_law_arrows : FnScope N_law_arrows ["_law_writer_here", "_law_place"] (defScope s_law_arrows) := ⟨rfl, rfl, rfl, by decide +kernel, rfl, by decide +kernel, by decide +kernel⟩
abbrev s_law_waits_count : Stmt := topS 44
abbrev N_law_waits_count : List Str := ["_law_m", "_law_places", "_law_at"]
theorem sc_law_waits_count : FnScope N_law_waits_count ["_law_m", "_law_places", "_law_at"] (defScope s_law_waits_count) := ⟨rfl, rfl, rfl, by decide +kernel, rfl, by decide +kernel, by decide +kernel⟩
abbrev s_law_can : Stmt := topS 45
abbrev N_law_can : List Str := ["_law_m", "_law_stand", "_law_spot", "_law_others", "_law_places", "_law_waits", "_law_run", "_law_at"]
theorem sc_law_can : FnScope N_law_can ["_law_m", "_law_stand", "_law_spot"] (defScope s_law_can) := ⟨rfl, rfl, rfl, by decide +kernel, rfl, by decide +kernel, by decide +kernel⟩
abbrev s_law_after : Stmt := topS 46
abbrev N_law_after : List Str := ["_law_m", "_law_stand", "_law_spot", "_law_to", "_law_later", "_law_many", "_law_fresh_here", "_law_places", "_law_waits", "_law_run", "_law_at", "_law_wait"]
theorem sc_law_after : FnScope N_law_after ["_law_m", "_law_stand", "_law_spot", "_law_to"] (defScope s_law_after) := ⟨rfl, rfl, rfl, by decide +kernel, rfl, by decide +kernel, by decide +kernel⟩
abbrev s_law_steps : Stmt := topS 47
abbrev N_law_steps : List Str := ["_law_m", "_law_stand", "_law_found", "_law_spot", "_law_some", "_law_sign", "_law_later", "_law_to"]
theorem sc_law_steps : FnScope N_law_steps ["_law_m", "_law_stand"] (defScope s_law_steps) := ⟨rfl, rfl, rfl, by decide +kernel, rfl, by decide +kernel, by decide +kernel⟩
abbrev s_law_fresh : Stmt := topS 48
abbrev N_law_fresh : List Str := ["_law_names_here", "_law_name"]
theorem sc_law_fresh : FnScope N_law_fresh ["_law_names_here"] (defScope s_law_fresh) := ⟨rfl, rfl, rfl, by decide +kernel, rfl, by decide +kernel, by decide +kernel⟩
abbrev s_law_other_crew : Stmt := topS 59
abbrev N_law_other_crew : List Str := ["_law_bag_here", "_law_m", "_law_found", "_law_writer_here", "_law_pick", "_law_fresh_here", "_law_name"]
theorem sc_law_other_crew : FnScope N_law_other_crew ["_law_bag_here", "_law_m"] (defScope s_law_other_crew) := ⟨rfl, rfl, rfl, by decide +kernel, rfl, by decide +kernel, by decide +kernel⟩
abbrev s_law_carried : Stmt := topS 49
abbrev N_law_carried : List Str := ["_law_one", "_law_other", "_law_stand", "_law_spots", "_law_fresh_here", "_law_later", "_law_places", "_law_waits", "_law_run", "_law_writer_here", "_law_spot"]
theorem sc_law_carried : FnScope N_law_carried ["_law_one", "_law_other", "_law_stand"] (defScope s_law_carried) := ⟨rfl, rfl, rfl, by decide +kernel, rfl, by decide +kernel, by decide +kernel⟩
abbrev s_law_steps_drawn : Stmt := topS 58
abbrev N_law_steps_drawn : List Str := ["_law_bag_here", "_law_m", "_law_letters_here", "_law_limit", "_law_k", "_law_stand", "_law_crew", "_law_found", "_law_some", "_law_full", "_law_fresh_here", "_law_step"]
theorem sc_law_steps_drawn : FnScope N_law_steps_drawn ["_law_bag_here", "_law_m", "_law_letters_here", "_law_limit"] (defScope s_law_steps_drawn) := ⟨rfl, rfl, rfl, by decide +kernel, rfl, by decide +kernel, by decide +kernel⟩
abbrev s_law_parts : Stmt := topS 51
abbrev N_law_parts : List Str := ["_law_m", "_law_track", "_law_step", "_law_signs_here", "_law_crews"]
theorem sc_law_parts : FnScope N_law_parts ["_law_m", "_law_track"] (defScope s_law_parts) := ⟨rfl, rfl, rfl, by decide +kernel, rfl, by decide +kernel, by decide +kernel⟩
abbrev s_law_said_drawn : Stmt := topS 57
abbrev N_law_said_drawn : List Str := ["_law_bag_here", "_law_many", "_law_names_here", "_law_limit", "_law_found", "_law_k", "_law_name"]
theorem sc_law_said_drawn : FnScope N_law_said_drawn ["_law_bag_here", "_law_many", "_law_names_here", "_law_limit"] (defScope s_law_said_drawn) := ⟨rfl, rfl, rfl, by decide +kernel, rfl, by decide +kernel, by decide +kernel⟩
abbrev s_law_scroll_drawn : Stmt := topS 60
abbrev N_law_scroll_drawn : List Str := ["_law_bag_here", "_law_signs_most", "_law_steps_most", "_law_said_most", "_law_letters_here", "_law_m", "_law_track", "_law_parts_here", "_law_talk", "_law_writer_here"]
theorem sc_law_scroll_drawn : FnScope N_law_scroll_drawn ["_law_bag_here", "_law_signs_most", "_law_steps_most", "_law_said_most"] (defScope s_law_scroll_drawn) := ⟨rfl, rfl, rfl, by decide +kernel, rfl, by decide +kernel, by decide +kernel⟩
abbrev s_is_name : Stmt := topS 16
abbrev N_is_name : List Str := ["text", "sign"]
theorem sc_is_name : FnScope N_is_name ["text"] (defScope s_is_name) := ⟨rfl, rfl, rfl, by decide +kernel, rfl, by decide +kernel, by decide +kernel⟩
abbrev s_is_sign : Stmt := topS 17
abbrev N_is_sign : List Str := ["text"]
theorem sc_is_sign : FnScope N_is_sign ["text"] (defScope s_is_sign) := ⟨rfl, rfl, rfl, by decide +kernel, rfl, by decide +kernel, by decide +kernel⟩
abbrev s_is_arrow : Stmt := topS 18
abbrev N_is_arrow : List Str := ["arrow", "place", "sign", "to"]
theorem sc_is_arrow : FnScope N_is_arrow ["arrow"] (defScope s_is_arrow) := ⟨rfl, rfl, rfl, by decide +kernel, rfl, by decide +kernel, by decide +kernel⟩
abbrev s_is_writer : Stmt := topS 19
abbrev N_is_writer : List Str := ["thing", "keys", "name", "arrows", "patience", "cap", "arrow"]
theorem sc_is_writer : FnScope N_is_writer ["thing"] (defScope s_is_writer) := ⟨rfl, rfl, rfl, by decide +kernel, rfl, by decide +kernel, by decide +kernel⟩
abbrev s_need_writers : Stmt := topS 26
abbrev N_need_writers : List Str := ["writers", "names", "at", "writer", "name"]
theorem sc_need_writers : FnScope N_need_writers ["writers"] (defScope s_need_writers) := ⟨rfl, rfl, rfl, by decide +kernel, rfl, by decide +kernel, by decide +kernel⟩
abbrev s_Company___init__ : Stmt := inClass (topS 27) 0
abbrev N_Company___init__ : List Str := ["self", "writers"]
theorem sc_Company___init__ : FnScope N_Company___init__ ["self", "writers"] (defScope s_Company___init__) := ⟨rfl, rfl, rfl, by decide +kernel, rfl, by decide +kernel, by decide +kernel⟩
abbrev s_company_in : Stmt := topS 30
abbrev N_company_in : List Str := ["step", "at"]
theorem sc_company_in : FnScope N_company_in ["step", "at"] (defScope s_company_in) := ⟨rfl, rfl, rfl, by decide +kernel, rfl, by decide +kernel, by decide +kernel⟩
abbrev s_Scroll_add_step : Stmt := inClass (topS 31) 2
abbrev N_Scroll_add_step : List Str := ["self", "step", "at"]
theorem sc_Scroll_add_step : FnScope N_Scroll_add_step ["self", "step", "at"] (defScope s_Scroll_add_step) := ⟨rfl, rfl, rfl, by decide +kernel, rfl, by decide +kernel, by decide +kernel⟩
abbrev s_Scroll___init__ : Stmt := inClass (topS 31) 0
abbrev N_Scroll___init__ : List Str := ["self", "company", "steps", "said", "at", "step", "sign", "name", "so"]
theorem sc_Scroll___init__ : FnScope N_Scroll___init__ ["self", "company", "steps", "said"] (defScope s_Scroll___init__) := ⟨rfl, rfl, rfl, by decide +kernel, rfl, by decide +kernel, by decide +kernel⟩
abbrev s_law_made : Stmt := topS 61
abbrev N_law_made : List Str := ["_law_drawn"]
theorem sc_law_made : FnScope N_law_made ["_law_drawn"] (defScope s_law_made) := ⟨rfl, rfl, rfl, by decide +kernel, rfl, by decide +kernel, by decide +kernel⟩
abbrev s_law_turned : Stmt := topS 50
abbrev N_law_turned : List Str := ["_law_crews", "_law_stand", "_law_one", "_law_other"]
theorem sc_law_turned : FnScope N_law_turned ["_law_crews", "_law_stand"] (defScope s_law_turned) := ⟨rfl, rfl, rfl, by decide +kernel, rfl, by decide +kernel, by decide +kernel⟩
abbrev s_law_first : Stmt := topS 54
abbrev N_law_first : List Str := ["_law_s"]
theorem sc_law_first : FnScope N_law_first ["_law_s"] (defScope s_law_first) := ⟨rfl, rfl, rfl, by decide +kernel, rfl, by decide +kernel, by decide +kernel⟩
abbrev s_law_broken : Stmt := topS 52
abbrev N_law_broken : List Str := ["_law_talk", "_law_at", "_law_name", "_law_sign", "_law_other", "_law_yes"]
theorem sc_law_broken : FnScope N_law_broken ["_law_talk", "_law_at", "_law_name"] (defScope s_law_broken) := ⟨rfl, rfl, rfl, by decide +kernel, rfl, by decide +kernel, by decide +kernel⟩
abbrev s_law_onward : Stmt := topS 53
abbrev N_law_onward : List Str := ["_law_s", "_law_at", "_law_stand", "_law_bound", "_law_found", "_law_signs_here", "_law_crews", "_law_talk", "_law_sign", "_law_name", "_law_later"]
theorem sc_law_onward : FnScope N_law_onward ["_law_s", "_law_at", "_law_stand", "_law_bound"] (defScope s_law_onward) := ⟨rfl, rfl, rfl, by decide +kernel, rfl, by decide +kernel, by decide +kernel⟩
abbrev s_law_forth : Stmt := topS 55
abbrev N_law_forth : List Str := ["_law_s", "_law_found", "_law_at", "_law_later", "_law_stand", "_law_name", "_law_to"]
theorem sc_law_forth : FnScope N_law_forth ["_law_s"] (defScope s_law_forth) := ⟨rfl, rfl, rfl, by decide +kernel, rfl, by decide +kernel, by decide +kernel⟩
abbrev s_law_live : Stmt := topS 56
abbrev N_law_live : List Str := ["_law_s", "_law_forth_here", "_law_found", "_law_at", "_law_stand", "_law_later", "_law_kept", "_law_to", "_law_name"]
theorem sc_law_live : FnScope N_law_live ["_law_s"] (defScope s_law_live) := ⟨rfl, rfl, rfl, by decide +kernel, rfl, by decide +kernel, by decide +kernel⟩
abbrev s_Company_writers : Stmt := inClass (topS 27) 5
abbrev N_Company_writers : List Str := ["self"]
theorem sc_Company_writers : FnScope N_Company_writers ["self"] (defScope s_Company_writers) := ⟨rfl, rfl, rfl, by decide +kernel, rfl, by decide +kernel, by decide +kernel⟩
abbrev s_carried : Stmt := topS 28
abbrev N_carried : List Str := ["one", "other", "stand", "elder", "spots", "run", "places", "waits", "last", "many", "writer", "spot"]
theorem sc_carried : FnScope N_carried ["one", "other", "stand"] (defScope s_carried) := ⟨rfl, rfl, rfl, by decide +kernel, rfl, by decide +kernel, by decide +kernel⟩
abbrev s_Scroll_turned : Stmt := inClass (topS 31) 9
abbrev N_Scroll_turned : List Str := ["self", "at", "stand", "crews", "one", "other"]
theorem sc_Scroll_turned : FnScope N_Scroll_turned ["self", "at", "stand"] (defScope s_Scroll_turned) := ⟨rfl, rfl, rfl, by decide +kernel, rfl, by decide +kernel, by decide +kernel⟩
abbrev s_Company_begin : Stmt := inClass (topS 27) 7
abbrev N_Company_begin : List Str := ["self"]
theorem sc_Company_begin : FnScope N_Company_begin ["self"] (defScope s_Company_begin) := ⟨rfl, rfl, rfl, by decide +kernel, rfl, by decide +kernel, by decide +kernel⟩
abbrev s_Scroll_first : Stmt := inClass (topS 31) 10
abbrev N_Scroll_first : List Str := ["self"]
theorem sc_Scroll_first : FnScope N_Scroll_first ["self"] (defScope s_Scroll_first) := ⟨rfl, rfl, rfl, by decide +kernel, rfl, by decide +kernel, by decide +kernel⟩
abbrev s_arrows_at : Stmt := topS 20
abbrev N_arrows_at : List Str := ["writer", "place", "at", "sign", "to"]
theorem sc_arrows_at : FnScope N_arrows_at ["writer", "place"] (defScope s_arrows_at) := ⟨rfl, rfl, rfl, by decide +kernel, rfl, by decide +kernel, by decide +kernel⟩
abbrev s_is_done : Stmt := topS 21
abbrev N_is_done : List Str := ["writer", "place"]
theorem sc_is_done : FnScope N_is_done ["writer", "place"] (defScope s_is_done) := ⟨rfl, rfl, rfl, by decide +kernel, rfl, by decide +kernel, by decide +kernel⟩
abbrev s_Company_counts : Stmt := inClass (topS 27) 8
abbrev N_Company_counts : List Str := ["self", "spot", "place"]
theorem sc_Company_counts : FnScope N_Company_counts ["self", "spot", "place"] (defScope s_Company_counts) := ⟨rfl, rfl, rfl, by decide +kernel, rfl, by decide +kernel, by decide +kernel⟩
abbrev s_Company_may_write : Stmt := inClass (topS 27) 9
abbrev N_Company_may_write : List Str := ["self", "stand", "spot", "cap", "others", "places", "waits", "run", "at"]
theorem sc_Company_may_write : FnScope N_Company_may_write ["self", "stand", "spot"] (defScope s_Company_may_write) := ⟨rfl, rfl, rfl, by decide +kernel, rfl, by decide +kernel, by decide +kernel⟩
abbrev s_Company_behind : Stmt := inClass (topS 27) 10
abbrev N_Company_behind : List Str := ["self", "stand", "spot", "to", "later", "counted", "run", "places", "waits", "last", "many", "at", "wait"]
theorem sc_Company_behind : FnScope N_Company_behind ["self", "stand", "spot", "to"] (defScope s_Company_behind) := ⟨rfl, rfl, rfl, by decide +kernel, rfl, by decide +kernel, by decide +kernel⟩
abbrev s_Company_steps : Stmt := inClass (topS 27) 11
abbrev N_Company_steps : List Str := ["self", "stand", "found", "spot", "writer", "sign", "to", "later"]
theorem sc_Company_steps : FnScope N_Company_steps ["self", "stand"] (defScope s_Company_steps) := ⟨rfl, rfl, rfl, by decide +kernel, rfl, by decide +kernel, by decide +kernel⟩
abbrev s_Scroll_company : Stmt := inClass (topS 31) 4
abbrev N_Scroll_company : List Str := ["self", "at"]
theorem sc_Scroll_company : FnScope N_Scroll_company ["self", "at"] (defScope s_Scroll_company) := ⟨rfl, rfl, rfl, by decide +kernel, rfl, by decide +kernel, by decide +kernel⟩
abbrev s_Scroll_every : Stmt := inClass (topS 31) 11
abbrev N_Scroll_every : List Str := ["self", "at", "stand", "some", "sign", "name", "later"]
theorem sc_Scroll_every : FnScope N_Scroll_every ["self", "at", "stand"] (defScope s_Scroll_every) := ⟨rfl, rfl, rfl, by decide +kernel, rfl, by decide +kernel, by decide +kernel⟩
abbrev s_Scroll_broken : Stmt := inClass (topS 31) 7
abbrev N_Scroll_broken : List Str := ["self", "at", "name", "sign", "other", "so"]
theorem sc_Scroll_broken : FnScope N_Scroll_broken ["self", "at", "name"] (defScope s_Scroll_broken) := ⟨rfl, rfl, rfl, by decide +kernel, rfl, by decide +kernel, by decide +kernel⟩
abbrev s_Scroll_onward : Stmt := inClass (topS 31) 12
abbrev N_Scroll_onward : List Str := ["self", "at", "stand", "name", "later"]
theorem sc_Scroll_onward : FnScope N_Scroll_onward ["self", "at", "stand"] (defScope s_Scroll_onward) := ⟨rfl, rfl, rfl, by decide +kernel, rfl, by decide +kernel, by decide +kernel⟩
abbrev s_Scroll_later_lot : Stmt := inClass (topS 31) 13
abbrev N_Scroll_later_lot : List Str := ["self", "at", "lot", "stand", "name", "later"]
theorem sc_Scroll_later_lot : FnScope N_Scroll_later_lot ["self", "at", "lot"] (defScope s_Scroll_later_lot) := ⟨rfl, rfl, rfl, by decide +kernel, rfl, by decide +kernel, by decide +kernel⟩
abbrev s_Scroll_forth : Stmt := inClass (topS 31) 14
abbrev N_Scroll_forth : List Str := ["self", "found", "at"]
theorem sc_Scroll_forth : FnScope N_Scroll_forth ["self"] (defScope s_Scroll_forth) := ⟨rfl, rfl, rfl, by decide +kernel, rfl, by decide +kernel, by decide +kernel⟩
abbrev s_Scroll_live : Stmt := inClass (topS 31) 15
abbrev N_Scroll_live : List Str := ["self", "some", "found", "at", "ahead", "stand", "name", "later"]
theorem sc_Scroll_live : FnScope N_Scroll_live ["self"] (defScope s_Scroll_live) := ⟨rfl, rfl, rfl, by decide +kernel, rfl, by decide +kernel, by decide +kernel⟩
abbrev s_law_like : Stmt := topS 37
abbrev N_law_like : List Str := ["_law_found", "_law_due", "_law_one", "_law_other"]
theorem sc_law_like : FnScope N_law_like ["_law_found", "_law_due"] (defScope s_law_like) := ⟨rfl, rfl, rfl, by decide +kernel, rfl, by decide +kernel, by decide +kernel⟩
abbrev s_law : Stmt := topS 62
abbrev N_law : List Str := ["_law_script", "_law_bag_here", "_law_turn", "_law_drawn", "_law_again", "_law_scroll", "_law_due", "_law_found", "_law_lot"]
theorem sc_law : FnScope N_law ["_law_script"] (defScope s_law) := ⟨rfl, rfl, rfl, by decide +kernel, rfl, by decide +kernel, by decide +kernel⟩
structure Txt (K : PySem.W.Frag) (mg : Str → Option Value) : Prop where
  c_LETTERS : ∃ t, mg "LETTERS" = some (.str "abcdefghijklmnopqrstuvwxyz" t)
  c_LONGEST : ∃ t, mg "LONGEST" = some (.int 6 t)
  c_MOST_ARROWS : ∃ t, mg "MOST_ARROWS" = some (.int 9 t)
  c_MOST_COUNT : ∃ t, mg "MOST_COUNT" = some (.int 3 t)
  c_MOST_PLACE : ∃ t, mg "MOST_PLACE" = some (.int 2 t)
  c_MOST_WRITERS : ∃ t, mg "MOST_WRITERS" = some (.int 3 t)
  c_NOBODY : mg "NOBODY" = some (.ref (He.ga K "NOBODY")) ∧ ∀ F, Rep K F (.tup [(.int (-1)), (.int 0)]) (.ref (He.ga K "NOBODY"))
  g_all : mg "all" = none
  g_any : mg "any" = none
  g_bool : mg "bool" = none
  g_dict : mg "dict" = none
  g_enumerate : mg "enumerate" = none
  g_int : mg "int" = none
  g_isinstance : mg "isinstance" = none
  g_len : mg "len" = none
  g_list : mg "list" = none
  g_max : mg "max" = none
  g_range : mg "range" = none
  g_set : mg "set" = none
  g_sorted : mg "sorted" = none
  g_str : mg "str" = none
  g_tuple : mg "tuple" = none
  g_zip : mg "zip" = none
  k_Company : ClsT K CCompany
  k_Scroll : ClsT K CScroll
  d_law_bag : DefAt K mg "_law_bag" s_law_bag
  d_law_pull : DefAt K mg "_law_pull" s_law_pull
  d_law_of : DefAt K mg "_law_of" s_law_of
  d_law_letters : DefAt K mg "_law_letters" s_law_letters
  d_law_signs : DefAt K mg "_law_signs" s_law_signs
  d_law_names : DefAt K mg "_law_names" s_law_names
  d_law_writer : DefAt K mg "_law_writer" s_law_writer
  d_law_company : DefAt K mg "_law_company" s_law_company
  d_law_begin : DefAt K mg "_law_begin" s_law_begin
  d_law_arrows : DefAt K mg "_law_arrows" s_law_arrows
  d_law_waits_count : DefAt K mg "_law_waits_count" s_law_waits_count
  d_law_can : DefAt K mg "_law_can" s_law_can
  d_law_after : DefAt K mg "_law_after" s_law_after
  d_law_steps : DefAt K mg "_law_steps" s_law_steps
  d_law_fresh : DefAt K mg "_law_fresh" s_law_fresh
  d_law_other_crew : DefAt K mg "_law_other_crew" s_law_other_crew
  d_law_carried : DefAt K mg "_law_carried" s_law_carried
  d_law_steps_drawn : DefAt K mg "_law_steps_drawn" s_law_steps_drawn
  d_law_parts : DefAt K mg "_law_parts" s_law_parts
  d_law_said_drawn : DefAt K mg "_law_said_drawn" s_law_said_drawn
  d_law_scroll_drawn : DefAt K mg "_law_scroll_drawn" s_law_scroll_drawn
  d_is_name : DefAt K mg "is_name" s_is_name
  d_is_sign : DefAt K mg "is_sign" s_is_sign
  d_is_arrow : DefAt K mg "is_arrow" s_is_arrow
  d_is_writer : DefAt K mg "is_writer" s_is_writer
  d_need_writers : DefAt K mg "need_writers" s_need_writers
  d_Company___init__ : InitAt K mg CCompany "Company.__init__" s_Company___init__ [(.tup [])]
  d_company_in : DefAt K mg "company_in" s_company_in
  d_Scroll_add_step : MethAt K CScroll "add_step" "Scroll.add_step" s_Scroll_add_step
  d_Scroll___init__ : InitKAt K mg CScroll "Scroll.__init__" s_Scroll___init__ [("steps", (.tup [])), ("said", (.tup []))]
  d_law_made : DefAt K mg "_law_made" s_law_made
  d_law_turned : DefAt K mg "_law_turned" s_law_turned
  d_law_first : DefAt K mg "_law_first" s_law_first
  d_law_broken : DefAt K mg "_law_broken" s_law_broken
  d_law_onward : DefAt K mg "_law_onward" s_law_onward
  d_law_forth : DefAt K mg "_law_forth" s_law_forth
  d_law_live : DefAt K mg "_law_live" s_law_live
  d_Company_writers : MethAt K CCompany "writers" "Company.writers" s_Company_writers
  d_carried : DefAt K mg "carried" s_carried
  d_Scroll_turned : MethAt K CScroll "turned" "Scroll.turned" s_Scroll_turned
  d_Company_begin : MethAt K CCompany "begin" "Company.begin" s_Company_begin
  d_Scroll_first : MethAt K CScroll "first" "Scroll.first" s_Scroll_first
  d_arrows_at : DefAt K mg "arrows_at" s_arrows_at
  d_is_done : DefAt K mg "is_done" s_is_done
  d_Company_counts : MethAt K CCompany "counts" "Company.counts" s_Company_counts
  d_Company_may_write : MethAt K CCompany "may_write" "Company.may_write" s_Company_may_write
  d_Company_behind : MethAt K CCompany "behind" "Company.behind" s_Company_behind
  d_Company_steps : MethAt K CCompany "steps" "Company.steps" s_Company_steps
  d_Scroll_company : MethAt K CScroll "company" "Scroll.company" s_Scroll_company
  d_Scroll_every : MethAt K CScroll "every" "Scroll.every" s_Scroll_every
  d_Scroll_broken : MethAt K CScroll "broken" "Scroll.broken" s_Scroll_broken
  d_Scroll_onward : MethAt K CScroll "onward" "Scroll.onward" s_Scroll_onward
  d_Scroll_later_lot : MethAt K CScroll "later_lot" "Scroll.later_lot" s_Scroll_later_lot
  d_Scroll_forth : MethAt K CScroll "forth" "Scroll.forth" s_Scroll_forth
  d_Scroll_live : MethAt K CScroll "live" "Scroll.live" s_Scroll_live
  d_law_like : DefAt K mg "_law_like" s_law_like
  d_law : DefAt K mg "law" s_law
/-! derivations -/
section
variable {P : Program} {w : World} {K : PySem.W.Frag} {mg : Str → Option Value} {base : Heap}
theorem ok_law_bag (T : Txt K mg) : DefOk P w K mg base (1) "_law_bag" 1 sp_law_bag :=
  have sc := sc_law_bag
  def_ok (N := N_law_bag) (t := t_law_bag) T.d_law_bag sc (fun _ _ _ _ _ _ us hl => match us, hl with | [_], _ => rfl) (fun f cdv A outer s H E hr => (pdss_cons (pds_set (i := 1) sc.nd pd_int)
    (pdss_cons (pds_for PassesOwn.never (pdi_lst (pd_slice (dv 0) pdo_none (pdo_some pd_int))) (pdg_name (i := 2) sc.nd) (pdss_one (pds_set (i := 1) sc.nd (pd_op opd_mod (pd_op opd_add (pd_op opd_add (pd_op opd_mulI (dv 1) pd_int) (pd_op opd_mod (dv 2) pd_int)) pd_int) pd_int))))
    (pdss_one (pds_ret (pd_lstM (pda_cons (pd_type calld_list T.g_list (pd_slice (dv 0) pdo_none (pdo_some pd_int))) (pda_cons pd_int (pda_cons pd_int (pda_cons (dv 1) pda_nil)))))))))) r_law_bag
theorem ok_law_pull (T : Txt K mg) : DefOk P w K mg base (1) "_law_pull" 2 sp_law_pull :=
  have sc := sc_law_pull
  def_ok (N := N_law_pull) (t := t_law_pull) T.d_law_pull sc (fun _ _ _ _ _ _ us hl => match us, hl with | [_, _], _ => rfl) (fun f cdv A outer s H E hr => (pdss_cons (pds_if (PW.pt (pdw_and (pdt_cmp (opd_eq hr) (pd_ix hr (dv 0) pd_int) pd_int) (pdw_and1 (pdt_cmp opd_lt (pd_ix hr (dv 0) pd_int) (pd_bltn calld_len T.g_len (pd_ix hr (dv 0) pd_int)))))) (pdss_cons (pds_set (i := 3) sc.nd (pd_ix hr (pd_ix hr (dv 0) pd_int) (pd_ix hr (dv 0) pd_int)))
    (pdss_cons (pds_setIx hr (pd_op opd_add (pd_ix hr (dv 0) pd_int) pd_int) (dv 0) pd_int)
    (pdss_one (pds_if (pdt_cmp opd_ge (dv 3) (pd_op opd_pow pd_int pd_int)) (pdss_one (pds_setIx hr (pd_op opd_subI (dv 3) (pd_op opd_pow pd_int pd_int)) (dv 0) pd_int)) (pdss_one (pds_setIx hr (pd_op opd_mod (pd_op opd_add (pd_op opd_add (pd_op opd_mulI (pd_ix hr (dv 0) pd_int) pd_int) (pd_op opd_mulI (pd_op opd_mod (dv 3) pd_int) pd_int)) pd_int) pd_int) (dv 0) pd_int)))))) pdss_nil)
    (pdss_cons (pds_if (pdt_cmp opd_gt (pd_ix hr (dv 0) pd_int) pd_int) (pdss_cons (pds_set (i := 4) sc.nd (pd_op opd_mod (pd_ix hr (dv 0) pd_int) (dv 1)))
    (pdss_cons (pds_setIx hr (pd_op opd_fdiv (pd_ix hr (dv 0) pd_int) (dv 1)) (dv 0) pd_int)
    (pdss_one (pds_ret (dv 4))))) pdss_nil)
    (pdss_cons (pds_set (i := 2) sc.nd (pd_ix hr (dv 0) pd_int))
    (pdss_cons (pds_setIx hr (pd_op opd_mod (pd_op opd_add (pd_op opd_add (pd_op opd_mulI (pd_op opd_mulI (dv 2) (dv 2)) pd_int) (pd_op opd_mulI (dv 2) pd_int)) pd_int) pd_int) (dv 0) pd_int)
    (pdss_one (pds_ret (pd_op opd_mod (pd_op opd_add (pd_op opd_fdiv (pd_ix hr (dv 0) pd_int) pd_int) (pd_op opd_mulI (pd_op opd_mod (pd_ix hr (dv 0) pd_int) pd_int) pd_int)) (dv 1))))))))) r_law_pull
theorem ok_law_of (T : Txt K mg) (o_law_pull : DefOk P w K mg base (1) "_law_pull" 2 sp_law_pull) : DefOk P w K mg base (2) "_law_of" 2 sp_law_of :=
  have sc := sc_law_of
  def_ok (N := N_law_of) (t := t_law_of) T.d_law_of sc (fun _ _ _ _ _ _ us hl => match us, hl with | [_, _], _ => rfl) (fun f cdv A outer s H E hr => (pdss_one (pds_ret (pd_ix hr (dv 1) (pd_call (o_law_pull.mono (by decide)) hr (pda_cons (dv 0) (pda_cons (pd_bltn calld_len T.g_len (dv 1)) pda_nil))))))) r_law_of
theorem ok_law_letters (T : Txt K mg) : DefOk P w K mg base (1) "_law_letters" 0 sp_law_letters :=
  have sc := sc_law_letters
  def_ok (N := N_law_letters) (t := t_law_letters) T.d_law_letters sc (fun _ _ _ _ _ _ us hl => match us, hl with | [], _ => rfl) (fun f cdv A outer s H E hr => (pdss_one (pds_ret pd_str))) r_law_letters
theorem ok_law_signs (T : Txt K mg) (o_law_pull : DefOk P w K mg base (1) "_law_pull" 2 sp_law_pull) (o_law_of : DefOk P w K mg base (2) "_law_of" 2 sp_law_of) (o_law_letters : DefOk P w K mg base (1) "_law_letters" 0 sp_law_letters) : DefOk P w K mg base (3) "_law_signs" 2 sp_law_signs :=
  have sc := sc_law_signs
  def_ok (N := N_law_signs) (t := t_law_signs) T.d_law_signs sc (fun _ _ _ _ _ _ us hl => match us, hl with | [_, _], _ => rfl) (fun f cdv A outer s H E hr => (pdss_cons (pds_asg (pd_tup (pda_cons (pd_call (o_law_pull.mono (by decide)) hr (pda_cons (dv 0) (pda_cons pd_int pda_nil))) (pda_cons (pd_call (o_law_of.mono (by decide)) hr (pda_cons (dv 0) (pda_cons (pd_lst (pda_cons pd_int (pda_cons pd_int (pda_cons pd_int (pda_cons pd_int pda_nil))))) pda_nil))) pda_nil))) (pdg_tup (pdgs_cons (pdg_name (i := 2) sc.nd) (pdgs_cons (pdg_name (i := 3) sc.nd) pdgs_nil))))
    (pdss_cons (pds_asg (pd_tup (pda_cons (pd_op opd_add pd_int (pd_call (o_law_pull.mono (by decide)) hr (pda_cons (dv 0) (pda_cons (dv 1) pda_nil)))) (pda_cons (pd_call0 (o_law_letters.mono (by decide)) hr) pda_nil))) (pdg_tup (pdgs_cons (pdg_name (i := 4) sc.nd) (pdgs_cons (pdg_name (i := 5) sc.nd) pdgs_nil))))
    (pdss_one (pds_ret (pd_bltn (calld_sort hr) T.g_sorted (pd_lc (own := [("_law_k", 6)]) sc.nd (pdi_range1 T.g_range (pda_cons (dv 4) pda_nil)) (blkOk_by (own := [("_law_k", 6)]) (N := N_law_signs) (sc := defScope s_law_signs) (by decide +kernel)) (fun _ _ _ _ _ => (pdg_name (i := 6) sc.nd)) (fun _ _ _ _ _ => pdts_nil) (fun _ _ _ _ _ => (pd_ix hr (dv 5) (pd_op opd_mod (pd_op opd_add (dv 2) (pd_op opd_mulI (dv 3) (dv 6))) pd_int)))))))))) r_law_signs
theorem ok_law_names (T : Txt K mg) (o_law_pull : DefOk P w K mg base (1) "_law_pull" 2 sp_law_pull) (o_law_letters : DefOk P w K mg base (1) "_law_letters" 0 sp_law_letters) (o_law_of : DefOk P w K mg base (2) "_law_of" 2 sp_law_of) : DefOk P w K mg base (3) "_law_names" 2 sp_law_names :=
  have sc := sc_law_names
  def_ok (N := N_law_names) (t := t_law_names) T.d_law_names sc (fun _ _ _ _ _ _ us hl => match us, hl with | [_, _], _ => rfl) (fun f cdv A outer s H E hr => (pdss_cons (pds_asg (pd_tup (pda_cons (pd_op opd_add pd_int (pd_call (o_law_pull.mono (by decide)) hr (pda_cons (dv 0) (pda_cons pd_int pda_nil)))) (pda_cons (pd_call0 (o_law_letters.mono (by decide)) hr) pda_nil))) (pdg_tup (pdgs_cons (pdg_name (i := 4) sc.nd) (pdgs_cons (pdg_name (i := 5) sc.nd) pdgs_nil))))
    (pdss_cons (pds_par (i := 6) (j := 7) sc.nd (pda_cons (pd_call (o_law_pull.mono (by decide)) hr (pda_cons (dv 0) (pda_cons (dv 4) pda_nil))) (pda_cons (pd_call (o_law_pull.mono (by decide)) hr (pda_cons (dv 0) (pda_cons pd_int pda_nil))) pda_nil)))
    (pdss_cons (pds_set (i := 2) sc.nd (pd_call (o_law_of.mono (by decide)) hr (pda_cons (dv 0) (pda_cons (pd_lst (pda_cons pd_int (pda_cons pd_int (pda_cons pd_int (pda_cons pd_int pda_nil))))) pda_nil))))
    (pdss_cons (pds_par (i := 8) (j := 9) sc.nd (pda_cons (pd_join pd_str (pd_lc (own := [("_law_k", 3)]) sc.nd (pdi_range1 T.g_range (pda_cons (dv 4) pda_nil)) (blkOk_by (own := [("_law_k", 3)]) (N := N_law_names) (sc := defScope s_law_names) (by decide +kernel)) (fun _ _ _ _ _ => (pdg_name (i := 3) sc.nd)) (fun _ _ _ _ _ => pdts_nil) (fun _ _ _ _ _ => (pd_call (o_law_of.mono (by decide)) hr (pda_cons (dv 0) (pda_cons (dv 5) pda_nil)))))) (pda_cons (pd_lstM pda_nil) pda_nil)))
    (pdss_cons (pds_for PassesOwn.never (pdi_range1 T.g_range (pda_cons (dv 1) pda_nil)) (pdg_name (i := 3) sc.nd) (pdss_cons (pds_set (i := 10) sc.nd (pd_ix hr (dv 5) (pd_op opd_mod (pd_op opd_add (dv 7) (pd_op opd_mulI (dv 2) (dv 3))) pd_int)))
    (pdss_cons (pds_set (i := 11) sc.nd (pd_op opd_add (pd_op opd_add (pd_slice (dv 8) pdo_none (pdo_some (dv 6))) (dv 10)) (pd_slice (dv 8) (pdo_some (pd_op opd_add (dv 6) pd_int)) pdo_none)))
    (pdss_one (pds_expr (pd_append (dv 9) (pd_if (pdt_cmp (opd_eq hr) (pd_call (o_law_pull.mono (by decide)) hr (pda_cons (dv 0) (pda_cons pd_int pda_nil))) pd_int) (pd_slice (dv 11) pdo_none (pdo_some (pd_bltn2 calld_max T.g_max (pd_op opd_add (dv 6) pd_int) (pd_op opd_subI (dv 4) (dv 3))))) (dv 11))))))))
    (pdss_one (pds_frz 9 (pds_ret (dv 9)))))))))) r_law_names
theorem ok_law_writer (T : Txt K mg) (o_law_pull : DefOk P w K mg base (1) "_law_pull" 2 sp_law_pull) (o_law_of : DefOk P w K mg base (2) "_law_of" 2 sp_law_of) : DefOk P w K mg base (3) "_law_writer" 5 sp_law_writer :=
  have sc := sc_law_writer
  def_ok (N := N_law_writer) (t := t_law_writer) T.d_law_writer sc (fun _ _ _ _ _ _ us hl => match us, hl with | [_, _, _, _, _], _ => rfl) (fun f cdv A outer s H E hr => (pdss_cons (pds_set (i := 5) sc.nd (pd_lstM pda_nil))
    (pdss_cons (pds_for PassesOwn.never (pdi_range1 T.g_range (pda_cons (dv 2) pda_nil)) (pdg_name (i := 6) sc.nd) (pdss_one (pds_for PassesOwn.never (pdi_lst (dv 3)) (pdg_name (i := 8) sc.nd) (pdss_one (pds_if (PW.pt (pdw_and (pdt_cmp opd_lt (pd_bltn calld_len T.g_len (dv 5)) pd_int) (pdw_and1 (pdt_cmp opd_lt (pd_call (o_law_pull.mono (by decide)) hr (pda_cons (dv 0) (pda_cons pd_int pda_nil))) (dv 4))))) (pdss_one (pds_expr (pd_append (dv 5) (pd_tup (pda_cons (dv 6) (pda_cons (dv 8) (pda_cons (pd_call (o_law_pull.mono (by decide)) hr (pda_cons (dv 0) (pda_cons (dv 2) pda_nil))) pda_nil))))))) pdss_nil)))))
    (pdss_cons (pds_frz 5 (pds_set (i := 7) sc.nd (pd_lst (pda_cons pd_int (pda_cons pd_int (pda_cons pd_int (pda_cons pd_int (pda_cons pd_int (pda_cons pd_int pda_nil)))))))))
    (pdss_one (pds_ret (pd_tup (pda_cons (dv 1) (pda_cons (pd_type calld_tuple T.g_tuple (dv 5)) (pda_cons (pd_call (o_law_of.mono (by decide)) hr (pda_cons (dv 0) (pda_cons (dv 7) pda_nil))) (pda_cons (pd_call (o_law_of.mono (by decide)) hr (pda_cons (dv 0) (pda_cons (dv 7) pda_nil))) pda_nil))))))))))) r_law_writer
theorem ok_law_company (T : Txt K mg) (o_law_of : DefOk P w K mg base (2) "_law_of" 2 sp_law_of) (o_law_names : DefOk P w K mg base (3) "_law_names" 2 sp_law_names) (o_law_pull : DefOk P w K mg base (1) "_law_pull" 2 sp_law_pull) (o_law_writer : DefOk P w K mg base (3) "_law_writer" 5 sp_law_writer) : DefOk P w K mg base (4) "_law_company" 3 sp_law_company :=
  have sc := sc_law_company
  def_ok (N := N_law_company) (t := t_law_company) T.d_law_company sc (fun _ _ _ _ _ _ us hl => match us, hl with | [_, _, _], _ => rfl) (fun f cdv A outer s H E hr => (pdss_cons (pds_par (i := 4) (j := 5) sc.nd (pda_cons (pd_call (o_law_of.mono (by decide)) hr (pda_cons (dv 0) (pda_cons (pd_lst (pda_cons pd_int (pda_cons pd_int (pda_cons pd_int (pda_cons pd_int pda_nil))))) pda_nil))) (pda_cons (pd_lstM pda_nil) pda_nil)))
    (pdss_cons (pds_for PassesOwn.never (pdi_lst (pd_call (o_law_names.mono (by decide)) hr (pda_cons (dv 0) (pda_cons (pd_op opd_add pd_int (pd_call (o_law_pull.mono (by decide)) hr (pda_cons (dv 0) (pda_cons (dv 1) pda_nil)))) pda_nil)))) (pdg_name (i := 3) sc.nd) (pdss_one (pds_expr (pd_append (dv 5) (pd_call (o_law_writer.mono (by decide)) hr (pda_cons (dv 0) (pda_cons (dv 3) (pda_cons (pd_op opd_add pd_int (pd_call (o_law_pull.mono (by decide)) hr (pda_cons (dv 0) (pda_cons pd_int pda_nil)))) (pda_cons (dv 2) (pda_cons (dv 4) pda_nil))))))))))
    (pdss_one (pds_frz 5 (pds_ret (dv 5))))))) r_law_company
theorem ok_law_begin (T : Txt K mg) : DefOk P w K mg base (1) "_law_begin" 1 sp_law_begin :=
  have sc := sc_law_begin
  def_ok (N := N_law_begin) (t := t_law_begin) T.d_law_begin sc (fun _ _ _ _ _ _ us hl => match us, hl with | [_], _ => rfl) (fun f cdv A outer s H E hr => (pdss_one (pds_ret (pd_tup (pda_cons (pd_op opd_mulD (pd_tup (pda_cons pd_int pda_nil)) (pd_bltn calld_len T.g_len (dv 0))) (pda_cons (pd_op opd_mulD (pd_tup (pda_cons pd_int pda_nil)) (pd_bltn calld_len T.g_len (dv 0))) (pda_cons (pd_tup (pda_cons (pd_neg pd_int) (pda_cons pd_int pda_nil))) pda_nil))))))) r_law_begin
theorem ok_law_arrows (T : Txt K mg) : DefOk P w K mg base (1) "_law_arrows" 2 sp_law_arrows :=
  have sc := sc_law_arrows
  def_ok (N := N_law_arrows) (t := t_law_arrows) T.d_law_arrows sc (fun _ _ _ _ _ _ us hl => match us, hl with | [_, _], _ => rfl) (fun f cdv A outer s H E hr => (pdss_one (pds_ret (pd_lc (own := [("_law_at", 2), ("_law_sign", 3), ("_law_to", 4)]) sc.nd (pdi_tup (pd_ix hr (dv 0) pd_int)) (blkOk_by (own := [("_law_at", 2), ("_law_sign", 3), ("_law_to", 4)]) (N := N_law_arrows) (sc := defScope s_law_arrows) (by decide +kernel)) (fun _ _ _ _ _ => (pdg_tup (pdgs_cons (pdg_name (i := 2) sc.nd) (pdgs_cons (pdg_name (i := 3) sc.nd) (pdgs_cons (pdg_name (i := 4) sc.nd) pdgs_nil))))) (fun _ _ _ _ _ => (pdts_one (pdt_cmp (opd_eq hr) (dv 2) (dv 1)))) (fun _ _ _ _ _ => (pd_tup (pda_cons (dv 3) (pda_cons (dv 4) pda_nil)))))))) r_law_arrows
theorem ok_law_waits_count (T : Txt K mg) (o_law_arrows : DefOk P w K mg base (1) "_law_arrows" 2 sp_law_arrows) : DefOk P w K mg base (2) "_law_waits_count" 3 sp_law_waits_count :=
  have sc := sc_law_waits_count
  def_ok (N := N_law_waits_count) (t := t_law_waits_count) T.d_law_waits_count sc (fun _ _ _ _ _ _ us hl => match us, hl with | [_, _, _], _ => rfl) (fun f cdv A outer s H E hr => (pdss_one (pds_ret (pd_and (pd_cmp opd_gt (pd_ix hr (pd_ix hr (dv 0) (dv 2)) pd_int) pd_int) (pd_one (pd_cmp (opd_ne hr) (pd_call (o_law_arrows.mono (by decide)) hr (pda_cons (pd_ix hr (dv 0) (dv 2)) (pda_cons (pd_ix hr (dv 1) (dv 2)) pda_nil))) (pd_lst pda_nil))))))) r_law_waits_count
theorem ok_law_can (T : Txt K mg) (o_law_waits_count : DefOk P w K mg base (2) "_law_waits_count" 3 sp_law_waits_count) : DefOk P w K mg base (3) "_law_can" 3 sp_law_can :=
  have sc := sc_law_can
  def_ok (N := N_law_can) (t := t_law_can) T.d_law_can sc (fun _ _ _ _ _ _ us hl => match us, hl with | [_, _, _], _ => rfl) (fun f cdv A outer s H E hr => (pdss_cons (pds_asg (dv 1) (pdg_tup (pdgs_cons (pdg_name (i := 4) sc.nd) (pdgs_cons (pdg_name (i := 5) sc.nd) (pdgs_cons (pdg_name (i := 6) sc.nd) pdgs_nil)))))
    (pdss_cons (pds_if (PW.pt (pdw_and (pdt_cmp opd_gt (pd_ix hr (pd_ix hr (dv 0) (dv 2)) pd_int) pd_int) (pdw_and1 (pdt_cmp (opd_eq hr) (dv 6) (pd_tup (pda_cons (dv 2) (pda_cons (pd_ix hr (pd_ix hr (dv 0) (dv 2)) pd_int) pda_nil))))))) (pdss_one (pds_ret pd_bl)) pdss_nil)
    (pdss_cons (pds_setLc (i := 3) (own := [("_law_at", 7)]) sc.nd (sw_true rfl rfl rfl (by decide +kernel)) (pdi_range1 T.g_range (pda_cons (pd_bltn calld_len T.g_len (dv 0)) pda_nil)) (blkOk_by (own := [("_law_at", 7)]) (N := N_law_can) (sc := defScope s_law_can) (by decide +kernel)) (fun _ _ _ _ _ => (pdg_name (i := 7) sc.nd)) (fun _ _ _ _ _ => (pdts_one (PW.pt (pdw_and (pdt_cmp (opd_ne hr) (dv 7) (dv 2)) (pdw_and1 (pdt (pd_call (o_law_waits_count.mono (by decide)) hr (pda_cons (dv 0) (pda_cons (dv 4) (pda_cons (dv 7) pda_nil)))))))))) (fun _ _ _ _ _ => (dv 7)))
    (pdss_one (pds_ret (pd_bltn calld_all T.g_all (pd_lc (own := [("_law_at", 7)]) sc.nd (pdi_lst (dv 3)) (blkOk_by (own := [("_law_at", 7)]) (N := N_law_can) (sc := defScope s_law_can) (by decide +kernel)) (fun _ _ _ _ _ => (pdg_name (i := 7) sc.nd)) (fun _ _ _ _ _ => pdts_nil) (fun _ _ _ _ _ => (pd_cmp opd_lt (pd_ix hr (dv 5) (dv 7)) (pd_ix hr (pd_ix hr (dv 0) (dv 7)) pd_int))))))))))) r_law_can
theorem ok_law_after (T : Txt K mg) (o_law_waits_count : DefOk P w K mg base (2) "_law_waits_count" 3 sp_law_waits_count) : DefOk P w K mg base (3) "_law_after" 4 sp_law_after :=
  have sc := sc_law_after
  def_ok (N := N_law_after) (t := t_law_after) T.d_law_after sc (fun _ _ _ _ _ _ us hl => match us, hl with | [_, _, _, _], _ => rfl) (fun f cdv A outer s H E hr => (pdss_cons (pds_asg (dv 1) (pdg_tup (pdgs_cons (pdg_name (i := 7) sc.nd) (pdgs_cons (pdg_name (i := 8) sc.nd) (pdgs_cons (pdg_name (i := 9) sc.nd) pdgs_nil)))))
    (pdss_cons (pds_setLcM (i := 4) (own := [("_law_at", 10), ("_law_wait", 11)]) sc.nd (sw_true rfl rfl rfl (by decide +kernel)) (pdi_enumA T.g_enumerate (pda_cons (dv 8) pda_nil)) (blkOk_by (own := [("_law_at", 10), ("_law_wait", 11)]) (N := N_law_after) (sc := defScope s_law_after) (by decide +kernel)) (fun _ _ _ _ _ => (pdg_tup (pdgs_cons (pdg_name (i := 10) sc.nd) (pdgs_cons (pdg_name (i := 11) sc.nd) pdgs_nil)))) (fun _ _ _ _ _ => pdts_nil) (fun _ _ _ _ _ => (pd_op opd_add (dv 11) (pd_type calld_intB T.g_int (pd_call (o_law_waits_count.mono (by decide)) hr (pda_cons (dv 0) (pda_cons (dv 7) (pda_cons (dv 10) pda_nil))))))))
    (pdss_cons (pds_setIx hr pd_int (dv 4) (dv 2))
    (pdss_cons (pds_set (i := 5) sc.nd (pd_if (pdt_cmp (opd_eq hr) (pd_ix hr (dv 9) pd_int) (dv 2)) (pd_op opd_add (pd_ix hr (dv 9) pd_int) pd_int) pd_int))
    (pdss_cons (pds_set (i := 6) sc.nd (pd_if (pdt_cmp opd_gt (pd_ix hr (pd_ix hr (dv 0) (dv 2)) pd_int) pd_int) (pd_tup (pda_cons (dv 2) (pda_cons (dv 5) pda_nil))) (pd_tup (pda_cons (pd_neg pd_int) (pda_cons pd_int pda_nil)))))
    (pdss_one (pds_frz 4 (pds_ret (pd_tup (pda_cons (pd_op opd_add (pd_op opd_add (pd_slice (dv 7) pdo_none (pdo_some (dv 2))) (pd_tup (pda_cons (dv 3) pda_nil))) (pd_slice (dv 7) (pdo_some (pd_op opd_add (dv 2) pd_int)) pdo_none)) (pda_cons (pd_type calld_tuple T.g_tuple (dv 4)) (pda_cons (dv 6) pda_nil))))))))))))) r_law_after
theorem ok_law_steps (T : Txt K mg) (o_law_can : DefOk P w K mg base (3) "_law_can" 3 sp_law_can) (o_law_arrows : DefOk P w K mg base (1) "_law_arrows" 2 sp_law_arrows) (o_law_after : DefOk P w K mg base (3) "_law_after" 4 sp_law_after) : DefOk P w K mg base (4) "_law_steps" 2 sp_law_steps :=
  have sc := sc_law_steps
  def_ok (N := N_law_steps) (t := t_law_steps) T.d_law_steps sc (fun _ _ _ _ _ _ us hl => match us, hl with | [_, _], _ => rfl) (fun f cdv A outer s H E hr => (pdss_cons (pds_set (i := 2) sc.nd (pd_lst pda_nil))
    (pdss_cons (pds_for PassesOwn.never (pdi_range1 T.g_range (pda_cons (pd_bltn calld_len T.g_len (dv 0)) pda_nil)) (pdg_name (i := 3) sc.nd) (pdss_one (pds_if (pdt (pd_call (o_law_can.mono (by decide)) hr (pda_cons (dv 0) (pda_cons (dv 1) (pda_cons (dv 3) pda_nil))))) (pdss_cons (pds_set (i := 4) sc.nd (pd_call (o_law_arrows.mono (by decide)) hr (pda_cons (pd_ix hr (dv 0) (dv 3)) (pda_cons (pd_ix hr (pd_ix hr (dv 1) pd_int) (dv 3)) pda_nil))))
    (pdss_one (pds_set (i := 2) sc.nd (pd_op opd_add (dv 2) (pd_lc (own := [("_law_sign", 5), ("_law_to", 7)]) sc.nd (pdi_lst (dv 4)) (blkOk_by (own := [("_law_sign", 5), ("_law_to", 7)]) (N := N_law_steps) (sc := defScope s_law_steps) (by decide +kernel)) (fun _ _ _ _ _ => (pdg_tup (pdgs_cons (pdg_name (i := 5) sc.nd) (pdgs_cons (pdg_name (i := 7) sc.nd) pdgs_nil)))) (fun _ _ _ _ _ => pdts_nil) (fun _ _ _ _ _ => (pd_tup (pda_cons (dv 5) (pda_cons (dv 3) (pda_cons (pd_call (o_law_after.mono (by decide)) hr (pda_cons (dv 0) (pda_cons (dv 1) (pda_cons (dv 3) (pda_cons (dv 7) pda_nil))))) pda_nil)))))))))) pdss_nil)))
    (pdss_one (pds_ret (pd_lc (own := [("_law_sign", 5), ("_law_spot", 3), ("_law_later", 6)]) sc.nd (pdi_lst (pd_bltn (calld_sort hr) T.g_sorted (dv 2))) (blkOk_by (own := [("_law_sign", 5), ("_law_spot", 3), ("_law_later", 6)]) (N := N_law_steps) (sc := defScope s_law_steps) (by decide +kernel)) (fun _ _ _ _ _ => (pdg_tup (pdgs_cons (pdg_name (i := 5) sc.nd) (pdgs_cons (pdg_name (i := 3) sc.nd) (pdgs_cons (pdg_name (i := 6) sc.nd) pdgs_nil))))) (fun _ _ _ _ _ => pdts_nil) (fun _ _ _ _ _ => (pd_tup (pda_cons (dv 5) (pda_cons (pd_ix hr (pd_ix hr (dv 0) (dv 3)) pd_int) (pda_cons (dv 6) pda_nil))))))))))) r_law_steps
theorem ok_law_fresh (T : Txt K mg) : DefOk P w K mg base (1) "_law_fresh" 1 sp_law_fresh :=
  have sc := sc_law_fresh
  def_ok (N := N_law_fresh) (t := t_law_fresh) T.d_law_fresh sc (fun _ _ _ _ _ _ us hl => match us, hl with | [_], _ => rfl) (fun f cdv A outer s H E hr => (pdss_one (pds_ret (pd_ix hr (pd_lc (own := [("_law_name", 1)]) sc.nd (pdi_lst (pd_lst (pda_cons pd_str (pda_cons pd_str (pda_cons pd_str (pda_cons pd_str (pda_cons pd_str (pda_cons pd_str pda_nil)))))))) (blkOk_by (own := [("_law_name", 1)]) (N := N_law_fresh) (sc := defScope s_law_fresh) (by decide +kernel)) (fun _ _ _ _ _ => (pdg_name (i := 1) sc.nd)) (fun _ _ _ _ _ => (pdts_one (pdt_cmp (opd_notin hr) (dv 1) (dv 0)))) (fun _ _ _ _ _ => (dv 1))) pd_int)))) r_law_fresh
theorem ok_law_other_crew (T : Txt K mg) (o_law_pull : DefOk P w K mg base (1) "_law_pull" 2 sp_law_pull) (o_law_fresh : DefOk P w K mg base (1) "_law_fresh" 1 sp_law_fresh) : DefOk P w K mg base (2) "_law_other_crew" 2 sp_law_other_crew :=
  have sc := sc_law_other_crew
  def_ok (N := N_law_other_crew) (t := t_law_other_crew) T.d_law_other_crew sc (fun _ _ _ _ _ _ us hl => match us, hl with | [_, _], _ => rfl) (fun f cdv A outer s H E hr => (pdss_cons (pds_set (i := 2) sc.nd (pd_lstM pda_nil))
    (pdss_cons (pds_for PassesOwn.never (pdi_lst (dv 1)) (pdg_name (i := 3) sc.nd) (pdss_cons (pds_set (i := 4) sc.nd (pd_call (o_law_pull.mono (by decide)) hr (pda_cons (dv 0) (pda_cons pd_int pda_nil))))
    (pdss_cons (pds_set (i := 5) sc.nd (pd_ix hr (pd_lst (pda_cons (dv 3) (pda_cons (dv 3) (pda_cons (pd_op opd_add (pd_slice (dv 3) pdo_none (pdo_some pd_int)) (pd_tup (pda_cons (pd_op opd_subI pd_int (pd_ix hr (dv 3) pd_int)) (pda_cons (pd_ix hr (dv 3) pd_int) pda_nil)))) (pda_cons (pd_op opd_add (pd_slice (dv 3) pdo_none (pdo_some pd_int)) (pd_tup (pda_cons (pd_op opd_mod (pd_op opd_add (pd_ix hr (dv 3) pd_int) pd_int) pd_int) pda_nil))) pda_nil))))) (pd_op opd_mod (dv 4) pd_int)))
    (pdss_one (pds_expr (pd_insert (dv 2) (pd_call (o_law_pull.mono (by decide)) hr (pda_cons (dv 0) (pda_cons (pd_op opd_add (pd_bltn calld_len T.g_len (dv 2)) pd_int) pda_nil))) (dv 5)))))))
    (pdss_cons (pds_if (pdt_cmp (opd_eq hr) (pd_call (o_law_pull.mono (by decide)) hr (pda_cons (dv 0) (pda_cons pd_int pda_nil))) pd_int) (pdss_one (pds_frz 2 (pds_set (i := 2) sc.nd (pd_sliceM (dv 2) (pdo_some pd_int) pdo_none)))) pdss_nil)
    (pdss_cons (pds_if (PW.pt (pdw_and (pdt_cmp opd_lt (pd_bltn calld_len T.g_len (dv 2)) pd_int) (pdw_and1 (pdt_cmp (opd_eq hr) (pd_call (o_law_pull.mono (by decide)) hr (pda_cons (dv 0) (pda_cons pd_int pda_nil))) pd_int)))) (pdss_cons (pds_set (i := 6) sc.nd (pd_call (o_law_fresh.mono (by decide)) hr (pda_cons (pd_lc (own := [("_law_writer_here", 3)]) sc.nd (pdi_lst (dv 1)) (blkOk_by (own := [("_law_writer_here", 3)]) (N := N_law_other_crew) (sc := defScope s_law_other_crew) (by decide +kernel)) (fun _ _ _ _ _ => (pdg_name (i := 3) sc.nd)) (fun _ _ _ _ _ => pdts_nil) (fun _ _ _ _ _ => (pd_ix hr (dv 3) pd_int))) pda_nil)))
    (pdss_one (pds_expr (pd_insert (dv 2) (pd_call (o_law_pull.mono (by decide)) hr (pda_cons (dv 0) (pda_cons (pd_op opd_add (pd_bltn calld_len T.g_len (dv 2)) pd_int) pda_nil))) (pd_tup (pda_cons (dv 6) (pda_cons (pd_tup (pda_cons (pd_tup (pda_cons pd_int (pda_cons pd_str (pda_cons pd_int pda_nil)))) pda_nil)) (pda_cons pd_int (pda_cons pd_int pda_nil))))))))) pdss_nil)
    (pdss_one (pds_frz 2 (pds_ret (dv 2))))))))) r_law_other_crew
theorem ok_law_carried (T : Txt K mg) : DefOk P w K mg base (1) "_law_carried" 3 sp_law_carried :=
  have sc := sc_law_carried
  def_ok (N := N_law_carried) (t := t_law_carried) T.d_law_carried sc (fun _ _ _ _ _ _ us hl => match us, hl with | [_, _, _], _ => rfl) (fun f cdv A outer s H E hr => (pdss_cons (pds_asg (dv 2) (pdg_tup (pdgs_cons (pdg_name (i := 6) sc.nd) (pdgs_cons (pdg_name (i := 7) sc.nd) (pdgs_cons (pdg_name (i := 8) sc.nd) pdgs_nil)))))
    (pdss_cons (pds_setLc (i := 3) (own := [("_law_writer_here", 9)]) sc.nd (sw_true rfl rfl rfl (by decide +kernel)) (pdi_lst (dv 1)) (blkOk_by (own := [("_law_writer_here", 9)]) (N := N_law_carried) (sc := defScope s_law_carried) (by decide +kernel)) (fun _ _ _ _ _ => (pdg_name (i := 9) sc.nd)) (fun _ _ _ _ _ => pdts_nil) (fun _ _ _ _ _ => (pd_if (pdt_cmp (opd_in hr) (dv 9) (dv 0)) (pd_index hr (dv 0) (dv 9)) (pd_neg pd_int))))
    (pdss_cons (pds_set (i := 4) sc.nd (pd_if (PW.pt (pdw_and (pdt_cmp opd_ge (pd_ix hr (dv 8) pd_int) pd_int) (pdw_and1 (pdt_cmp (opd_in hr) (pd_ix hr (dv 8) pd_int) (dv 3))))) (pd_tup (pda_cons (pd_index hr (dv 3) (pd_ix hr (dv 8) pd_int)) (pda_cons (pd_ix hr (dv 8) pd_int) pda_nil))) (pd_tup (pda_cons (pd_neg pd_int) (pda_cons pd_int pda_nil)))))
    (pdss_cons (pds_set (i := 5) sc.nd (pd_type calld_tuple T.g_tuple (pd_lc (own := [("_law_spot", 10)]) sc.nd (pdi_lst (dv 3)) (blkOk_by (own := [("_law_spot", 10)]) (N := N_law_carried) (sc := defScope s_law_carried) (by decide +kernel)) (fun _ _ _ _ _ => (pdg_name (i := 10) sc.nd)) (fun _ _ _ _ _ => pdts_nil) (fun _ _ _ _ _ => (pd_if (pdt_cmp opd_ge (dv 10) pd_int) (pd_ix hr (dv 6) (dv 10)) pd_int)))))
    (pdss_one (pds_ret (pd_tup (pda_cons (dv 5) (pda_cons (pd_type calld_tuple T.g_tuple (pd_lc (own := [("_law_spot", 10)]) sc.nd (pdi_lst (dv 3)) (blkOk_by (own := [("_law_spot", 10)]) (N := N_law_carried) (sc := defScope s_law_carried) (by decide +kernel)) (fun _ _ _ _ _ => (pdg_name (i := 10) sc.nd)) (fun _ _ _ _ _ => pdts_nil) (fun _ _ _ _ _ => (pd_if (pdt_cmp opd_ge (dv 10) pd_int) (pd_ix hr (dv 7) (dv 10)) pd_int)))) (pda_cons (dv 4) pda_nil))))))))))) r_law_carried
theorem ok_law_steps_drawn (T : Txt K mg) (o_law_begin : DefOk P w K mg base (1) "_law_begin" 1 sp_law_begin) (o_law_pull : DefOk P w K mg base (1) "_law_pull" 2 sp_law_pull) (o_law_steps : DefOk P w K mg base (4) "_law_steps" 2 sp_law_steps) (o_law_other_crew : DefOk P w K mg base (2) "_law_other_crew" 2 sp_law_other_crew) (o_law_carried : DefOk P w K mg base (1) "_law_carried" 3 sp_law_carried) (o_law_of : DefOk P w K mg base (2) "_law_of" 2 sp_law_of) : DefOk P w K mg base (5) "_law_steps_drawn" 4 sp_law_steps_drawn :=
  have sc := sc_law_steps_drawn
  def_ok (N := N_law_steps_drawn) (t := t_law_steps_drawn) T.d_law_steps_drawn sc (fun _ _ _ _ _ _ us hl => match us, hl with | [_, _, _, _], _ => rfl) (fun f cdv A outer s H E hr => (pdss_cons (pds_par3 (i := 5) (j := 6) (l := 7) sc.nd (pda_cons (pd_call (o_law_begin.mono (by decide)) hr (pda_cons (dv 1) pda_nil)) (pda_cons (pd_type calld_list T.g_list (dv 1)) (pda_cons (pd_lstM pda_nil) pda_nil))))
    (pdss_cons (pds_for PassesOwn.never (pdi_range1 T.g_range (pda_cons (pd_call (o_law_pull.mono (by decide)) hr (pda_cons (dv 0) (pda_cons (pd_op opd_add (dv 3) pd_int) pda_nil))) pda_nil)) (pdg_name (i := 4) sc.nd) (pdss_cons (pds_set (i := 8) sc.nd (pd_call (o_law_steps.mono (by decide)) hr (pda_cons (dv 6) (pda_cons (dv 5) pda_nil))))
    (pdss_cons (pds_set (i := 9) sc.nd (pd_cmp opd_gt (pd_peekD 7 (pd_bltn calld_len T.g_len (pd_lc (own := [("_law_step", 11)]) sc.nd (pdi_lst (dv 7)) (blkOk_by (own := [("_law_step", 11)]) (N := N_law_steps_drawn) (sc := defScope s_law_steps_drawn) (by decide +kernel)) (fun _ _ _ _ _ => (pdg_name (i := 11) sc.nd)) (fun _ _ _ _ _ => (pdts_one (pdt_not (pdt (pd_isi .str T.g_isinstance (dv 11) T.g_str))))) (fun _ _ _ _ _ => (dv 11))))) pd_int))
    (pdss_one (pds_if (PW.pt (pdw_and (pdt_cmp (opd_eq hr) (pd_call (o_law_pull.mono (by decide)) hr (pda_cons (dv 0) (pda_cons pd_int pda_nil))) pd_int) (pdw_and1 (pdt_not (pdt (dv 9)))))) (pdss_cons (pds_set (i := 10) sc.nd (pd_call (o_law_other_crew.mono (by decide)) hr (pda_cons (dv 0) (pda_cons (dv 6) pda_nil))))
    (pdss_cons (pds_par (i := 5) (j := 6) sc.nd (pda_cons (pd_call (o_law_carried.mono (by decide)) hr (pda_cons (dv 6) (pda_cons (dv 10) (pda_cons (dv 5) pda_nil)))) (pda_cons (dv 10) pda_nil)))
    (pdss_one (pds_expr (pd_append (dv 7) (pd_type calld_list T.g_list (dv 10))))))) (pdss_one (pds_if (PW.pt (pdw_and (pdt_cmp (opd_ne hr) (dv 8) (pd_lst pda_nil)) (pdw_and1 (pdt_cmp opd_gt (pd_call (o_law_pull.mono (by decide)) hr (pda_cons (dv 0) (pda_cons pd_int pda_nil))) pd_int)))) (pdss_cons (pds_set (i := 11) sc.nd (pd_call (o_law_of.mono (by decide)) hr (pda_cons (dv 0) (pda_cons (dv 8) pda_nil))))
    (pdss_cons (pds_expr (pd_append (dv 7) (pd_ix hr (dv 11) pd_int)))
    (pdss_one (pds_set (i := 5) sc.nd (pd_ix hr (dv 11) pd_int))))) (pdss_one (pds_expr (pd_append (dv 7) (pd_call (o_law_of.mono (by decide)) hr (pda_cons (dv 0) (pda_cons (dv 2) pda_nil)))))))))))))
    (pdss_one (pds_frz 7 (pds_ret (dv 7))))))) r_law_steps_drawn
theorem ok_law_parts (T : Txt K mg) : DefOk P w K mg base (1) "_law_parts" 2 sp_law_parts :=
  have sc := sc_law_parts
  def_ok (N := N_law_parts) (t := t_law_parts) T.d_law_parts sc (fun _ _ _ _ _ _ us hl => match us, hl with | [_, _], _ => rfl) (fun f cdv A outer s H E hr => (pdss_cons (pds_par (i := 3) (j := 4) sc.nd (pda_cons (pd_lstM pda_nil) (pda_cons (pd_lstM (pda_cons (pd_lstM (pda_cons (pd_type calld_list T.g_list (dv 0)) pda_nil)) pda_nil)) pda_nil)))
    (pdss_cons (pds_for PassesOwn.never (pdi_lst (dv 1)) (pdg_name (i := 2) sc.nd) (pdss_one (pds_if (pdt (pd_isi .str T.g_isinstance (dv 2) T.g_str)) (pdss_cons (pds_expr (pd_append (dv 3) (dv 2)))
    (pdss_one (pds_expr (pd_append (dv 4) (pd_lstM (pda_cons (pd_ix hr (pd_ix hr (dv 4) (pd_neg pd_int)) (pd_neg pd_int)) pda_nil)))))) (pdss_one (pds_expr (pd_append (pd_ix hr (dv 4) (pd_neg pd_int)) (pd_type calld_list T.g_list (dv 2))))))))
    (pdss_one (pds_ret (pd_tup (pda_cons (dv 3) (pda_cons (dv 4) pda_nil)))))))) r_law_parts
theorem ok_law_said_drawn (T : Txt K mg) (o_law_pull : DefOk P w K mg base (1) "_law_pull" 2 sp_law_pull) (o_law_of : DefOk P w K mg base (2) "_law_of" 2 sp_law_of) : DefOk P w K mg base (3) "_law_said_drawn" 4 sp_law_said_drawn :=
  have sc := sc_law_said_drawn
  def_ok (N := N_law_said_drawn) (t := t_law_said_drawn) T.d_law_said_drawn sc (fun _ _ _ _ _ _ us hl => match us, hl with | [_, _, _, _], _ => rfl) (fun f cdv A outer s H E hr => (pdss_cons (pds_set (i := 4) sc.nd (pd_lstM pda_nil))
    (pdss_cons (pds_for PassesOwn.never (pdi_range1 T.g_range (pda_cons (pd_op opd_mulD (pd_call (o_law_pull.mono (by decide)) hr (pda_cons (dv 0) (pda_cons (pd_op opd_add (dv 3) pd_int) pda_nil))) (pd_type calld_intB T.g_int (pd_cmp opd_gt (dv 1) pd_int))) pda_nil)) (pdg_name (i := 5) sc.nd) (pdss_cons (pds_set (i := 6) sc.nd (pd_call (o_law_of.mono (by decide)) hr (pda_cons (dv 0) (pda_cons (pd_op opd_add (dv 2) (pd_lst (pda_cons (pd_slice pd_str pdo_none (pdo_some (pd_op opd_add pd_int (pd_call (o_law_pull.mono (by decide)) hr (pda_cons (dv 0) (pda_cons pd_int pda_nil)))))) pda_nil))) pda_nil))))
    (pdss_one (pds_expr (pd_append (dv 4) (pd_tup (pda_cons (pd_call (o_law_pull.mono (by decide)) hr (pda_cons (dv 0) (pda_cons (dv 1) pda_nil))) (pda_cons (dv 6) (pda_cons (pd_cmp (opd_eq hr) (pd_call (o_law_pull.mono (by decide)) hr (pda_cons (dv 0) (pda_cons pd_int pda_nil))) pd_int) pda_nil)))))))))
    (pdss_one (pds_frz 4 (pds_ret (dv 4))))))) r_law_said_drawn
theorem ok_law_scroll_drawn (T : Txt K mg) (o_law_signs : DefOk P w K mg base (3) "_law_signs" 2 sp_law_signs) (o_law_company : DefOk P w K mg base (4) "_law_company" 3 sp_law_company) (o_law_steps_drawn : DefOk P w K mg base (5) "_law_steps_drawn" 4 sp_law_steps_drawn) (o_law_parts : DefOk P w K mg base (1) "_law_parts" 2 sp_law_parts) (o_law_said_drawn : DefOk P w K mg base (3) "_law_said_drawn" 4 sp_law_said_drawn) : DefOk P w K mg base (6) "_law_scroll_drawn" 4 sp_law_scroll_drawn :=
  have sc := sc_law_scroll_drawn
  def_ok (N := N_law_scroll_drawn) (t := t_law_scroll_drawn) T.d_law_scroll_drawn sc (fun _ _ _ _ _ _ us hl => match us, hl with | [_, _, _, _], _ => rfl) (fun f cdv A outer s H E hr => (pdss_cons (pds_set (i := 4) sc.nd (pd_call (o_law_signs.mono (by decide)) hr (pda_cons (dv 0) (pda_cons (dv 1) pda_nil))))
    (pdss_cons (pds_set (i := 5) sc.nd (pd_call (o_law_company.mono (by decide)) hr (pda_cons (dv 0) (pda_cons pd_int (pda_cons (dv 4) pda_nil)))))
    (pdss_cons (pds_set (i := 6) sc.nd (pd_call (o_law_steps_drawn.mono (by decide)) hr (pda_cons (dv 0) (pda_cons (dv 5) (pda_cons (dv 4) (pda_cons (dv 2) pda_nil))))))
    (pdss_cons (pds_set (i := 7) sc.nd (pd_deep (pd_call (o_law_parts.mono (by decide)) hr (pda_cons (dv 5) (pda_cons (dv 6) pda_nil)))))
    (pdss_cons (pds_set (i := 8) sc.nd (pd_call (o_law_said_drawn.mono (by decide)) hr (pda_cons (dv 0) (pda_cons (pd_bltn calld_len T.g_len (pd_ix hr (dv 7) pd_int)) (pda_cons (pd_lc (own := [("_law_writer_here", 9)]) sc.nd (pdi_lst (dv 5)) (blkOk_by (own := [("_law_writer_here", 9)]) (N := N_law_scroll_drawn) (sc := defScope s_law_scroll_drawn) (by decide +kernel)) (fun _ _ _ _ _ => (pdg_name (i := 9) sc.nd)) (fun _ _ _ _ _ => pdts_nil) (fun _ _ _ _ _ => (pd_ix hr (dv 9) pd_int))) (pda_cons (dv 3) pda_nil))))))
    (pdss_one (pds_ret (pd_tup (pda_cons (dv 5) (pda_cons (dv 6) (pda_cons (dv 8) (pda_cons (pd_tup (pda_cons (pd_ix hr (dv 7) pd_int) (pda_cons (pd_ix hr (dv 7) pd_int) (pda_cons (dv 8) pda_nil)))) pda_nil))))))))))))) r_law_scroll_drawn
theorem ok_is_name (T : Txt K mg) : DefOk P w K mg base (1) "is_name" 1 sp_is_name :=
  have sc := sc_is_name
  def_ok (N := N_is_name) (t := t_is_name) T.d_is_name sc (fun _ _ _ _ _ _ us hl => match us, hl with | [_], _ => rfl) (fun f cdv A outer s H E hr => (pdss_one (pds_ret (pd_and (pd_chain opd_lt opd_le pd_int (pd_bltn calld_len T.g_len (dv 0)) (pd_globI rfl T.c_LONGEST.choose_spec)) (pd_one (pd_bltn calld_all T.g_all (pd_lc (own := [("sign", 1)]) sc.nd (pdi_str (dv 0)) (blkOk_by (own := [("sign", 1)]) (N := N_is_name) (sc := defScope s_is_name) (by decide +kernel)) (fun _ _ _ _ _ => (pdg_name (i := 1) sc.nd)) (fun _ _ _ _ _ => pdts_nil) (fun _ _ _ _ _ => (pd_cmp (opd_in hr) (dv 1) (pd_globS rfl T.c_LETTERS.choose_spec)))))))))) r_is_name
theorem ok_is_sign (T : Txt K mg) : DefOk P w K mg base (1) "is_sign" 1 sp_is_sign :=
  have sc := sc_is_sign
  def_ok (N := N_is_sign) (t := t_is_sign) T.d_is_sign sc (fun _ _ _ _ _ _ us hl => match us, hl with | [_], _ => rfl) (fun f cdv A outer s H E hr => (pdss_one (pds_ret (pd_and (pd_cmp (opd_eq hr) (pd_bltn calld_len T.g_len (dv 0)) pd_int) (pd_one (pd_cmp (opd_in hr) (dv 0) (pd_globS rfl T.c_LETTERS.choose_spec))))))) r_is_sign
theorem ok_is_arrow (T : Txt K mg) (o_is_sign : DefOk P w K mg base (1) "is_sign" 1 sp_is_sign) : DefOk P w K mg base (2) "is_arrow" 1 sp_is_arrow :=
  have sc := sc_is_arrow
  def_ok (N := N_is_arrow) (t := t_is_arrow) T.d_is_arrow sc (fun _ _ _ _ _ _ us hl => match us, hl with | [_], _ => rfl) (fun f cdv A outer s H E hr => (pdss_cons (pds_asg (dv 0) (pdg_tup (pdgs_cons (pdg_name (i := 1) sc.nd) (pdgs_cons (pdg_name (i := 2) sc.nd) (pdgs_cons (pdg_name (i := 3) sc.nd) pdgs_nil)))))
    (pdss_one (pds_ret (pd_and (pd_chain opd_le opd_le pd_int (dv 1) (pd_globI rfl T.c_MOST_PLACE.choose_spec)) (pd_and (pd_call (o_is_sign.mono (by decide)) hr (pda_cons (dv 2) pda_nil)) (pd_one (pd_chain opd_le opd_le pd_int (dv 3) (pd_globI rfl T.c_MOST_PLACE.choose_spec))))))))) r_is_arrow
theorem ok_is_writer (T : Txt K mg) (o_is_name : DefOk P w K mg base (1) "is_name" 1 sp_is_name) (o_is_arrow : DefOk P w K mg base (2) "is_arrow" 1 sp_is_arrow) : DefOk P w K mg base (3) "is_writer" 1 sp_is_writer :=
  have sc := sc_is_writer
  def_ok (N := N_is_writer) (t := t_is_writer) T.d_is_writer sc (fun _ _ _ _ _ _ us hl => match us, hl with | [_], _ => rfl) (fun f cdv A outer s H E hr => (pdss_cons (pds_if (pdt_cmp (opd_ne hr) (pd_bltn calld_len T.g_len (dv 0)) pd_int) (pdss_one (pds_ret pd_bl)) pdss_nil)
    (pdss_cons (pds_asg (dv 0) (pdg_tup (pdgs_cons (pdg_name (i := 2) sc.nd) (pdgs_cons (pdg_name (i := 3) sc.nd) (pdgs_cons (pdg_name (i := 4) sc.nd) (pdgs_cons (pdg_name (i := 5) sc.nd) pdgs_nil))))))
    (pdss_cons (pds_if (PW.pt (pdw_or (pdt_not (pdt (pd_call (o_is_name.mono (by decide)) hr (pda_cons (dv 2) pda_nil)))) (pdw_or (pdt_cmp opd_gt (pd_bltn calld_len T.g_len (dv 3)) (pd_globI rfl T.c_MOST_ARROWS.choose_spec)) (pdw_or1 (pdt_not (pdt (pd_bltn calld_all T.g_all (pd_lc (own := [("arrow", 6)]) sc.nd (pdi_tup (dv 3)) (blkOk_by (own := [("arrow", 6)]) (N := N_is_writer) (sc := defScope s_is_writer) (by decide +kernel)) (fun _ _ _ _ _ => (pdg_name (i := 6) sc.nd)) (fun _ _ _ _ _ => pdts_nil) (fun _ _ _ _ _ => (pd_call (o_is_arrow.mono (by decide)) hr (pda_cons (dv 6) pda_nil))))))))))) (pdss_one (pds_ret pd_bl)) pdss_nil)
    (pdss_cons (pds_setLc (i := 1) (own := [("arrow", 6)]) sc.nd (sw_true rfl rfl rfl (by decide +kernel)) (pdi_tup (dv 3)) (blkOk_by (own := [("arrow", 6)]) (N := N_is_writer) (sc := defScope s_is_writer) (by decide +kernel)) (fun _ _ _ _ _ => (pdg_name (i := 6) sc.nd)) (fun _ _ _ _ _ => pdts_nil) (fun _ _ _ _ _ => (pd_slice (dv 6) pdo_none (pdo_some pd_int))))
    (pdss_one (pds_ret (pd_and (pd_cmp (opd_eq hr) (dv 1) (pd_sortset hr T.g_sorted T.g_set (dv 1))) (pd_and (pd_chain opd_le opd_le pd_int (dv 4) (pd_globI rfl T.c_MOST_COUNT.choose_spec)) (pd_one (pd_chain opd_le opd_le pd_int (dv 5) (pd_globI rfl T.c_MOST_COUNT.choose_spec)))))))))))) r_is_writer
theorem ok_need_writers (T : Txt K mg) (o_is_writer : DefOk P w K mg base (3) "is_writer" 1 sp_is_writer) : DefOk P w K mg base (4) "need_writers" 1 sp_need_writers :=
  have sc := sc_need_writers
  def_ok (N := N_need_writers) (t := t_need_writers) T.d_need_writers sc (fun _ _ _ _ _ _ us hl => match us, hl with | [_], _ => rfl) (fun f cdv A outer s H E hr => (pdss_cons (pds_for PassesOwn.never (pdi_enumA T.g_enumerate (pda_cons (dv 0) pda_nil)) (pdg_tup (pdgs_cons (pdg_name (i := 2) sc.nd) (pdgs_cons (pdg_name (i := 3) sc.nd) pdgs_nil))) (pdss_one (pds_if (pdt_not (pdt (pd_call (o_is_writer.mono (by decide)) hr (pda_cons (dv 3) pda_nil)))) (pdss_one pds_never) pdss_nil)))
    (pdss_cons (pds_setLc (i := 1) (own := [("writer", 3)]) sc.nd (sw_true rfl rfl rfl (by decide +kernel)) (pdi_seq (dv 0)) (blkOk_by (own := [("writer", 3)]) (N := N_need_writers) (sc := defScope s_need_writers) (by decide +kernel)) (fun _ _ _ _ _ => (pdg_name (i := 3) sc.nd)) (fun _ _ _ _ _ => pdts_nil) (fun _ _ _ _ _ => (pd_ix hr (dv 3) pd_int)))
    (pdss_cons (pds_for PassesOwn.never (pdi_enumA T.g_enumerate (pda_cons (dv 1) pda_nil)) (pdg_tup (pdgs_cons (pdg_name (i := 2) sc.nd) (pdgs_cons (pdg_name (i := 4) sc.nd) pdgs_nil))) (pdss_one (pds_if (pdt_cmp (opd_in hr) (dv 4) (pd_slice (dv 1) pdo_none (pdo_some (dv 2)))) (pdss_one pds_never) pdss_nil)))
    (pdss_one (pds_if (pdt_cmp opd_gt (pd_bltn calld_len T.g_len (dv 1)) (pd_globI rfl T.c_MOST_WRITERS.choose_spec)) (pdss_one pds_never) pdss_nil)))))) r_need_writers
theorem ok_Company___init__ (T : Txt K mg) (o_need_writers : DefOk P w K mg base (4) "need_writers" 1 sp_need_writers) : InitOk P w K mg base (5) CCompany "Company.__init__" s_Company___init__ ["self", "writers"] [(.tup [])] sp_Company___init__ :=
  have sc := sc_Company___init__
  init_ok (N := N_Company___init__) (t := t_Company___init__) T.d_Company___init__ sc (fun f cdv A outer s H E hr => (pdss_cons (pds_expr (pd_call (o_need_writers.mono (by decide)) hr (pda_cons (dv 1) pda_nil)))
    (pdss_one (pds_setFld (i := 0) T.k_Company (pd_type calld_tuple T.g_tuple (dv 1)) (dv 0))))) r_Company___init__
theorem mk_Company_1 (o : InitOk P w K mg base (5) CCompany "Company.__init__" s_Company___init__ ["self", "writers"] [(.tup [])] sp_Company___init__) : MkOk P w K mg base (5) CCompany 1 [] sp_Company___init__ :=
  o.make 1 1 (by simp) rfl (fun T kV doc pm an cdv ct us its hu hi => match us, its, hu, hi with | [_, _], [_], _, _ => ⟨_, rfl, rfl⟩)
theorem ok_company_in (T : Txt K mg) (o_mk_Company_1 : MkOk P w K mg base (5) CCompany 1 [] sp_Company___init__) : DefOk P w K mg base (7) "company_in" 2 sp_company_in :=
  have sc := sc_company_in
  def_ok (N := N_company_in) (t := t_company_in) T.d_company_in sc (fun _ _ _ _ _ _ us hl => match us, hl with | [_, _], _ => rfl) (fun f cdv A outer s H E hr => (pdss_one (pds_try (pdss_one (pds_ret (pd_frz (pd_make (o_mk_Company_1.mono (by decide)) hr (pda_cons (dv 0) pda_nil)))))))) r_company_in
theorem ok_Scroll_add_step (T : Txt K mg) (o_company_in : DefOk P w K mg base (7) "company_in" 2 sp_company_in) (o_is_sign : DefOk P w K mg base (1) "is_sign" 1 sp_is_sign) : MethOk P w K mg base (8) CScroll "add_step" 3 sp_Scroll_add_step :=
  have sc := sc_Scroll_add_step
  meth_ok (N := N_Scroll_add_step) (t := t_Scroll_add_step) T.d_Scroll_add_step sc (fun _ _ _ _ _ _ us hl => match us, hl with | [_, _, _], _ => rfl) (fun f cdv A outer s H E hr => (pdss_one (pds_if (pdt_not (pdt (pd_isi .str T.g_isinstance (dv 1) T.g_str))) (pdss_one (pds_expr (pd_append (pd_ix hr (pd_fld (i := 1) T.k_Scroll (dv 0)) (pd_neg pd_int)) (pd_call (o_company_in.mono (by decide)) hr (pda_cons (dv 1) (pda_cons (dv 2) pda_nil)))))) (pdss_one (pds_if (pdt (pd_call (o_is_sign.mono (by decide)) hr (pda_cons (dv 1) pda_nil))) (pdss_cons (pds_expr (pd_append (pd_fld (i := 0) T.k_Scroll (dv 0)) (dv 1)))
    (pdss_one (pds_expr (pd_append (pd_fld (i := 1) T.k_Scroll (dv 0)) (pd_lstM (pda_cons (pd_ix hr (pd_ix hr (pd_fld (i := 1) T.k_Scroll (dv 0)) (pd_neg pd_int)) (pd_neg pd_int)) pda_nil)))))) (pdss_one pds_never)))))) r_Scroll_add_step
theorem ok_Scroll___init__ (T : Txt K mg) (o_Scroll_add_step : MethOk P w K mg base (8) CScroll "add_step" 3 sp_Scroll_add_step) (o_is_name : DefOk P w K mg base (1) "is_name" 1 sp_is_name) : InitKOk P w K mg base (9) CScroll "Scroll.__init__" s_Scroll___init__ ["self", "company", "steps", "said"] [("steps", (.tup [])), ("said", (.tup []))] sp_Scroll___init__ :=
  have sc := sc_Scroll___init__
  initK_ok (N := N_Scroll___init__) (t := t_Scroll___init__) T.d_Scroll___init__ sc (fun f cdv A outer s H E hr => (pdss_cons (pds_setFld (i := 0) T.k_Scroll (pd_lstM pda_nil) (dv 0))
    (pdss_cons (pds_setFld (i := 1) T.k_Scroll (pd_lstM (pda_cons (pd_lstM (pda_cons (dv 1) pda_nil)) pda_nil)) (dv 0))
    (pdss_cons (pds_for PassesOwn.never (pdi_enumA T.g_enumerate (pda_cons (dv 2) pda_nil)) (pdg_tup (pdgs_cons (pdg_name (i := 4) sc.nd) (pdgs_cons (pdg_name (i := 5) sc.nd) pdgs_nil))) (pdss_one (pds_expr (pd_meth (o_Scroll_add_step.mono (by decide)) T.k_Scroll hr (dv 0) (pda_cons (dv 5) (pda_cons (dv 4) pda_nil))))))
    (pdss_cons (pds_for PassesOwn.never (pdi_enumA T.g_enumerate (pda_cons (dv 3) pda_nil)) (pdg_tup (pdgs_cons (pdg_name (i := 4) sc.nd) (pdgs_cons (pdg_tup (pdgs_cons (pdg_name (i := 6) sc.nd) (pdgs_cons (pdg_name (i := 7) sc.nd) (pdgs_cons (pdg_name (i := 8) sc.nd) pdgs_nil)))) pdgs_nil))) (pdss_one (pds_if (PW.pt (pdw_or (pdt_not (pdt_chain opd_le opd_lt pd_int (dv 6) (pd_bltn calld_len T.g_len (pd_fld (i := 0) T.k_Scroll (dv 0))))) (pdw_or1 (pdt_not (pdt (pd_call (o_is_name.mono (by decide)) hr (pda_cons (dv 7) pda_nil))))))) (pdss_one pds_never) pdss_nil)))
    (pdss_one (pds_setFld (i := 2) T.k_Scroll (pd_lc (own := [("sign", 6), ("name", 7), ("so", 8)]) sc.nd (pdi_seq (dv 3)) (blkOk_by (own := [("sign", 6), ("name", 7), ("so", 8)]) (N := N_Scroll___init__) (sc := defScope s_Scroll___init__) (by decide +kernel)) (fun _ _ _ _ _ => (pdg_tup (pdgs_cons (pdg_name (i := 6) sc.nd) (pdgs_cons (pdg_name (i := 7) sc.nd) (pdgs_cons (pdg_name (i := 8) sc.nd) pdgs_nil))))) (fun _ _ _ _ _ => pdts_nil) (fun _ _ _ _ _ => (pd_tup (pda_cons (dv 6) (pda_cons (dv 7) (pda_cons (dv 8) pda_nil)))))) (dv 0)))))))) r_Scroll___init__
theorem mkk_Scroll_1_steps_said (o : InitKOk P w K mg base (9) CScroll "Scroll.__init__" s_Scroll___init__ ["self", "company", "steps", "said"] [("steps", (.tup [])), ("said", (.tup []))] sp_Scroll___init__) : MkKOk P w K mg base (9) CScroll 1 ["steps", "said"] (fun (ds es : List D) => ds ++ es) sp_Scroll___init__ :=
  o.make 1 ["steps", "said"] [] (fun ds ms es => ds ++ (ms ++ es)) _ (by simp) (by simp) (fun _ _ => rfl) (fun ds es l1 l2 => by simp only [List.length_append, List.length_cons, List.length_nil] at *; omega) (fun a b c => a.append (b.append c)) (fun _ _ _ _ _ _ _ _ a b c => a.append (b.append c)) (fun D doc pm an cdv ct us mv ws l1 l2 l3 => match us, mv, ws, l1, l2, l3 with | [_, _], [], [_, _], _, _, _ => rfl)
theorem ok_law_made (T : Txt K mg) (o_mk_Company_1 : MkOk P w K mg base (5) CCompany 1 [] sp_Company___init__) (o_mkk_Scroll_1_steps_said : MkKOk P w K mg base (9) CScroll 1 ["steps", "said"] (fun (ds es : List D) => ds ++ es) sp_Scroll___init__) : DefOk P w K mg base (11) "_law_made" 1 sp_law_made :=
  have sc := sc_law_made
  def_ok (N := N_law_made) (t := t_law_made) T.d_law_made sc (fun _ _ _ _ _ _ us hl => match us, hl with | [_], _ => rfl) (fun f cdv A outer s H E hr => (pdss_one (pds_ret (pd_makeK (o_mkk_Scroll_1_steps_said.mono (by decide)) hr (pda_cons (pd_frz (pd_make (o_mk_Company_1.mono (by decide)) hr (pda_cons (pd_ix hr (dv 0) pd_int) pda_nil))) pda_nil) (pdk_cons (pd_type calld_list T.g_list (pd_ix hr (dv 0) pd_int)) (pdk_cons (pd_type calld_list T.g_list (pd_ix hr (dv 0) pd_int)) pdk_nil)))))) r_law_made
theorem ok_law_turned (T : Txt K mg) (o_law_carried : DefOk P w K mg base (1) "_law_carried" 3 sp_law_carried) : DefOk P w K mg base (2) "_law_turned" 2 sp_law_turned :=
  have sc := sc_law_turned
  def_ok (N := N_law_turned) (t := t_law_turned) T.d_law_turned sc (fun _ _ _ _ _ _ us hl => match us, hl with | [_, _], _ => rfl) (fun f cdv A outer s H E hr => (pdss_cons (pds_for PassesOwn.never (pdi_zip T.g_zip (pda_cons (pd_slice (dv 0) pdo_none (pdo_some (pd_neg pd_int))) (pda_cons (pd_slice (dv 0) (pdo_some pd_int) pdo_none) pda_nil))) (pdg_tup (pdgs_cons (pdg_name (i := 2) sc.nd) (pdgs_cons (pdg_name (i := 3) sc.nd) pdgs_nil))) (pdss_one (pds_set (i := 1) sc.nd (pd_call (o_law_carried.mono (by decide)) hr (pda_cons (dv 2) (pda_cons (dv 3) (pda_cons (dv 1) pda_nil)))))))
    (pdss_one (pds_ret (dv 1))))) r_law_turned
theorem ok_law_first (T : Txt K mg) (o_law_turned : DefOk P w K mg base (2) "_law_turned" 2 sp_law_turned) (o_law_begin : DefOk P w K mg base (1) "_law_begin" 1 sp_law_begin) : DefOk P w K mg base (3) "_law_first" 1 sp_law_first :=
  have sc := sc_law_first
  def_ok (N := N_law_first) (t := t_law_first) T.d_law_first sc (fun _ _ _ _ _ _ us hl => match us, hl with | [_], _ => rfl) (fun f cdv A outer s H E hr => (pdss_one (pds_ret (pd_call (o_law_turned.mono (by decide)) hr (pda_cons (pd_ix hr (pd_ix hr (dv 0) pd_int) pd_int) (pda_cons (pd_call (o_law_begin.mono (by decide)) hr (pda_cons (pd_ix hr (pd_ix hr (pd_ix hr (dv 0) pd_int) pd_int) pd_int) pda_nil)) pda_nil)))))) r_law_first
theorem ok_law_broken (T : Txt K mg) : DefOk P w K mg base (1) "_law_broken" 3 sp_law_broken :=
  have sc := sc_law_broken
  def_ok (N := N_law_broken) (t := t_law_broken) T.d_law_broken sc (fun _ _ _ _ _ _ us hl => match us, hl with | [_, _, _], _ => rfl) (fun f cdv A outer s H E hr => (pdss_one (pds_ret (pd_bltn calld_len T.g_len (pd_lc (own := [("_law_sign", 3), ("_law_other", 4), ("_law_yes", 5)]) sc.nd (pdi_lst (dv 0)) (blkOk_by (own := [("_law_sign", 3), ("_law_other", 4), ("_law_yes", 5)]) (N := N_law_broken) (sc := defScope s_law_broken) (by decide +kernel)) (fun _ _ _ _ _ => (pdg_tup (pdgs_cons (pdg_name (i := 3) sc.nd) (pdgs_cons (pdg_name (i := 4) sc.nd) (pdgs_cons (pdg_name (i := 5) sc.nd) pdgs_nil))))) (fun _ _ _ _ _ => (pdts_one (PW.pt (pdw_and (pdt_cmp (opd_eq hr) (dv 3) (dv 1)) (pdw_and1 (pdt_cmp (opd_ne hr) (pd_cmp (opd_eq hr) (dv 4) (dv 2)) (dv 5))))))) (fun _ _ _ _ _ => (dv 5))))))) r_law_broken
theorem ok_law_onward (T : Txt K mg) (o_law_steps : DefOk P w K mg base (4) "_law_steps" 2 sp_law_steps) (o_law_broken : DefOk P w K mg base (1) "_law_broken" 3 sp_law_broken) (o_law_turned : DefOk P w K mg base (2) "_law_turned" 2 sp_law_turned) : DefOk P w K mg base (5) "_law_onward" 4 sp_law_onward :=
  have sc := sc_law_onward
  def_ok (N := N_law_onward) (t := t_law_onward) T.d_law_onward sc (fun _ _ _ _ _ _ us hl => match us, hl with | [_, _, _, _], _ => rfl) (fun f cdv A outer s H E hr => (pdss_cons (pds_asg (dv 0) (pdg_tup (pdgs_cons (pdg_name (i := 5) sc.nd) (pdgs_cons (pdg_name (i := 6) sc.nd) (pdgs_cons (pdg_name (i := 7) sc.nd) pdgs_nil)))))
    (pdss_cons (pds_set (i := 4) sc.nd (pd_lstM pda_nil))
    (pdss_cons (pds_for PassesOwn.never (pdi_lst (pd_call (o_law_steps.mono (by decide)) hr (pda_cons (pd_ix hr (pd_ix hr (dv 6) (dv 1)) (pd_neg pd_int)) (pda_cons (dv 2) pda_nil)))) (pdg_tup (pdgs_cons (pdg_name (i := 8) sc.nd) (pdgs_cons (pdg_name (i := 9) sc.nd) (pdgs_cons (pdg_name (i := 10) sc.nd) pdgs_nil)))) (pdss_one (pds_if (PW.pt (pdw_and (pdt_cmp (opd_eq hr) (dv 8) (pd_ix hr (dv 5) (dv 1))) (pdw_and1 (PW.pt (pdw_or (pdt_not (pdt (dv 3))) (pdw_or1 (pdt_cmp (opd_eq hr) (pd_call (o_law_broken.mono (by decide)) hr (pda_cons (dv 7) (pda_cons (dv 1) (pda_cons (dv 9) pda_nil)))) pd_int))))))) (pdss_one (pds_expr (pd_append (dv 4) (pd_tup (pda_cons (dv 9) (pda_cons (pd_call (o_law_turned.mono (by decide)) hr (pda_cons (pd_ix hr (dv 6) (pd_op opd_add (dv 1) pd_int)) (pda_cons (dv 10) pda_nil))) pda_nil)))))) pdss_nil)))
    (pdss_one (pds_frz 4 (pds_ret (dv 4)))))))) r_law_onward
theorem ok_law_forth (T : Txt K mg) (o_law_first : DefOk P w K mg base (3) "_law_first" 1 sp_law_first) (o_law_onward : DefOk P w K mg base (5) "_law_onward" 4 sp_law_onward) : DefOk P w K mg base (6) "_law_forth" 1 sp_law_forth :=
  have sc := sc_law_forth
  def_ok (N := N_law_forth) (t := (t_law_forth w)) T.d_law_forth sc (fun _ _ _ _ _ _ us hl => match us, hl with | [_], _ => rfl) (fun f cdv A outer s H E hr => (pdss_cons (pds_set (i := 1) sc.nd (pd_lstM (pda_cons (pd_lst (pda_cons (pd_call (o_law_first.mono (by decide)) hr (pda_cons (dv 0) pda_nil)) pda_nil)) pda_nil)))
    (pdss_cons (pds_for PassesOwn.never (pdi_range1 T.g_range (pda_cons (pd_bltn calld_len T.g_len (pd_ix hr (dv 0) pd_int)) pda_nil)) (pdg_name (i := 2) sc.nd) (pdss_cons (pds_set (i := 3) sc.nd pd_dk0)
    (pdss_cons (pds_for PassesOwn.never (pdi_lst (pd_ix hr (dv 1) (pd_neg pd_int))) (pdg_name (i := 4) sc.nd) (pdss_one (pds_for PassesOwn.never (pdi_lst (pd_call (o_law_onward.mono (by decide)) hr (pda_cons (dv 0) (pda_cons (dv 2) (pda_cons (dv 4) (pda_cons pd_bl pda_nil)))))) (pdg_tup (pdgs_cons (pdg_name (i := 5) sc.nd) (pdgs_cons (pdg_name (i := 6) sc.nd) pdgs_nil))) (pdss_one (pds_setDk hr pd_bl (dv 3) (dv 6))))))
    (pdss_one (pds_frz 3 (pds_expr (pd_append (dv 1) (pd_bltn (calld_sortDk hr) T.g_sorted (dv 3)))))))))
    (pdss_one (pds_frz 1 (pds_ret (dv 1))))))) (r_law_forth w)
theorem ok_law_live (T : Txt K mg) (o_law_forth : DefOk P w K mg base (6) "_law_forth" 1 sp_law_forth) (o_law_onward : DefOk P w K mg base (5) "_law_onward" 4 sp_law_onward) : DefOk P w K mg base (7) "_law_live" 1 sp_law_live :=
  have sc := sc_law_live
  def_ok (N := N_law_live) (t := (t_law_live w)) T.d_law_live sc (fun _ _ _ _ _ _ us hl => match us, hl with | [_], _ => rfl) (fun f cdv A outer s H E hr => (pdss_cons (pds_set (i := 1) sc.nd (pd_call (o_law_forth.mono (by decide)) hr (pda_cons (dv 0) pda_nil)))
    (pdss_cons (pds_set (i := 2) sc.nd (pd_lstM (pda_cons (pd_type calld_list T.g_list (pd_ix hr (dv 1) (pd_neg pd_int))) pda_nil)))
    (pdss_cons (pds_for PassesOwn.never (pdi_rangeD T.g_range (pda_cons (pd_op opd_subI (pd_bltn calld_len T.g_len (pd_ix hr (dv 0) pd_int)) pd_int) (pda_cons (pd_neg pd_int) (pda_cons (pd_neg pd_int) pda_nil)))) (pdg_name (i := 3) sc.nd) (pdss_cons (pds_asg (pd_tup (pda_cons (pd_type (calld_dictDk hr) T.g_dict (pd_lc (own := [("_law_to", 7)]) sc.nd (pdi_lst (pd_ix hr (dv 2) (pd_neg pd_int))) (blkOk_by (own := [("_law_to", 7)]) (N := N_law_live) (sc := defScope s_law_live) (by decide +kernel)) (fun _ _ _ _ _ => (pdg_name (i := 7) sc.nd)) (fun _ _ _ _ _ => pdts_nil) (fun _ _ _ _ _ => (pd_tup (pda_cons (dv 7) (pda_cons pd_bl pda_nil)))))) (pda_cons (pd_lstM pda_nil) pda_nil))) (pdg_tup (pdgs_cons (pdg_name (i := 5) sc.nd) (pdgs_cons (pdg_name (i := 6) sc.nd) pdgs_nil))))
    (pdss_cons (pds_for PassesOwn.never (pdi_lst (pd_ix hr (dv 1) (dv 3))) (pdg_name (i := 4) sc.nd) (pdss_one (pds_if (pdt (pd_bltn calld_any T.g_any (pd_lc (own := [("_law_name", 8), ("_law_to", 7)]) sc.nd (pdi_lst (pd_call (o_law_onward.mono (by decide)) hr (pda_cons (dv 0) (pda_cons (dv 3) (pda_cons (dv 4) (pda_cons pd_bl pda_nil)))))) (blkOk_by (own := [("_law_name", 8), ("_law_to", 7)]) (N := N_law_live) (sc := defScope s_law_live) (by decide +kernel)) (fun _ _ _ _ _ => (pdg_tup (pdgs_cons (pdg_name (i := 8) sc.nd) (pdgs_cons (pdg_name (i := 7) sc.nd) pdgs_nil)))) (fun _ _ _ _ _ => pdts_nil) (fun _ _ _ _ _ => (pd_cmp (opd_inDk hr) (dv 7) (dv 5)))))) (pdss_one (pds_expr (pd_append (dv 6) (dv 4)))) pdss_nil)))
    (pdss_one (pds_frz 6 (pds_frz 5 (pds_expr (pd_append (dv 2) (dv 6)))))))))
    (pdss_one (pds_frz 2 (pds_ret (pd_revL (dv 2))))))))) (r_law_live w)
theorem ok_Company_writers (T : Txt K mg) : MethOk P w K mg base (1) CCompany "writers" 1 sp_Company_writers :=
  have sc := sc_Company_writers
  meth_ok (N := N_Company_writers) (t := t_Company_writers) T.d_Company_writers sc (fun _ _ _ _ _ _ us hl => match us, hl with | [_], _ => rfl) (fun f cdv A outer s H E hr => (pdss_one (pds_ret (pd_type calld_list T.g_list (pd_fld (i := 0) T.k_Company (dv 0)))))) r_Company_writers
theorem ok_carried (T : Txt K mg) (o_Company_writers : MethOk P w K mg base (1) CCompany "writers" 1 sp_Company_writers) : DefOk P w K mg base (2) "carried" 3 sp_carried :=
  have sc := sc_carried
  def_ok (N := N_carried) (t := t_carried) T.d_carried sc (fun _ _ _ _ _ _ us hl => match us, hl with | [_, _, _], _ => rfl) (fun f cdv A outer s H E hr => (pdss_cons (pds_asg (dv 2) (pdg_tup (pdgs_cons (pdg_name (i := 6) sc.nd) (pdgs_cons (pdg_name (i := 7) sc.nd) (pdgs_cons (pdg_tup (pdgs_cons (pdg_name (i := 8) sc.nd) (pdgs_cons (pdg_name (i := 9) sc.nd) pdgs_nil))) pdgs_nil)))))
    (pdss_cons (pds_set (i := 3) sc.nd (pd_meth0 (o_Company_writers.mono (by decide)) T.k_Company hr (dv 0)))
    (pdss_cons (pds_setLc (i := 4) (own := [("writer", 10)]) sc.nd (sw_true rfl rfl rfl (by decide +kernel)) (pdi_lst (pd_meth0 (o_Company_writers.mono (by decide)) T.k_Company hr (dv 1))) (blkOk_by (own := [("writer", 10)]) (N := N_carried) (sc := defScope s_carried) (by decide +kernel)) (fun _ _ _ _ _ => (pdg_name (i := 10) sc.nd)) (fun _ _ _ _ _ => pdts_nil) (fun _ _ _ _ _ => (pd_if (pdt_cmp (opd_in hr) (dv 10) (dv 3)) (pd_index hr (dv 3) (dv 10)) (pd_neg pd_int))))
    (pdss_cons (pds_set (i := 5) sc.nd (pd_if (PW.pt (pdw_and (pdt_cmp opd_ge (dv 8) pd_int) (pdw_and1 (pdt_cmp (opd_in hr) (dv 8) (dv 4))))) (pd_tup (pda_cons (pd_index hr (dv 4) (dv 8)) (pda_cons (dv 9) pda_nil))) (pd_globT rfl T.c_NOBODY)))
    (pdss_one (pds_ret (pd_tup (pda_cons (pd_type calld_tuple T.g_tuple (pd_lc (own := [("spot", 11)]) sc.nd (pdi_lst (dv 4)) (blkOk_by (own := [("spot", 11)]) (N := N_carried) (sc := defScope s_carried) (by decide +kernel)) (fun _ _ _ _ _ => (pdg_name (i := 11) sc.nd)) (fun _ _ _ _ _ => pdts_nil) (fun _ _ _ _ _ => (pd_if (pdt_cmp opd_ge (dv 11) pd_int) (pd_ix hr (dv 6) (dv 11)) pd_int)))) (pda_cons (pd_type calld_tuple T.g_tuple (pd_lc (own := [("spot", 11)]) sc.nd (pdi_lst (dv 4)) (blkOk_by (own := [("spot", 11)]) (N := N_carried) (sc := defScope s_carried) (by decide +kernel)) (fun _ _ _ _ _ => (pdg_name (i := 11) sc.nd)) (fun _ _ _ _ _ => pdts_nil) (fun _ _ _ _ _ => (pd_if (pdt_cmp opd_ge (dv 11) pd_int) (pd_ix hr (dv 7) (dv 11)) pd_int)))) (pda_cons (dv 5) pda_nil))))))))))) r_carried
theorem ok_Scroll_turned (T : Txt K mg) (o_carried : DefOk P w K mg base (2) "carried" 3 sp_carried) : MethOk P w K mg base (3) CScroll "turned" 3 sp_Scroll_turned :=
  have sc := sc_Scroll_turned
  meth_ok (N := N_Scroll_turned) (t := t_Scroll_turned) T.d_Scroll_turned sc (fun _ _ _ _ _ _ us hl => match us, hl with | [_, _, _], _ => rfl) (fun f cdv A outer s H E hr => (pdss_cons (pds_set (i := 3) sc.nd (pd_ix hr (pd_fld (i := 1) T.k_Scroll (dv 0)) (dv 1)))
    (pdss_cons (pds_for PassesOwn.never (pdi_zip T.g_zip (pda_cons (pd_slice (dv 3) pdo_none (pdo_some (pd_neg pd_int))) (pda_cons (pd_slice (dv 3) (pdo_some pd_int) pdo_none) pda_nil))) (pdg_tup (pdgs_cons (pdg_name (i := 4) sc.nd) (pdgs_cons (pdg_name (i := 5) sc.nd) pdgs_nil))) (pdss_one (pds_set (i := 2) sc.nd (pd_call (o_carried.mono (by decide)) hr (pda_cons (dv 4) (pda_cons (dv 5) (pda_cons (dv 2) pda_nil)))))))
    (pdss_one (pds_ret (dv 2)))))) r_Scroll_turned
theorem ok_Company_begin (T : Txt K mg) : MethOk P w K mg base (1) CCompany "begin" 1 sp_Company_begin :=
  have sc := sc_Company_begin
  meth_ok (N := N_Company_begin) (t := t_Company_begin) T.d_Company_begin sc (fun _ _ _ _ _ _ us hl => match us, hl with | [_], _ => rfl) (fun f cdv A outer s H E hr => (pdss_one (pds_ret (pd_tup (pda_cons (pd_op opd_mulD (pd_tup (pda_cons pd_int pda_nil)) (pd_bltn calld_len T.g_len (pd_fld (i := 0) T.k_Company (dv 0)))) (pda_cons (pd_op opd_mulD (pd_tup (pda_cons pd_int pda_nil)) (pd_bltn calld_len T.g_len (pd_fld (i := 0) T.k_Company (dv 0)))) (pda_cons (pd_globT rfl T.c_NOBODY) pda_nil))))))) r_Company_begin
theorem ok_Scroll_first (T : Txt K mg) (o_Scroll_turned : MethOk P w K mg base (3) CScroll "turned" 3 sp_Scroll_turned) (o_Company_begin : MethOk P w K mg base (1) CCompany "begin" 1 sp_Company_begin) : MethOk P w K mg base (4) CScroll "first" 1 sp_Scroll_first :=
  have sc := sc_Scroll_first
  meth_ok (N := N_Scroll_first) (t := t_Scroll_first) T.d_Scroll_first sc (fun _ _ _ _ _ _ us hl => match us, hl with | [_], _ => rfl) (fun f cdv A outer s H E hr => (pdss_one (pds_ret (pd_meth (o_Scroll_turned.mono (by decide)) T.k_Scroll hr (dv 0) (pda_cons pd_int (pda_cons (pd_meth0 (o_Company_begin.mono (by decide)) T.k_Company hr (pd_ix hr (pd_ix hr (pd_fld (i := 1) T.k_Scroll (dv 0)) pd_int) pd_int)) pda_nil)))))) r_Scroll_first
theorem ok_arrows_at (T : Txt K mg) : DefOk P w K mg base (1) "arrows_at" 2 sp_arrows_at :=
  have sc := sc_arrows_at
  def_ok (N := N_arrows_at) (t := t_arrows_at) T.d_arrows_at sc (fun _ _ _ _ _ _ us hl => match us, hl with | [_, _], _ => rfl) (fun f cdv A outer s H E hr => (pdss_one (pds_ret (pd_dc (own := [("at", 2), ("sign", 3), ("to", 4)]) sc.nd (pdi_tup (pd_ix hr (dv 0) pd_int)) (blkOk_by (own := [("at", 2), ("sign", 3), ("to", 4)]) (N := N_arrows_at) (sc := defScope s_arrows_at) (by decide +kernel)) (fun _ _ _ _ _ => (pdg_tup (pdgs_cons (pdg_name (i := 2) sc.nd) (pdgs_cons (pdg_name (i := 3) sc.nd) (pdgs_cons (pdg_name (i := 4) sc.nd) pdgs_nil))))) (fun _ _ _ _ _ => (pdts_one (pdt_cmp (opd_eq hr) (dv 2) (dv 1)))) (fun _ _ _ _ _ => (dv 3)) (fun _ _ _ _ _ => (dv 4)))))) r_arrows_at
theorem ok_is_done (T : Txt K mg) (o_arrows_at : DefOk P w K mg base (1) "arrows_at" 2 sp_arrows_at) : DefOk P w K mg base (2) "is_done" 2 sp_is_done :=
  have sc := sc_is_done
  def_ok (N := N_is_done) (t := t_is_done) T.d_is_done sc (fun _ _ _ _ _ _ us hl => match us, hl with | [_, _], _ => rfl) (fun f cdv A outer s H E hr => (pdss_one (pds_ret (pd_cmp (opd_eqK hr) (pd_call (o_arrows_at.mono (by decide)) hr (pda_cons (dv 0) (pda_cons (dv 1) pda_nil))) pd_dctF0)))) r_is_done
theorem ok_Company_counts (T : Txt K mg) (o_is_done : DefOk P w K mg base (2) "is_done" 2 sp_is_done) : MethOk P w K mg base (3) CCompany "counts" 3 sp_Company_counts :=
  have sc := sc_Company_counts
  meth_ok (N := N_Company_counts) (t := t_Company_counts) T.d_Company_counts sc (fun _ _ _ _ _ _ us hl => match us, hl with | [_, _, _], _ => rfl) (fun f cdv A outer s H E hr => (pdss_one (pds_ret (pd_and (pd_cmp opd_gt (pd_ix hr (pd_ix hr (pd_fld (i := 0) T.k_Company (dv 0)) (dv 1)) pd_int) pd_int) (pd_one (pd_not (pd_call (o_is_done.mono (by decide)) hr (pda_cons (pd_ix hr (pd_fld (i := 0) T.k_Company (dv 0)) (dv 1)) (pda_cons (dv 2) pda_nil))))))))) r_Company_counts
theorem ok_Company_may_write (T : Txt K mg) (o_Company_counts : MethOk P w K mg base (3) CCompany "counts" 3 sp_Company_counts) : MethOk P w K mg base (4) CCompany "may_write" 3 sp_Company_may_write :=
  have sc := sc_Company_may_write
  meth_ok (N := N_Company_may_write) (t := t_Company_may_write) T.d_Company_may_write sc (fun _ _ _ _ _ _ us hl => match us, hl with | [_, _, _], _ => rfl) (fun f cdv A outer s H E hr => (pdss_cons (pds_asg (dv 1) (pdg_tup (pdgs_cons (pdg_name (i := 5) sc.nd) (pdgs_cons (pdg_name (i := 6) sc.nd) (pdgs_cons (pdg_name (i := 7) sc.nd) pdgs_nil)))))
    (pdss_cons (pds_set (i := 3) sc.nd (pd_ix hr (pd_ix hr (pd_fld (i := 0) T.k_Company (dv 0)) (dv 2)) pd_int))
    (pdss_cons (pds_if (PW.pt (pdw_and (pdt_cmp opd_gt (dv 3) pd_int) (pdw_and1 (pdt_cmp (opd_eq hr) (dv 7) (pd_tup (pda_cons (dv 2) (pda_cons (dv 3) pda_nil))))))) (pdss_one (pds_ret pd_bl)) pdss_nil)
    (pdss_cons (pds_setLc (i := 4) (own := [("at", 8)]) sc.nd (sw_true rfl rfl rfl (by decide +kernel)) (pdi_range1 T.g_range (pda_cons (pd_bltn calld_len T.g_len (pd_fld (i := 0) T.k_Company (dv 0))) pda_nil)) (blkOk_by (own := [("at", 8)]) (N := N_Company_may_write) (sc := defScope s_Company_may_write) (by decide +kernel)) (fun _ _ _ _ _ => (pdg_name (i := 8) sc.nd)) (fun _ _ _ _ _ => (pdts_one (PW.pt (pdw_and (pdt_cmp (opd_ne hr) (dv 8) (dv 2)) (pdw_and1 (pdt (pd_meth (o_Company_counts.mono (by decide)) T.k_Company hr (dv 0) (pda_cons (dv 8) (pda_cons (pd_ix hr (dv 5) (dv 8)) pda_nil))))))))) (fun _ _ _ _ _ => (dv 8)))
    (pdss_one (pds_ret (pd_bltn calld_all T.g_all (pd_lc (own := [("at", 8)]) sc.nd (pdi_lst (dv 4)) (blkOk_by (own := [("at", 8)]) (N := N_Company_may_write) (sc := defScope s_Company_may_write) (by decide +kernel)) (fun _ _ _ _ _ => (pdg_name (i := 8) sc.nd)) (fun _ _ _ _ _ => pdts_nil) (fun _ _ _ _ _ => (pd_cmp opd_lt (pd_ix hr (dv 6) (dv 8)) (pd_ix hr (pd_ix hr (pd_fld (i := 0) T.k_Company (dv 0)) (dv 8)) pd_int)))))))))))) r_Company_may_write
theorem ok_Company_behind (T : Txt K mg) (o_Company_counts : MethOk P w K mg base (3) CCompany "counts" 3 sp_Company_counts) : MethOk P w K mg base (4) CCompany "behind" 4 sp_Company_behind :=
  have sc := sc_Company_behind
  meth_ok (N := N_Company_behind) (t := t_Company_behind) T.d_Company_behind sc (fun _ _ _ _ _ _ us hl => match us, hl with | [_, _, _, _], _ => rfl) (fun f cdv A outer s H E hr => (pdss_cons (pds_asg (dv 1) (pdg_tup (pdgs_cons (pdg_name (i := 7) sc.nd) (pdgs_cons (pdg_name (i := 8) sc.nd) (pdgs_cons (pdg_tup (pdgs_cons (pdg_name (i := 9) sc.nd) (pdgs_cons (pdg_name (i := 10) sc.nd) pdgs_nil))) pdgs_nil)))))
    (pdss_cons (pds_set (i := 4) sc.nd (pd_op opd_add (pd_op opd_add (pd_slice (dv 7) pdo_none (pdo_some (dv 2))) (pd_tup (pda_cons (dv 3) pda_nil))) (pd_slice (dv 7) (pdo_some (pd_op opd_add (dv 2) pd_int)) pdo_none)))
    (pdss_cons (pds_setLc (i := 5) (own := [("at", 11), ("wait", 12)]) sc.nd (sw_true rfl rfl rfl (by decide +kernel)) (pdi_enumA T.g_enumerate (pda_cons (dv 8) pda_nil)) (blkOk_by (own := [("at", 11), ("wait", 12)]) (N := N_Company_behind) (sc := defScope s_Company_behind) (by decide +kernel)) (fun _ _ _ _ _ => (pdg_tup (pdgs_cons (pdg_name (i := 11) sc.nd) (pdgs_cons (pdg_name (i := 12) sc.nd) pdgs_nil)))) (fun _ _ _ _ _ => pdts_nil) (fun _ _ _ _ _ => (pd_if (PW.pt (pdw_and (pdt_cmp (opd_ne hr) (dv 11) (dv 2)) (pdw_and1 (pdt (pd_meth (o_Company_counts.mono (by decide)) T.k_Company hr (dv 0) (pda_cons (dv 11) (pda_cons (pd_ix hr (dv 7) (dv 11)) pda_nil))))))) (pd_op opd_add (dv 12) pd_int) pd_int)))
    (pdss_cons (pds_set (i := 6) sc.nd (pd_globT rfl T.c_NOBODY))
    (pdss_cons (pds_if (pdt_cmp opd_gt (pd_ix hr (pd_ix hr (pd_fld (i := 0) T.k_Company (dv 0)) (dv 2)) pd_int) pd_int) (pdss_one (pds_set (i := 6) sc.nd (pd_tup (pda_cons (dv 2) (pda_cons (pd_if (pdt_cmp (opd_eq hr) (dv 9) (dv 2)) (pd_op opd_add (dv 10) pd_int) pd_int) pda_nil))))) pdss_nil)
    (pdss_one (pds_ret (pd_tup (pda_cons (dv 4) (pda_cons (pd_type calld_tuple T.g_tuple (dv 5)) (pda_cons (dv 6) pda_nil)))))))))))) r_Company_behind
theorem ok_Company_steps (T : Txt K mg) (o_Company_may_write : MethOk P w K mg base (4) CCompany "may_write" 3 sp_Company_may_write) (o_arrows_at : DefOk P w K mg base (1) "arrows_at" 2 sp_arrows_at) (o_Company_behind : MethOk P w K mg base (4) CCompany "behind" 4 sp_Company_behind) : MethOk P w K mg base (5) CCompany "steps" 2 sp_Company_steps :=
  have sc := sc_Company_steps
  meth_ok (N := N_Company_steps) (t := t_Company_steps) T.d_Company_steps sc (fun _ _ _ _ _ _ us hl => match us, hl with | [_, _], _ => rfl) (fun f cdv A outer s H E hr => (pdss_cons (pds_set (i := 2) sc.nd (pd_lstM pda_nil))
    (pdss_cons (pds_for PassesOwn.never (pdi_enumA T.g_enumerate (pda_cons (pd_fld (i := 0) T.k_Company (dv 0)) pda_nil)) (pdg_tup (pdgs_cons (pdg_name (i := 3) sc.nd) (pdgs_cons (pdg_name (i := 4) sc.nd) pdgs_nil))) (pdss_one (pds_if (pdt (pd_meth (o_Company_may_write.mono (by decide)) T.k_Company hr (dv 0) (pda_cons (dv 1) (pda_cons (dv 3) pda_nil)))) (pdss_one (pds_for PassesOwn.never (pdi_items (pd_call (o_arrows_at.mono (by decide)) hr (pda_cons (dv 4) (pda_cons (pd_ix hr (pd_ix hr (dv 1) pd_int) (dv 3)) pda_nil)))) (pdg_tup (pdgs_cons (pdg_name (i := 5) sc.nd) (pdgs_cons (pdg_name (i := 6) sc.nd) pdgs_nil))) (pdss_one (pds_expr (pd_append (dv 2) (pd_tup (pda_cons (dv 5) (pda_cons (dv 3) (pda_cons (pd_meth (o_Company_behind.mono (by decide)) T.k_Company hr (dv 0) (pda_cons (dv 1) (pda_cons (dv 3) (pda_cons (dv 6) pda_nil)))) pda_nil))))))))) pdss_nil)))
    (pdss_one (pds_frz 2 (pds_ret (pd_lcM (own := [("sign", 5), ("spot", 3), ("later", 7)]) sc.nd (pdi_lst (pd_bltn (calld_sort hr) T.g_sorted (dv 2))) (blkOk_by (own := [("sign", 5), ("spot", 3), ("later", 7)]) (N := N_Company_steps) (sc := defScope s_Company_steps) (by decide +kernel)) (fun _ _ _ _ _ => (pdg_tup (pdgs_cons (pdg_name (i := 5) sc.nd) (pdgs_cons (pdg_name (i := 3) sc.nd) (pdgs_cons (pdg_name (i := 7) sc.nd) pdgs_nil))))) (fun _ _ _ _ _ => pdts_nil) (fun _ _ _ _ _ => (pd_tup (pda_cons (dv 5) (pda_cons (pd_ix hr (pd_ix hr (pd_fld (i := 0) T.k_Company (dv 0)) (dv 3)) pd_int) (pda_cons (dv 7) pda_nil)))))))))))) r_Company_steps
theorem ok_Scroll_company (T : Txt K mg) : MethOk P w K mg base (1) CScroll "company" 2 sp_Scroll_company :=
  have sc := sc_Scroll_company
  meth_ok (N := N_Scroll_company) (t := t_Scroll_company) T.d_Scroll_company sc (fun _ _ _ _ _ _ us hl => match us, hl with | [_, _], _ => rfl) (fun f cdv A outer s H E hr => (pdss_cons (pds_if (pdt_not (pdt_chain opd_le opd_le pd_int (dv 1) (pd_bltn calld_len T.g_len (pd_fld (i := 0) T.k_Scroll (dv 0))))) (pdss_one pds_never) pdss_nil)
    (pdss_one (pds_ret (pd_ix hr (pd_ix hr (pd_fld (i := 1) T.k_Scroll (dv 0)) (dv 1)) (pd_neg pd_int)))))) r_Scroll_company
theorem ok_Scroll_every (T : Txt K mg) (o_Company_steps : MethOk P w K mg base (5) CCompany "steps" 2 sp_Company_steps) (o_Scroll_company : MethOk P w K mg base (1) CScroll "company" 2 sp_Scroll_company) (o_Scroll_turned : MethOk P w K mg base (3) CScroll "turned" 3 sp_Scroll_turned) : MethOk P w K mg base (6) CScroll "every" 3 sp_Scroll_every :=
  have sc := sc_Scroll_every
  meth_ok (N := N_Scroll_every) (t := t_Scroll_every) T.d_Scroll_every sc (fun _ _ _ _ _ _ us hl => match us, hl with | [_, _, _], _ => rfl) (fun f cdv A outer s H E hr => (pdss_cons (pds_set (i := 3) sc.nd (pd_frz (pd_meth (o_Company_steps.mono (by decide)) T.k_Company hr (pd_meth (o_Scroll_company.mono (by decide)) T.k_Scroll hr (dv 0) (pda_cons (dv 1) pda_nil)) (pda_cons (dv 2) pda_nil))))
    (pdss_one (pds_ret (pd_lc (own := [("sign", 4), ("name", 5), ("later", 6)]) sc.nd (pdi_lst (dv 3)) (blkOk_by (own := [("sign", 4), ("name", 5), ("later", 6)]) (N := N_Scroll_every) (sc := defScope s_Scroll_every) (by decide +kernel)) (fun _ _ _ _ _ => (pdg_tup (pdgs_cons (pdg_name (i := 4) sc.nd) (pdgs_cons (pdg_name (i := 5) sc.nd) (pdgs_cons (pdg_name (i := 6) sc.nd) pdgs_nil))))) (fun _ _ _ _ _ => (pdts_one (pdt_cmp (opd_eq hr) (dv 4) (pd_ix hr (pd_fld (i := 0) T.k_Scroll (dv 0)) (dv 1))))) (fun _ _ _ _ _ => (pd_tup (pda_cons (dv 5) (pda_cons (pd_meth (o_Scroll_turned.mono (by decide)) T.k_Scroll hr (dv 0) (pda_cons (pd_op opd_add (dv 1) pd_int) (pda_cons (dv 6) pda_nil))) pda_nil))))))))) r_Scroll_every
theorem ok_Scroll_broken (T : Txt K mg) : MethOk P w K mg base (1) CScroll "broken" 3 sp_Scroll_broken :=
  have sc := sc_Scroll_broken
  meth_ok (N := N_Scroll_broken) (t := t_Scroll_broken) T.d_Scroll_broken sc (fun _ _ _ _ _ _ us hl => match us, hl with | [_, _, _], _ => rfl) (fun f cdv A outer s H E hr => (pdss_one (pds_ret (pd_bltn calld_len T.g_len (pd_lc (own := [("sign", 3), ("other", 4), ("so", 5)]) sc.nd (pdi_lst (pd_fld (i := 2) T.k_Scroll (dv 0))) (blkOk_by (own := [("sign", 3), ("other", 4), ("so", 5)]) (N := N_Scroll_broken) (sc := defScope s_Scroll_broken) (by decide +kernel)) (fun _ _ _ _ _ => (pdg_tup (pdgs_cons (pdg_name (i := 3) sc.nd) (pdgs_cons (pdg_name (i := 4) sc.nd) (pdgs_cons (pdg_name (i := 5) sc.nd) pdgs_nil))))) (fun _ _ _ _ _ => (pdts_one (PW.pt (pdw_and (pdt_cmp (opd_eq hr) (dv 3) (dv 1)) (pdw_and1 (pdt_cmp (opd_ne hr) (pd_cmp (opd_eq hr) (dv 4) (dv 2)) (dv 5))))))) (fun _ _ _ _ _ => (dv 5))))))) r_Scroll_broken
theorem ok_Scroll_onward (T : Txt K mg) (o_Scroll_every : MethOk P w K mg base (6) CScroll "every" 3 sp_Scroll_every) (o_Scroll_broken : MethOk P w K mg base (1) CScroll "broken" 3 sp_Scroll_broken) : MethOk P w K mg base (7) CScroll "onward" 3 sp_Scroll_onward :=
  have sc := sc_Scroll_onward
  meth_ok (N := N_Scroll_onward) (t := t_Scroll_onward) T.d_Scroll_onward sc (fun _ _ _ _ _ _ us hl => match us, hl with | [_, _, _], _ => rfl) (fun f cdv A outer s H E hr => (pdss_one (pds_ret (pd_lc (own := [("name", 3), ("later", 4)]) sc.nd (pdi_lst (pd_meth (o_Scroll_every.mono (by decide)) T.k_Scroll hr (dv 0) (pda_cons (dv 1) (pda_cons (dv 2) pda_nil)))) (blkOk_by (own := [("name", 3), ("later", 4)]) (N := N_Scroll_onward) (sc := defScope s_Scroll_onward) (by decide +kernel)) (fun _ _ _ _ _ => (pdg_tup (pdgs_cons (pdg_name (i := 3) sc.nd) (pdgs_cons (pdg_name (i := 4) sc.nd) pdgs_nil)))) (fun _ _ _ _ _ => (pdts_one (pdt_cmp (opd_eq hr) (pd_meth (o_Scroll_broken.mono (by decide)) T.k_Scroll hr (dv 0) (pda_cons (dv 1) (pda_cons (dv 3) pda_nil))) pd_int))) (fun _ _ _ _ _ => (pd_tup (pda_cons (dv 3) (pda_cons (dv 4) pda_nil)))))))) r_Scroll_onward
theorem ok_Scroll_later_lot (T : Txt K mg) (o_Scroll_onward : MethOk P w K mg base (7) CScroll "onward" 3 sp_Scroll_onward) : MethOk P w K mg base (8) CScroll "later_lot" 3 sp_Scroll_later_lot :=
  have sc := sc_Scroll_later_lot
  meth_ok (N := N_Scroll_later_lot) (t := t_Scroll_later_lot) T.d_Scroll_later_lot sc (fun _ _ _ _ _ _ us hl => match us, hl with | [_, _, _], _ => rfl) (fun f cdv A outer s H E hr => (pdss_one (pds_ret (pd_peekO 2 (pd_sortsetM2 (own := [("stand", 3), ("name", 4), ("later", 5)]) (vs1 := [4, 5]) hr T.g_sorted sc.nd (pdi_lst (dv 2)) (blkOk_by (own := [("stand", 3), ("name", 4), ("later", 5)]) (N := N_Scroll_later_lot) (sc := defScope s_Scroll_later_lot) (by decide +kernel)) (fun _ _ _ _ _ => (pdg_name (i := 3) sc.nd)) (fun _ _ _ _ _ => pdts_nil) (fun _ _ _ _ _ => (pdi_lst (pd_meth (o_Scroll_onward.mono (by decide)) T.k_Scroll hr (dv 0) (pda_cons (dv 1) (pda_cons (dv 3) pda_nil))))) (fun _ _ _ _ _ => (pdg_tup (pdgs_cons (pdg_name (i := 4) sc.nd) (pdgs_cons (pdg_name (i := 5) sc.nd) pdgs_nil)))) (fun _ _ _ _ _ => pdts_nil) (fun _ _ _ _ _ => (dv 5))))))) r_Scroll_later_lot
theorem ok_Scroll_forth (T : Txt K mg) (o_Scroll_first : MethOk P w K mg base (4) CScroll "first" 1 sp_Scroll_first) (o_Scroll_later_lot : MethOk P w K mg base (8) CScroll "later_lot" 3 sp_Scroll_later_lot) : MethOk P w K mg base (9) CScroll "forth" 1 sp_Scroll_forth :=
  have sc := sc_Scroll_forth
  meth_ok (N := N_Scroll_forth) (t := t_Scroll_forth) T.d_Scroll_forth sc (fun _ _ _ _ _ _ us hl => match us, hl with | [_], _ => rfl) (fun f cdv A outer s H E hr => (pdss_cons (pds_set (i := 1) sc.nd (pd_lstM (pda_cons (pd_lstM (pda_cons (pd_meth0 (o_Scroll_first.mono (by decide)) T.k_Scroll hr (dv 0)) pda_nil)) pda_nil)))
    (pdss_cons (pds_for PassesOwn.never (pdi_range1 T.g_range (pda_cons (pd_bltn calld_len T.g_len (pd_fld (i := 0) T.k_Scroll (dv 0))) pda_nil)) (pdg_name (i := 2) sc.nd) (pdss_one (pds_expr (pd_append (dv 1) (pd_meth (o_Scroll_later_lot.mono (by decide)) T.k_Scroll hr (dv 0) (pda_cons (dv 2) (pda_cons (pd_ix hr (dv 1) (pd_neg pd_int)) pda_nil)))))))
    (pdss_one (pds_ret (dv 1)))))) r_Scroll_forth
theorem ok_Scroll_live (T : Txt K mg) (o_Scroll_forth : MethOk P w K mg base (9) CScroll "forth" 1 sp_Scroll_forth) (o_Scroll_onward : MethOk P w K mg base (7) CScroll "onward" 3 sp_Scroll_onward) : MethOk P w K mg base (10) CScroll "live" 1 sp_Scroll_live :=
  have sc := sc_Scroll_live
  meth_ok (N := N_Scroll_live) (t := t_Scroll_live) T.d_Scroll_live sc (fun _ _ _ _ _ _ us hl => match us, hl with | [_], _ => rfl) (fun f cdv A outer s H E hr => (pdss_cons (pds_set (i := 1) sc.nd (pd_deep (pd_meth0 (o_Scroll_forth.mono (by decide)) T.k_Scroll hr (dv 0))))
    (pdss_cons (pds_set (i := 2) sc.nd (pd_lstM (pda_cons (pd_type calld_listM T.g_list (pd_ix hr (dv 1) (pd_neg pd_int))) pda_nil)))
    (pdss_cons (pds_for PassesOwn.never (pdi_rangeD T.g_range (pda_cons (pd_op opd_subI (pd_bltn calld_len T.g_len (pd_fld (i := 0) T.k_Scroll (dv 0))) pd_int) (pda_cons (pd_neg pd_int) (pda_cons (pd_neg pd_int) pda_nil)))) (pdg_name (i := 3) sc.nd) (pdss_cons (pds_set (i := 4) sc.nd (pd_ix hr (dv 2) (pd_neg pd_int)))
    (pdss_one (pds_expr (pd_append (dv 2) (pd_lc (own := [("stand", 5)]) sc.nd (pdi_lst (pd_ix hr (dv 1) (dv 3))) (blkOk_by (own := [("stand", 5)]) (N := N_Scroll_live) (sc := defScope s_Scroll_live) (by decide +kernel)) (fun _ _ _ _ _ => (pdg_name (i := 5) sc.nd)) (fun _ _ _ _ _ => (pdts_one (pdt (pd_bltn calld_any T.g_any (pd_lc (own := [("name", 6), ("later", 7)]) sc.nd (pdi_lst (pd_meth (o_Scroll_onward.mono (by decide)) T.k_Scroll hr (dv 0) (pda_cons (dv 3) (pda_cons (dv 5) pda_nil)))) (blkOk_by (own := [("name", 6), ("later", 7)]) (N := N_Scroll_live) (by kernel_rfl)) (fun _ _ _ _ _ => (pdg_tup (pdgs_cons (pdg_name (i := 6) sc.nd) (pdgs_cons (pdg_name (i := 7) sc.nd) pdgs_nil)))) (fun _ _ _ _ _ => pdts_nil) (fun _ _ _ _ _ => (pd_cmp (opd_in hr) (dv 7) (dv 4)))))))) (fun _ _ _ _ _ => (dv 5))))))))
    (pdss_one (pds_frz 2 (pds_ret (pd_revLM (dv 2))))))))) r_Scroll_live
theorem ok_law_like {n : Nat} (T : Txt K mg) (o_law_like : DefOk P w K mg base (0 + n) "_law_like" 2 (sp_law_like n)) : DefOk P w K mg base (0 + n + 1) "_law_like" 2 (sp_law_like (n + 1)) :=
  have sc := sc_law_like
  def_ok (N := N_law_like) (t := t_law_like n) T.d_law_like sc (fun _ _ _ _ _ _ us hl => match us, hl with | [_, _], _ => rfl) (fun f cdv A outer s H E hr => (pdss_cons (pds_if (pdt (pd_isi2 .list .tuple T.g_isinstance (dv 1) T.g_list T.g_tuple)) (pdss_cons (pds_if (PW.pt (pdw_or (pdt_cmp (opd_ne hr) (pd_isi .list T.g_isinstance (dv 0) T.g_list) (pd_isi .list T.g_isinstance (dv 1) T.g_list)) (pdw_or1 (pdt_cmp (opd_ne hr) (pd_isi .tuple T.g_isinstance (dv 0) T.g_tuple) (pd_isi .tuple T.g_isinstance (dv 1) T.g_tuple))))) (pdss_one (pds_ret pd_bl)) pdss_nil)
    (pdss_one (pds_ret (pd_and (pd_cmp (opd_eq hr) (pd_bltn calld_len T.g_len (dv 0)) (pd_bltn calld_len T.g_len (dv 1))) (pd_one (pd_bltn calld_all T.g_all (pd_lc (own := [("_law_one", 2), ("_law_other", 3)]) sc.nd (pdi_zip T.g_zip (pda_cons (dv 0) (pda_cons (dv 1) pda_nil))) (blkOk_by (own := [("_law_one", 2), ("_law_other", 3)]) (N := N_law_like) (sc := defScope s_law_like) (by decide +kernel)) (fun _ _ _ _ _ => (pdg_tup (pdgs_cons (pdg_name (i := 2) sc.nd) (pdgs_cons (pdg_name (i := 3) sc.nd) pdgs_nil)))) (fun _ _ _ _ _ => pdts_nil) (fun _ _ _ _ _ => (pd_call o_law_like hr (pda_cons (dv 2) (pda_cons (dv 3) pda_nil))))))))))) pdss_nil)
    (pdss_cons (pds_if (PW.pt (pdw_or (pdt_cmp opd_is (dv 0) pd_non) (pdw_or1 (pdt_cmp opd_is (dv 1) pd_non)))) (pdss_one (pds_ret (pd_and (pd_cmp opd_is (dv 0) pd_non) (pd_one (pd_cmp opd_is (dv 1) pd_non))))) pdss_nil)
    (pdss_cons (pds_if (PW.pt (pdw_or (pdt_cmp (opd_ne hr) (pd_isi .bool T.g_isinstance (dv 0) T.g_bool) (pd_isi .bool T.g_isinstance (dv 1) T.g_bool)) (pdw_or1 (pdt_cmp (opd_ne hr) (pd_isi .int T.g_isinstance (dv 0) T.g_int) (pd_isi .int T.g_isinstance (dv 1) T.g_int))))) (pdss_one (pds_ret pd_bl)) pdss_nil)
    (pdss_one (pds_ret (pd_and (pd_cmp (opd_eq hr) (pd_isi .str T.g_isinstance (dv 0) T.g_str) (pd_isi .str T.g_isinstance (dv 1) T.g_str)) (pd_one (pd_cmp (opd_eq hr) (dv 0) (dv 1)))))))))) (r_law_like n)
theorem oks_law_like (T : Txt K mg) : ∀ n, DefOk P w K mg base (0 + n) "_law_like" 2 (sp_law_like n)
  | 0 => def_void (ps := ["_law_found", "_law_due"]) T.d_law_like (fun _ _ _ _ _ _ us hl => match us, hl with | [_, _], _ => rfl) z_law_like
  | n + 1 => ok_law_like T (oks_law_like T n)
theorem fn_law {f : Addr} {fd : FuncData} (F : FunD K "law" "law" (defArgs s_law) (defBody s_law) (defScope s_law) [] [] f fd) (T : Txt K mg) (o_law_bag : DefOk P w K mg base (1) "_law_bag" 1 sp_law_bag) (o_law_scroll_drawn : DefOk P w K mg base (6) "_law_scroll_drawn" 4 sp_law_scroll_drawn) (o_law_of : DefOk P w K mg base (2) "_law_of" 2 sp_law_of) (o_law_made : DefOk P w K mg base (11) "_law_made" 1 sp_law_made) (o_law_live : DefOk P w K mg base (7) "_law_live" 1 sp_law_live) (o_Scroll_live : MethOk P w K mg base (10) CScroll "live" 1 sp_Scroll_live) (o_law_like : DefOk P w K mg base (8) "_law_like" 2 (sp_law_like 8)) : FnOk P w K mg base CX0 (12) f fd ["_law_script"] (upSp K 1 sp_law) :=
  have sc := sc_law
  def_fn (N := N_law) (t := t_law) F sc (fun f cdv A outer s H E hr => (pdss_cons (pds_set (i := 1) sc.nd (pd_call (o_law_bag.mono (by decide)) hr (pda_cons (dv 0) pda_nil)))
    (pdss_cons (pds_for PassesOwn.never (pdi_range1 T.g_range (pda_cons pd_int pda_nil)) (pdg_name (i := 2) sc.nd) (pdss_cons (pds_set (i := 3) sc.nd (pd_call (o_law_scroll_drawn.mono (by decide)) hr (pda_cons (dv 1) (pda_cons pd_int (pda_cons pd_int (pda_cons (pd_call (o_law_of.mono (by decide)) hr (pda_cons (dv 1) (pda_cons (pd_lst (pda_cons pd_int (pda_cons pd_int (pda_cons pd_int pda_nil)))) pda_nil))) pda_nil))))))
    (pdss_cons (pds_par (i := 5) (j := 6) sc.nd (pda_cons (pd_deep (pd_call (o_law_made.mono (by decide)) hr (pda_cons (dv 3) pda_nil))) (pda_cons (pd_call (o_law_live.mono (by decide)) hr (pda_cons (pd_ix hr (dv 3) pd_int) pda_nil)) pda_nil)))
    (pdss_cons (pds_for PassesOwn.never (pdi_range1 T.g_range (pda_cons pd_int pda_nil)) (pdg_name (i := 4) sc.nd) (pdss_cons (pds_set (i := 7) sc.nd (pd_meth0 (o_Scroll_live.mono (by decide)) T.k_Scroll hr (dv 5)))
    (pdss_cons (pds_if (pdt_not (pdt (pd_peekD 7 (pd_call (o_law_like.mono (by decide)) hr (pda_cons (dv 7) (pda_cons (dv 6) pda_nil)))))) (pdss_one (pds_ret pd_bl)) pdss_nil)
    (pdss_cons (pds_expr (pd_append (pd_ix hr (dv 7) (pd_neg pd_int)) pd_int))
    (pdss_one (pds_expr (pd_reverse (dv 7))))))))
    (pdss_one (pds_if (PW.pt (pdw_and (pdt_cmp (opd_eq hr) (pd_ix hr (dv 6) (pd_neg pd_int)) (pd_lst pda_nil)) (pdw_and1 (pdt_not (pdt (pd_bltn calld_all T.g_all (pd_lc (own := [("_law_lot", 8)]) sc.nd (pdi_lst (pd_deep (pd_meth0 (o_Scroll_live.mono (by decide)) T.k_Scroll hr (dv 5)))) (blkOk_by (own := [("_law_lot", 8)]) (N := N_law) (sc := defScope s_law) (by decide +kernel)) (fun _ _ _ _ _ => (pdg_name (i := 8) sc.nd)) (fun _ _ _ _ _ => pdts_nil) (fun _ _ _ _ _ => (pd_cmp (opd_eq hr) (dv 8) (pd_lst pda_nil)))))))))) (pdss_one (pds_ret pd_bl)) pdss_nil))))))
    (pdss_one (pds_ret pd_bl))))) r_law
end
/-! head -/
def dd_law_bag : He.DefD := ⟨("_law_bag", none), "_law_bag", "_law_bag", defArgs s_law_bag, defBody s_law_bag, defScope s_law_bag, [], []⟩
def dd_law_pull : He.DefD := ⟨("_law_pull", none), "_law_pull", "_law_pull", defArgs s_law_pull, defBody s_law_pull, defScope s_law_pull, [], []⟩
def dd_law_of : He.DefD := ⟨("_law_of", none), "_law_of", "_law_of", defArgs s_law_of, defBody s_law_of, defScope s_law_of, [], []⟩
def dd_law_letters : He.DefD := ⟨("_law_letters", none), "_law_letters", "_law_letters", defArgs s_law_letters, defBody s_law_letters, defScope s_law_letters, [], []⟩
def dd_law_signs : He.DefD := ⟨("_law_signs", none), "_law_signs", "_law_signs", defArgs s_law_signs, defBody s_law_signs, defScope s_law_signs, [], []⟩
def dd_law_names : He.DefD := ⟨("_law_names", none), "_law_names", "_law_names", defArgs s_law_names, defBody s_law_names, defScope s_law_names, [], []⟩
def dd_law_writer : He.DefD := ⟨("_law_writer", none), "_law_writer", "_law_writer", defArgs s_law_writer, defBody s_law_writer, defScope s_law_writer, [], []⟩
def dd_law_company : He.DefD := ⟨("_law_company", none), "_law_company", "_law_company", defArgs s_law_company, defBody s_law_company, defScope s_law_company, [], []⟩
def dd_law_begin : He.DefD := ⟨("_law_begin", none), "_law_begin", "_law_begin", defArgs s_law_begin, defBody s_law_begin, defScope s_law_begin, [], []⟩
def dd_law_arrows : He.DefD := ⟨("_law_arrows", none), "_law_arrows", "_law_arrows", defArgs s_law_arrows, defBody s_law_arrows, defScope s_law_arrows, [], []⟩
def dd_law_waits_count : He.DefD := ⟨("_law_waits_count", none), "_law_waits_count", "_law_waits_count", defArgs s_law_waits_count, defBody s_law_waits_count, defScope s_law_waits_count, [], []⟩
def dd_law_can : He.DefD := ⟨("_law_can", none), "_law_can", "_law_can", defArgs s_law_can, defBody s_law_can, defScope s_law_can, [], []⟩
def dd_law_after : He.DefD := ⟨("_law_after", none), "_law_after", "_law_after", defArgs s_law_after, defBody s_law_after, defScope s_law_after, [], []⟩
def dd_law_steps : He.DefD := ⟨("_law_steps", none), "_law_steps", "_law_steps", defArgs s_law_steps, defBody s_law_steps, defScope s_law_steps, [], []⟩
def dd_law_fresh : He.DefD := ⟨("_law_fresh", none), "_law_fresh", "_law_fresh", defArgs s_law_fresh, defBody s_law_fresh, defScope s_law_fresh, [], []⟩
def dd_law_other_crew : He.DefD := ⟨("_law_other_crew", none), "_law_other_crew", "_law_other_crew", defArgs s_law_other_crew, defBody s_law_other_crew, defScope s_law_other_crew, [], []⟩
def dd_law_carried : He.DefD := ⟨("_law_carried", none), "_law_carried", "_law_carried", defArgs s_law_carried, defBody s_law_carried, defScope s_law_carried, [], []⟩
def dd_law_steps_drawn : He.DefD := ⟨("_law_steps_drawn", none), "_law_steps_drawn", "_law_steps_drawn", defArgs s_law_steps_drawn, defBody s_law_steps_drawn, defScope s_law_steps_drawn, [], []⟩
def dd_law_parts : He.DefD := ⟨("_law_parts", none), "_law_parts", "_law_parts", defArgs s_law_parts, defBody s_law_parts, defScope s_law_parts, [], []⟩
def dd_law_said_drawn : He.DefD := ⟨("_law_said_drawn", none), "_law_said_drawn", "_law_said_drawn", defArgs s_law_said_drawn, defBody s_law_said_drawn, defScope s_law_said_drawn, [], []⟩
def dd_law_scroll_drawn : He.DefD := ⟨("_law_scroll_drawn", none), "_law_scroll_drawn", "_law_scroll_drawn", defArgs s_law_scroll_drawn, defBody s_law_scroll_drawn, defScope s_law_scroll_drawn, [], []⟩
def dd_is_name : He.DefD := ⟨("is_name", none), "is_name", "is_name", defArgs s_is_name, defBody s_is_name, defScope s_is_name, [], []⟩
def dd_is_sign : He.DefD := ⟨("is_sign", none), "is_sign", "is_sign", defArgs s_is_sign, defBody s_is_sign, defScope s_is_sign, [], []⟩
def dd_is_arrow : He.DefD := ⟨("is_arrow", none), "is_arrow", "is_arrow", defArgs s_is_arrow, defBody s_is_arrow, defScope s_is_arrow, [], []⟩
def dd_is_writer : He.DefD := ⟨("is_writer", none), "is_writer", "is_writer", defArgs s_is_writer, defBody s_is_writer, defScope s_is_writer, [], []⟩
def dd_need_writers : He.DefD := ⟨("need_writers", none), "need_writers", "need_writers", defArgs s_need_writers, defBody s_need_writers, defScope s_need_writers, [], []⟩
def dd_Company___init__ : He.DefD := ⟨("Company", some "__init__"), "__init__", "Company.__init__", defArgs s_Company___init__, defBody s_Company___init__, defScope s_Company___init__, [.adr (He.dflAt ("Company", some "__init__") 0)], []⟩
def dd_company_in : He.DefD := ⟨("company_in", none), "company_in", "company_in", defArgs s_company_in, defBody s_company_in, defScope s_company_in, [], []⟩
def dd_Scroll_add_step : He.DefD := ⟨("Scroll", some "add_step"), "add_step", "Scroll.add_step", defArgs s_Scroll_add_step, defBody s_Scroll_add_step, defScope s_Scroll_add_step, [], []⟩
def dd_Scroll___init__ : He.DefD := ⟨("Scroll", some "__init__"), "__init__", "Scroll.__init__", defArgs s_Scroll___init__, defBody s_Scroll___init__, defScope s_Scroll___init__, [], [("steps", .adr (kwdAt ("Scroll", some "__init__") "steps")), ("said", .adr (kwdAt ("Scroll", some "__init__") "said"))]⟩
def dd_law_made : He.DefD := ⟨("_law_made", none), "_law_made", "_law_made", defArgs s_law_made, defBody s_law_made, defScope s_law_made, [], []⟩
def dd_law_turned : He.DefD := ⟨("_law_turned", none), "_law_turned", "_law_turned", defArgs s_law_turned, defBody s_law_turned, defScope s_law_turned, [], []⟩
def dd_law_first : He.DefD := ⟨("_law_first", none), "_law_first", "_law_first", defArgs s_law_first, defBody s_law_first, defScope s_law_first, [], []⟩
def dd_law_broken : He.DefD := ⟨("_law_broken", none), "_law_broken", "_law_broken", defArgs s_law_broken, defBody s_law_broken, defScope s_law_broken, [], []⟩
def dd_law_onward : He.DefD := ⟨("_law_onward", none), "_law_onward", "_law_onward", defArgs s_law_onward, defBody s_law_onward, defScope s_law_onward, [], []⟩
def dd_law_forth : He.DefD := ⟨("_law_forth", none), "_law_forth", "_law_forth", defArgs s_law_forth, defBody s_law_forth, defScope s_law_forth, [], []⟩
def dd_law_live : He.DefD := ⟨("_law_live", none), "_law_live", "_law_live", defArgs s_law_live, defBody s_law_live, defScope s_law_live, [], []⟩
def dd_Company_writers : He.DefD := ⟨("Company", some "writers"), "writers", "Company.writers", defArgs s_Company_writers, defBody s_Company_writers, defScope s_Company_writers, [], []⟩
def dd_carried : He.DefD := ⟨("carried", none), "carried", "carried", defArgs s_carried, defBody s_carried, defScope s_carried, [], []⟩
def dd_Scroll_turned : He.DefD := ⟨("Scroll", some "turned"), "turned", "Scroll.turned", defArgs s_Scroll_turned, defBody s_Scroll_turned, defScope s_Scroll_turned, [], []⟩
def dd_Company_begin : He.DefD := ⟨("Company", some "begin"), "begin", "Company.begin", defArgs s_Company_begin, defBody s_Company_begin, defScope s_Company_begin, [], []⟩
def dd_Scroll_first : He.DefD := ⟨("Scroll", some "first"), "first", "Scroll.first", defArgs s_Scroll_first, defBody s_Scroll_first, defScope s_Scroll_first, [], []⟩
def dd_arrows_at : He.DefD := ⟨("arrows_at", none), "arrows_at", "arrows_at", defArgs s_arrows_at, defBody s_arrows_at, defScope s_arrows_at, [], []⟩
def dd_is_done : He.DefD := ⟨("is_done", none), "is_done", "is_done", defArgs s_is_done, defBody s_is_done, defScope s_is_done, [], []⟩
def dd_Company_counts : He.DefD := ⟨("Company", some "counts"), "counts", "Company.counts", defArgs s_Company_counts, defBody s_Company_counts, defScope s_Company_counts, [], []⟩
def dd_Company_may_write : He.DefD := ⟨("Company", some "may_write"), "may_write", "Company.may_write", defArgs s_Company_may_write, defBody s_Company_may_write, defScope s_Company_may_write, [], []⟩
def dd_Company_behind : He.DefD := ⟨("Company", some "behind"), "behind", "Company.behind", defArgs s_Company_behind, defBody s_Company_behind, defScope s_Company_behind, [], []⟩
def dd_Company_steps : He.DefD := ⟨("Company", some "steps"), "steps", "Company.steps", defArgs s_Company_steps, defBody s_Company_steps, defScope s_Company_steps, [], []⟩
def dd_Scroll_company : He.DefD := ⟨("Scroll", some "company"), "company", "Scroll.company", defArgs s_Scroll_company, defBody s_Scroll_company, defScope s_Scroll_company, [], []⟩
def dd_Scroll_every : He.DefD := ⟨("Scroll", some "every"), "every", "Scroll.every", defArgs s_Scroll_every, defBody s_Scroll_every, defScope s_Scroll_every, [], []⟩
def dd_Scroll_broken : He.DefD := ⟨("Scroll", some "broken"), "broken", "Scroll.broken", defArgs s_Scroll_broken, defBody s_Scroll_broken, defScope s_Scroll_broken, [], []⟩
def dd_Scroll_onward : He.DefD := ⟨("Scroll", some "onward"), "onward", "Scroll.onward", defArgs s_Scroll_onward, defBody s_Scroll_onward, defScope s_Scroll_onward, [], []⟩
def dd_Scroll_later_lot : He.DefD := ⟨("Scroll", some "later_lot"), "later_lot", "Scroll.later_lot", defArgs s_Scroll_later_lot, defBody s_Scroll_later_lot, defScope s_Scroll_later_lot, [], []⟩
def dd_Scroll_forth : He.DefD := ⟨("Scroll", some "forth"), "forth", "Scroll.forth", defArgs s_Scroll_forth, defBody s_Scroll_forth, defScope s_Scroll_forth, [], []⟩
def dd_Scroll_live : He.DefD := ⟨("Scroll", some "live"), "live", "Scroll.live", defArgs s_Scroll_live, defBody s_Scroll_live, defScope s_Scroll_live, [], []⟩
def dd_law_like : He.DefD := ⟨("_law_like", none), "_law_like", "_law_like", defArgs s_law_like, defBody s_law_like, defScope s_law_like, [], []⟩
def dd_law : He.DefD := ⟨("law", none), "law", "law", defArgs s_law, defBody s_law, defScope s_law, [], []⟩
def fnl : List He.DefD := [dd_law_bag, dd_law_pull, dd_law_of, dd_law_letters, dd_law_signs, dd_law_names, dd_law_writer, dd_law_company, dd_law_begin, dd_law_arrows, dd_law_waits_count, dd_law_can, dd_law_after, dd_law_steps, dd_law_fresh, dd_law_other_crew, dd_law_carried, dd_law_steps_drawn, dd_law_parts, dd_law_said_drawn, dd_law_scroll_drawn, dd_is_name, dd_is_sign, dd_is_arrow, dd_is_writer, dd_need_writers, dd_Company___init__, dd_company_in, dd_Scroll_add_step, dd_Scroll___init__, dd_law_made, dd_law_turned, dd_law_first, dd_law_broken, dd_law_onward, dd_law_forth, dd_law_live, dd_Company_writers, dd_carried, dd_Scroll_turned, dd_Company_begin, dd_Scroll_first, dd_arrows_at, dd_is_done, dd_Company_counts, dd_Company_may_write, dd_Company_behind, dd_Company_steps, dd_Scroll_company, dd_Scroll_every, dd_Scroll_broken, dd_Scroll_onward, dd_Scroll_later_lot, dd_Scroll_forth, dd_Scroll_live, dd_law_like, dd_law]
def fb0 : PySem.W.Frag → Bool := tupAt (He.dflAt ("Company", some "__init__") 0) []
def fb1 : PySem.W.Frag → Bool := tupAt (kwdAt ("Scroll", some "__init__") "steps") []
def fb2 : PySem.W.Frag → Bool := tupAt (kwdAt ("Scroll", some "__init__") "said") []
def fb3 : PySem.W.Frag → Bool := tupAt (fun K => He.ga K "NOBODY") [.int (-1), .int 0]
def fbl : List (PySem.W.Frag → Bool) := [fb0, fb1, fb2, fb3]
def fal : List He.Fa := [.glo "_law_bag", .glo "_law_pull", .glo "_law_of", .glo "_law_letters", .glo "_law_signs", .glo "_law_names", .glo "_law_writer", .glo "_law_company", .glo "_law_begin", .glo "_law_arrows", .glo "_law_waits_count", .glo "_law_can", .glo "_law_after", .glo "_law_steps", .glo "_law_fresh", .glo "_law_other_crew", .glo "_law_carried", .glo "_law_steps_drawn", .glo "_law_parts", .glo "_law_said_drawn", .glo "_law_scroll_drawn", .glo "is_name", .glo "is_sign", .glo "is_arrow", .glo "is_writer", .glo "need_writers", .mkr "Company", .glo "company_in", .meth "Scroll" "add_step", .mkr "Scroll", .glo "_law_made", .glo "_law_turned", .glo "_law_first", .glo "_law_broken", .glo "_law_onward", .glo "_law_forth", .glo "_law_live", .meth "Company" "writers", .glo "carried", .meth "Scroll" "turned", .meth "Company" "begin", .meth "Scroll" "first", .glo "arrows_at", .glo "is_done", .meth "Company" "counts", .meth "Company" "may_write", .meth "Company" "behind", .meth "Company" "steps", .meth "Scroll" "company", .meth "Scroll" "every", .meth "Scroll" "broken", .meth "Scroll" "onward", .meth "Scroll" "later_lot", .meth "Scroll" "forth", .meth "Scroll" "live", .glo "_law_like", .glo "law", .glo "Company", .cls "Company", .noat "Company" "crew", .glo "Scroll", .cls "Scroll", .noat "Scroll" "row", .noat "Scroll" "crews", .noat "Scroll" "words", .str "LETTERS" "abcdefghijklmnopqrstuvwxyz", .int "LONGEST" 6, .int "MOST_ARROWS" 9, .int "MOST_COUNT" 3, .int "MOST_PLACE" 2, .int "MOST_WRITERS" 3, .glo "NOBODY", .free "all", .free "any", .free "bool", .free "dict", .free "enumerate", .free "int", .free "isinstance", .free "len", .free "list", .free "max", .free "range", .free "set", .free "sorted", .free "str", .free "tuple", .free "zip"]
abbrev Rw : PySem.W.OpenRow := PySem.W.OpenLaw.row PySem.Challenge.rw_whoseink_k16_live_lots
abbrev hk : PySem.W.Hook := hookP 6 fbl fal fnl
theorem txt {K : PySem.W.Frag} {h : Heap} {mg : Str → Option Value} (X : K.In h) (G : h.Ns mainGlobals mg) (c : SaysX fbl fal fnl K) : Txt K mg where
  c_LETTERS := He.str_ok X G (c.d.fact 65 (f := .str "LETTERS" "abcdefghijklmnopqrstuvwxyz") rfl)
  c_LONGEST := He.int_ok X G (c.d.fact 66 (f := .int "LONGEST" 6) rfl)
  c_MOST_ARROWS := He.int_ok X G (c.d.fact 67 (f := .int "MOST_ARROWS" 9) rfl)
  c_MOST_COUNT := He.int_ok X G (c.d.fact 68 (f := .int "MOST_COUNT" 3) rfl)
  c_MOST_PLACE := He.int_ok X G (c.d.fact 69 (f := .int "MOST_PLACE" 2) rfl)
  c_MOST_WRITERS := He.int_ok X G (c.d.fact 70 (f := .int "MOST_WRITERS" 3) rfl)
  c_NOBODY := ⟨He.glo_ok X G (c.d.fact 71 (f := .glo "NOBODY") rfl), fun F => ⟨_, _, rfl, tupAt_ok (show tupAt (fun K => He.ga K "NOBODY") [.int (-1), .int 0] K = true from c.b 3 (f := fb3) rfl) F, ⟨_, _, rfl, rfl, ⟨_, _, rfl, rfl, rfl⟩⟩⟩⟩
  g_all := He.free_ok X G (c.d.fact 72 (f := .free "all") rfl)
  g_any := He.free_ok X G (c.d.fact 73 (f := .free "any") rfl)
  g_bool := He.free_ok X G (c.d.fact 74 (f := .free "bool") rfl)
  g_dict := He.free_ok X G (c.d.fact 75 (f := .free "dict") rfl)
  g_enumerate := He.free_ok X G (c.d.fact 76 (f := .free "enumerate") rfl)
  g_int := He.free_ok X G (c.d.fact 77 (f := .free "int") rfl)
  g_isinstance := He.free_ok X G (c.d.fact 78 (f := .free "isinstance") rfl)
  g_len := He.free_ok X G (c.d.fact 79 (f := .free "len") rfl)
  g_list := He.free_ok X G (c.d.fact 80 (f := .free "list") rfl)
  g_max := He.free_ok X G (c.d.fact 81 (f := .free "max") rfl)
  g_range := He.free_ok X G (c.d.fact 82 (f := .free "range") rfl)
  g_set := He.free_ok X G (c.d.fact 83 (f := .free "set") rfl)
  g_sorted := He.free_ok X G (c.d.fact 84 (f := .free "sorted") rfl)
  g_str := He.free_ok X G (c.d.fact 85 (f := .free "str") rfl)
  g_tuple := He.free_ok X G (c.d.fact 86 (f := .free "tuple") rfl)
  g_zip := He.free_ok X G (c.d.fact 87 (f := .free "zip") rfl)
  k_Company := ⟨He.cls_ok (c.d.fact 58 (f := .cls "Company") rfl), fun f hf => by
    simp only [CCompany, List.mem_cons, List.not_mem_nil, or_false] at hf
    rcases hf with rfl
    · exact He.noat_ok (c.d.fact 59 (f := .noat "Company" "crew") rfl), by decide +kernel, by decide⟩
  k_Scroll := ⟨He.cls_ok (c.d.fact 61 (f := .cls "Scroll") rfl), fun f hf => by
    simp only [CScroll, List.mem_cons, List.not_mem_nil, or_false] at hf
    rcases hf with rfl | rfl | rfl
    · exact He.noat_ok (c.d.fact 62 (f := .noat "Scroll" "row") rfl)
    · exact He.noat_ok (c.d.fact 63 (f := .noat "Scroll" "crews") rfl)
    · exact He.noat_ok (c.d.fact 64 (f := .noat "Scroll" "words") rfl), by decide +kernel, by decide⟩
  d_law_bag := ⟨_, (c.d.def_ 0 (d := dd_law_bag) rfl).choose, (c.d.def_ 0 (d := dd_law_bag) rfl).choose_spec, He.glo_ok X G (c.d.fact 0 (f := .glo "_law_bag") rfl)⟩
  d_law_pull := ⟨_, (c.d.def_ 1 (d := dd_law_pull) rfl).choose, (c.d.def_ 1 (d := dd_law_pull) rfl).choose_spec, He.glo_ok X G (c.d.fact 1 (f := .glo "_law_pull") rfl)⟩
  d_law_of := ⟨_, (c.d.def_ 2 (d := dd_law_of) rfl).choose, (c.d.def_ 2 (d := dd_law_of) rfl).choose_spec, He.glo_ok X G (c.d.fact 2 (f := .glo "_law_of") rfl)⟩
  d_law_letters := ⟨_, (c.d.def_ 3 (d := dd_law_letters) rfl).choose, (c.d.def_ 3 (d := dd_law_letters) rfl).choose_spec, He.glo_ok X G (c.d.fact 3 (f := .glo "_law_letters") rfl)⟩
  d_law_signs := ⟨_, (c.d.def_ 4 (d := dd_law_signs) rfl).choose, (c.d.def_ 4 (d := dd_law_signs) rfl).choose_spec, He.glo_ok X G (c.d.fact 4 (f := .glo "_law_signs") rfl)⟩
  d_law_names := ⟨_, (c.d.def_ 5 (d := dd_law_names) rfl).choose, (c.d.def_ 5 (d := dd_law_names) rfl).choose_spec, He.glo_ok X G (c.d.fact 5 (f := .glo "_law_names") rfl)⟩
  d_law_writer := ⟨_, (c.d.def_ 6 (d := dd_law_writer) rfl).choose, (c.d.def_ 6 (d := dd_law_writer) rfl).choose_spec, He.glo_ok X G (c.d.fact 6 (f := .glo "_law_writer") rfl)⟩
  d_law_company := ⟨_, (c.d.def_ 7 (d := dd_law_company) rfl).choose, (c.d.def_ 7 (d := dd_law_company) rfl).choose_spec, He.glo_ok X G (c.d.fact 7 (f := .glo "_law_company") rfl)⟩
  d_law_begin := ⟨_, (c.d.def_ 8 (d := dd_law_begin) rfl).choose, (c.d.def_ 8 (d := dd_law_begin) rfl).choose_spec, He.glo_ok X G (c.d.fact 8 (f := .glo "_law_begin") rfl)⟩
  d_law_arrows := ⟨_, (c.d.def_ 9 (d := dd_law_arrows) rfl).choose, (c.d.def_ 9 (d := dd_law_arrows) rfl).choose_spec, He.glo_ok X G (c.d.fact 9 (f := .glo "_law_arrows") rfl)⟩
  d_law_waits_count := ⟨_, (c.d.def_ 10 (d := dd_law_waits_count) rfl).choose, (c.d.def_ 10 (d := dd_law_waits_count) rfl).choose_spec, He.glo_ok X G (c.d.fact 10 (f := .glo "_law_waits_count") rfl)⟩
  d_law_can := ⟨_, (c.d.def_ 11 (d := dd_law_can) rfl).choose, (c.d.def_ 11 (d := dd_law_can) rfl).choose_spec, He.glo_ok X G (c.d.fact 11 (f := .glo "_law_can") rfl)⟩
  d_law_after := ⟨_, (c.d.def_ 12 (d := dd_law_after) rfl).choose, (c.d.def_ 12 (d := dd_law_after) rfl).choose_spec, He.glo_ok X G (c.d.fact 12 (f := .glo "_law_after") rfl)⟩
  d_law_steps := ⟨_, (c.d.def_ 13 (d := dd_law_steps) rfl).choose, (c.d.def_ 13 (d := dd_law_steps) rfl).choose_spec, He.glo_ok X G (c.d.fact 13 (f := .glo "_law_steps") rfl)⟩
  d_law_fresh := ⟨_, (c.d.def_ 14 (d := dd_law_fresh) rfl).choose, (c.d.def_ 14 (d := dd_law_fresh) rfl).choose_spec, He.glo_ok X G (c.d.fact 14 (f := .glo "_law_fresh") rfl)⟩
  d_law_other_crew := ⟨_, (c.d.def_ 15 (d := dd_law_other_crew) rfl).choose, (c.d.def_ 15 (d := dd_law_other_crew) rfl).choose_spec, He.glo_ok X G (c.d.fact 15 (f := .glo "_law_other_crew") rfl)⟩
  d_law_carried := ⟨_, (c.d.def_ 16 (d := dd_law_carried) rfl).choose, (c.d.def_ 16 (d := dd_law_carried) rfl).choose_spec, He.glo_ok X G (c.d.fact 16 (f := .glo "_law_carried") rfl)⟩
  d_law_steps_drawn := ⟨_, (c.d.def_ 17 (d := dd_law_steps_drawn) rfl).choose, (c.d.def_ 17 (d := dd_law_steps_drawn) rfl).choose_spec, He.glo_ok X G (c.d.fact 17 (f := .glo "_law_steps_drawn") rfl)⟩
  d_law_parts := ⟨_, (c.d.def_ 18 (d := dd_law_parts) rfl).choose, (c.d.def_ 18 (d := dd_law_parts) rfl).choose_spec, He.glo_ok X G (c.d.fact 18 (f := .glo "_law_parts") rfl)⟩
  d_law_said_drawn := ⟨_, (c.d.def_ 19 (d := dd_law_said_drawn) rfl).choose, (c.d.def_ 19 (d := dd_law_said_drawn) rfl).choose_spec, He.glo_ok X G (c.d.fact 19 (f := .glo "_law_said_drawn") rfl)⟩
  d_law_scroll_drawn := ⟨_, (c.d.def_ 20 (d := dd_law_scroll_drawn) rfl).choose, (c.d.def_ 20 (d := dd_law_scroll_drawn) rfl).choose_spec, He.glo_ok X G (c.d.fact 20 (f := .glo "_law_scroll_drawn") rfl)⟩
  d_is_name := ⟨_, (c.d.def_ 21 (d := dd_is_name) rfl).choose, (c.d.def_ 21 (d := dd_is_name) rfl).choose_spec, He.glo_ok X G (c.d.fact 21 (f := .glo "is_name") rfl)⟩
  d_is_sign := ⟨_, (c.d.def_ 22 (d := dd_is_sign) rfl).choose, (c.d.def_ 22 (d := dd_is_sign) rfl).choose_spec, He.glo_ok X G (c.d.fact 22 (f := .glo "is_sign") rfl)⟩
  d_is_arrow := ⟨_, (c.d.def_ 23 (d := dd_is_arrow) rfl).choose, (c.d.def_ 23 (d := dd_is_arrow) rfl).choose_spec, He.glo_ok X G (c.d.fact 23 (f := .glo "is_arrow") rfl)⟩
  d_is_writer := ⟨_, (c.d.def_ 24 (d := dd_is_writer) rfl).choose, (c.d.def_ 24 (d := dd_is_writer) rfl).choose_spec, He.glo_ok X G (c.d.fact 24 (f := .glo "is_writer") rfl)⟩
  d_need_writers := ⟨_, (c.d.def_ 25 (d := dd_need_writers) rfl).choose, (c.d.def_ 25 (d := dd_need_writers) rfl).choose_spec, He.glo_ok X G (c.d.fact 25 (f := .glo "need_writers") rfl)⟩
  d_Company___init__ := ⟨_, (c.d.def_ 26 (d := dd_Company___init__) rfl).choose, _, (c.d.def_ 26 (d := dd_Company___init__) rfl).choose_spec, He.mkr_ok (c.d.fact 26 (f := .mkr "Company") rfl), He.glo_ok X G (c.d.fact 57 (f := .glo "Company") rfl), fun F => ⟨_, _, rfl, ⟨_, _, rfl, tupAt_ok (show tupAt (He.dflAt ("Company", some "__init__") 0) [] K = true from c.b 0 (f := fb0) rfl) F, rfl⟩, rfl⟩⟩
  d_company_in := ⟨_, (c.d.def_ 27 (d := dd_company_in) rfl).choose, (c.d.def_ 27 (d := dd_company_in) rfl).choose_spec, He.glo_ok X G (c.d.fact 27 (f := .glo "company_in") rfl)⟩
  d_Scroll_add_step := ⟨_, (c.d.def_ 28 (d := dd_Scroll_add_step) rfl).choose, (c.d.def_ 28 (d := dd_Scroll_add_step) rfl).choose_spec, He.meth_ok (c.d.fact 28 (f := .meth "Scroll" "add_step") rfl)⟩
  d_Scroll___init__ := ⟨_, (c.d.def_ 29 (d := dd_Scroll___init__) rfl).choose, _, (c.d.def_ 29 (d := dd_Scroll___init__) rfl).choose_spec, He.mkr_ok (c.d.fact 29 (f := .mkr "Scroll") rfl), He.glo_ok X G (c.d.fact 60 (f := .glo "Scroll") rfl), rfl, fun F => ⟨_, _, rfl, ⟨_, _, rfl, tupAt_ok (show tupAt (kwdAt ("Scroll", some "__init__") "steps") [] K = true from c.b 1 (f := fb1) rfl) F, rfl⟩, ⟨_, _, rfl, ⟨_, _, rfl, tupAt_ok (show tupAt (kwdAt ("Scroll", some "__init__") "said") [] K = true from c.b 2 (f := fb2) rfl) F, rfl⟩, rfl⟩⟩⟩
  d_law_made := ⟨_, (c.d.def_ 30 (d := dd_law_made) rfl).choose, (c.d.def_ 30 (d := dd_law_made) rfl).choose_spec, He.glo_ok X G (c.d.fact 30 (f := .glo "_law_made") rfl)⟩
  d_law_turned := ⟨_, (c.d.def_ 31 (d := dd_law_turned) rfl).choose, (c.d.def_ 31 (d := dd_law_turned) rfl).choose_spec, He.glo_ok X G (c.d.fact 31 (f := .glo "_law_turned") rfl)⟩
  d_law_first := ⟨_, (c.d.def_ 32 (d := dd_law_first) rfl).choose, (c.d.def_ 32 (d := dd_law_first) rfl).choose_spec, He.glo_ok X G (c.d.fact 32 (f := .glo "_law_first") rfl)⟩
  d_law_broken := ⟨_, (c.d.def_ 33 (d := dd_law_broken) rfl).choose, (c.d.def_ 33 (d := dd_law_broken) rfl).choose_spec, He.glo_ok X G (c.d.fact 33 (f := .glo "_law_broken") rfl)⟩
  d_law_onward := ⟨_, (c.d.def_ 34 (d := dd_law_onward) rfl).choose, (c.d.def_ 34 (d := dd_law_onward) rfl).choose_spec, He.glo_ok X G (c.d.fact 34 (f := .glo "_law_onward") rfl)⟩
  d_law_forth := ⟨_, (c.d.def_ 35 (d := dd_law_forth) rfl).choose, (c.d.def_ 35 (d := dd_law_forth) rfl).choose_spec, He.glo_ok X G (c.d.fact 35 (f := .glo "_law_forth") rfl)⟩
  d_law_live := ⟨_, (c.d.def_ 36 (d := dd_law_live) rfl).choose, (c.d.def_ 36 (d := dd_law_live) rfl).choose_spec, He.glo_ok X G (c.d.fact 36 (f := .glo "_law_live") rfl)⟩
  d_Company_writers := ⟨_, (c.d.def_ 37 (d := dd_Company_writers) rfl).choose, (c.d.def_ 37 (d := dd_Company_writers) rfl).choose_spec, He.meth_ok (c.d.fact 37 (f := .meth "Company" "writers") rfl)⟩
  d_carried := ⟨_, (c.d.def_ 38 (d := dd_carried) rfl).choose, (c.d.def_ 38 (d := dd_carried) rfl).choose_spec, He.glo_ok X G (c.d.fact 38 (f := .glo "carried") rfl)⟩
  d_Scroll_turned := ⟨_, (c.d.def_ 39 (d := dd_Scroll_turned) rfl).choose, (c.d.def_ 39 (d := dd_Scroll_turned) rfl).choose_spec, He.meth_ok (c.d.fact 39 (f := .meth "Scroll" "turned") rfl)⟩
  d_Company_begin := ⟨_, (c.d.def_ 40 (d := dd_Company_begin) rfl).choose, (c.d.def_ 40 (d := dd_Company_begin) rfl).choose_spec, He.meth_ok (c.d.fact 40 (f := .meth "Company" "begin") rfl)⟩
  d_Scroll_first := ⟨_, (c.d.def_ 41 (d := dd_Scroll_first) rfl).choose, (c.d.def_ 41 (d := dd_Scroll_first) rfl).choose_spec, He.meth_ok (c.d.fact 41 (f := .meth "Scroll" "first") rfl)⟩
  d_arrows_at := ⟨_, (c.d.def_ 42 (d := dd_arrows_at) rfl).choose, (c.d.def_ 42 (d := dd_arrows_at) rfl).choose_spec, He.glo_ok X G (c.d.fact 42 (f := .glo "arrows_at") rfl)⟩
  d_is_done := ⟨_, (c.d.def_ 43 (d := dd_is_done) rfl).choose, (c.d.def_ 43 (d := dd_is_done) rfl).choose_spec, He.glo_ok X G (c.d.fact 43 (f := .glo "is_done") rfl)⟩
  d_Company_counts := ⟨_, (c.d.def_ 44 (d := dd_Company_counts) rfl).choose, (c.d.def_ 44 (d := dd_Company_counts) rfl).choose_spec, He.meth_ok (c.d.fact 44 (f := .meth "Company" "counts") rfl)⟩
  d_Company_may_write := ⟨_, (c.d.def_ 45 (d := dd_Company_may_write) rfl).choose, (c.d.def_ 45 (d := dd_Company_may_write) rfl).choose_spec, He.meth_ok (c.d.fact 45 (f := .meth "Company" "may_write") rfl)⟩
  d_Company_behind := ⟨_, (c.d.def_ 46 (d := dd_Company_behind) rfl).choose, (c.d.def_ 46 (d := dd_Company_behind) rfl).choose_spec, He.meth_ok (c.d.fact 46 (f := .meth "Company" "behind") rfl)⟩
  d_Company_steps := ⟨_, (c.d.def_ 47 (d := dd_Company_steps) rfl).choose, (c.d.def_ 47 (d := dd_Company_steps) rfl).choose_spec, He.meth_ok (c.d.fact 47 (f := .meth "Company" "steps") rfl)⟩
  d_Scroll_company := ⟨_, (c.d.def_ 48 (d := dd_Scroll_company) rfl).choose, (c.d.def_ 48 (d := dd_Scroll_company) rfl).choose_spec, He.meth_ok (c.d.fact 48 (f := .meth "Scroll" "company") rfl)⟩
  d_Scroll_every := ⟨_, (c.d.def_ 49 (d := dd_Scroll_every) rfl).choose, (c.d.def_ 49 (d := dd_Scroll_every) rfl).choose_spec, He.meth_ok (c.d.fact 49 (f := .meth "Scroll" "every") rfl)⟩
  d_Scroll_broken := ⟨_, (c.d.def_ 50 (d := dd_Scroll_broken) rfl).choose, (c.d.def_ 50 (d := dd_Scroll_broken) rfl).choose_spec, He.meth_ok (c.d.fact 50 (f := .meth "Scroll" "broken") rfl)⟩
  d_Scroll_onward := ⟨_, (c.d.def_ 51 (d := dd_Scroll_onward) rfl).choose, (c.d.def_ 51 (d := dd_Scroll_onward) rfl).choose_spec, He.meth_ok (c.d.fact 51 (f := .meth "Scroll" "onward") rfl)⟩
  d_Scroll_later_lot := ⟨_, (c.d.def_ 52 (d := dd_Scroll_later_lot) rfl).choose, (c.d.def_ 52 (d := dd_Scroll_later_lot) rfl).choose_spec, He.meth_ok (c.d.fact 52 (f := .meth "Scroll" "later_lot") rfl)⟩
  d_Scroll_forth := ⟨_, (c.d.def_ 53 (d := dd_Scroll_forth) rfl).choose, (c.d.def_ 53 (d := dd_Scroll_forth) rfl).choose_spec, He.meth_ok (c.d.fact 53 (f := .meth "Scroll" "forth") rfl)⟩
  d_Scroll_live := ⟨_, (c.d.def_ 54 (d := dd_Scroll_live) rfl).choose, (c.d.def_ 54 (d := dd_Scroll_live) rfl).choose_spec, He.meth_ok (c.d.fact 54 (f := .meth "Scroll" "live") rfl)⟩
  d_law_like := ⟨_, (c.d.def_ 55 (d := dd_law_like) rfl).choose, (c.d.def_ 55 (d := dd_law_like) rfl).choose_spec, He.glo_ok X G (c.d.fact 55 (f := .glo "_law_like") rfl)⟩
  d_law := ⟨_, (c.d.def_ 56 (d := dd_law) rfl).choose, (c.d.def_ 56 (d := dd_law) rfl).choose_spec, He.glo_ok X G (c.d.fact 56 (f := .glo "law") rfl)⟩
theorem facts {P : Program} {w : World} {K : PySem.W.Frag} {h : Heap} {mg : Str → Option Value} {f : Addr} (X : K.In h) (G : h.Ns mainGlobals mg) (hfa : mg ("law" : Str) = some (.ref f)) (c : SaysX fbl fal fnl K) :
    ∃ fd : FuncData, (∀ (s : Shared) (v : Value), BindsTo s fd ⟨[v], []⟩ [("_law_script", v)]) ∧ ∀ base : Heap, K.In base → base.Ns mainGlobals mg → FnOk P w K mg base CX0 12 f fd ["_law_script"] (upSp K 1 sp_law) := by
  obtain ⟨fd, F⟩ := c.d.def_ 56 (d := dd_law) rfl
  have e := hfa.symm.trans (He.glo_ok X G (c.d.fact 56 (f := .glo "law") rfl))
  cases e
  have T := txt X G c
  refine ⟨fd, fun s v => FunD.bindsA (ps := ["_law_script"]) F (fun _ _ _ _ _ _ us hl => match us, hl with | [_], _ => rfl) s [v] rfl, fun base _ _ => ?_⟩
  have o_law_bag := ok_law_bag (P := P) (w := w) (base := base) T
  have o_law_pull := ok_law_pull (P := P) (w := w) (base := base) T
  have o_law_of := ok_law_of (P := P) (w := w) (base := base) T o_law_pull
  have o_law_letters := ok_law_letters (P := P) (w := w) (base := base) T
  have o_law_signs := ok_law_signs (P := P) (w := w) (base := base) T o_law_pull o_law_of o_law_letters
  have o_law_names := ok_law_names (P := P) (w := w) (base := base) T o_law_pull o_law_letters o_law_of
  have o_law_writer := ok_law_writer (P := P) (w := w) (base := base) T o_law_pull o_law_of
  have o_law_company := ok_law_company (P := P) (w := w) (base := base) T o_law_of o_law_names o_law_pull o_law_writer
  have o_law_begin := ok_law_begin (P := P) (w := w) (base := base) T
  have o_law_arrows := ok_law_arrows (P := P) (w := w) (base := base) T
  have o_law_waits_count := ok_law_waits_count (P := P) (w := w) (base := base) T o_law_arrows
  have o_law_can := ok_law_can (P := P) (w := w) (base := base) T o_law_waits_count
  have o_law_after := ok_law_after (P := P) (w := w) (base := base) T o_law_waits_count
  have o_law_steps := ok_law_steps (P := P) (w := w) (base := base) T o_law_can o_law_arrows o_law_after
  have o_law_fresh := ok_law_fresh (P := P) (w := w) (base := base) T
  have o_law_other_crew := ok_law_other_crew (P := P) (w := w) (base := base) T o_law_pull o_law_fresh
  have o_law_carried := ok_law_carried (P := P) (w := w) (base := base) T
  have o_law_steps_drawn := ok_law_steps_drawn (P := P) (w := w) (base := base) T o_law_begin o_law_pull o_law_steps o_law_other_crew o_law_carried o_law_of
  have o_law_parts := ok_law_parts (P := P) (w := w) (base := base) T
  have o_law_said_drawn := ok_law_said_drawn (P := P) (w := w) (base := base) T o_law_pull o_law_of
  have o_law_scroll_drawn := ok_law_scroll_drawn (P := P) (w := w) (base := base) T o_law_signs o_law_company o_law_steps_drawn o_law_parts o_law_said_drawn
  have o_is_name := ok_is_name (P := P) (w := w) (base := base) T
  have o_is_sign := ok_is_sign (P := P) (w := w) (base := base) T
  have o_is_arrow := ok_is_arrow (P := P) (w := w) (base := base) T o_is_sign
  have o_is_writer := ok_is_writer (P := P) (w := w) (base := base) T o_is_name o_is_arrow
  have o_need_writers := ok_need_writers (P := P) (w := w) (base := base) T o_is_writer
  have o_Company___init__ := ok_Company___init__ (P := P) (w := w) (base := base) T o_need_writers
  have o_mk_Company_1 := mk_Company_1 o_Company___init__
  have o_company_in := ok_company_in (P := P) (w := w) (base := base) T o_mk_Company_1
  have o_Scroll_add_step := ok_Scroll_add_step (P := P) (w := w) (base := base) T o_company_in o_is_sign
  have o_Scroll___init__ := ok_Scroll___init__ (P := P) (w := w) (base := base) T o_Scroll_add_step o_is_name
  have o_mkk_Scroll_1_steps_said := mkk_Scroll_1_steps_said o_Scroll___init__
  have o_law_made := ok_law_made (P := P) (w := w) (base := base) T o_mk_Company_1 o_mkk_Scroll_1_steps_said
  have o_law_turned := ok_law_turned (P := P) (w := w) (base := base) T o_law_carried
  have o_law_first := ok_law_first (P := P) (w := w) (base := base) T o_law_turned o_law_begin
  have o_law_broken := ok_law_broken (P := P) (w := w) (base := base) T
  have o_law_onward := ok_law_onward (P := P) (w := w) (base := base) T o_law_steps o_law_broken o_law_turned
  have o_law_forth := ok_law_forth (P := P) (w := w) (base := base) T o_law_first o_law_onward
  have o_law_live := ok_law_live (P := P) (w := w) (base := base) T o_law_forth o_law_onward
  have o_Company_writers := ok_Company_writers (P := P) (w := w) (base := base) T
  have o_carried := ok_carried (P := P) (w := w) (base := base) T o_Company_writers
  have o_Scroll_turned := ok_Scroll_turned (P := P) (w := w) (base := base) T o_carried
  have o_Company_begin := ok_Company_begin (P := P) (w := w) (base := base) T
  have o_Scroll_first := ok_Scroll_first (P := P) (w := w) (base := base) T o_Scroll_turned o_Company_begin
  have o_arrows_at := ok_arrows_at (P := P) (w := w) (base := base) T
  have o_is_done := ok_is_done (P := P) (w := w) (base := base) T o_arrows_at
  have o_Company_counts := ok_Company_counts (P := P) (w := w) (base := base) T o_is_done
  have o_Company_may_write := ok_Company_may_write (P := P) (w := w) (base := base) T o_Company_counts
  have o_Company_behind := ok_Company_behind (P := P) (w := w) (base := base) T o_Company_counts
  have o_Company_steps := ok_Company_steps (P := P) (w := w) (base := base) T o_Company_may_write o_arrows_at o_Company_behind
  have o_Scroll_company := ok_Scroll_company (P := P) (w := w) (base := base) T
  have o_Scroll_every := ok_Scroll_every (P := P) (w := w) (base := base) T o_Company_steps o_Scroll_company o_Scroll_turned
  have o_Scroll_broken := ok_Scroll_broken (P := P) (w := w) (base := base) T
  have o_Scroll_onward := ok_Scroll_onward (P := P) (w := w) (base := base) T o_Scroll_every o_Scroll_broken
  have o_Scroll_later_lot := ok_Scroll_later_lot (P := P) (w := w) (base := base) T o_Scroll_onward
  have o_Scroll_forth := ok_Scroll_forth (P := P) (w := w) (base := base) T o_Scroll_first o_Scroll_later_lot
  have o_Scroll_live := ok_Scroll_live (P := P) (w := w) (base := base) T o_Scroll_forth o_Scroll_onward
  have o_law_like := oks_law_like (P := P) (w := w) (base := base) T 8
  exact fn_law F T o_law_bag o_law_scroll_drawn o_law_of o_law_made o_law_live o_Scroll_live o_law_like
end L3
open PySem PySem.W PySem.Calls PyProof.Rows
theorem PySem.Challenge.cw_whoseink_k16_live_lots_holds : PySem.Challenge.rw_whoseink_k16_live_lots.Holds := by
  w_on; o_law
  o_head L3.hk
  case hw => w_witness2
  case hc =>
    refine L2.walk_ofE (l := PySem.Challenge.rw_whoseink_k16_live_lots) (n := 63) (k := 12) (x := "_law_script") (CX := L2.CX0) rfl (by decide) (by kernel_rfl) ⟨rfl, by decide, by decide⟩ ?F (fun _ _ _ _ z => z)
    intro w mg fa h Y G hmg0
    obtain ⟨K, KX, c⟩ := Y
    have hmg : mg ("law" : PySem.Str) = some (.ref fa) := by
      exact hmg0
    obtain ⟨fd, hb, hF⟩ := L3.facts (P := (PySem.Challenge.rw_whoseink_k16_live_lots).prog) (w := w) KX G hmg c
    exact ⟨K, fd, L3.upSp K 1 L3.sp_law, KX, hb, fun H a ns hl _ hS => L3.law_start hS (L3.law_ok ns), hF⟩

